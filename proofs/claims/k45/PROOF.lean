import PyProof.Rows.All
import Wide.All
import OpenK.AllK
import Wide.FinOn
import PySem.Challenge.RW_areawright_k45_residues_of_parts
import HandS.ForExc
import HandS.HeadHook1
import HandS.ExcIs
import HandS.ForMost
import HandS.Flow
import HandS.Style
import HandS.Wide
import HandS.Zip
import HandS.Rev
import HandS.RevRange
import HandS.Conv
import HandS.TupAny
import HandS.Deep
import HandS.CallSlots
import HandS.IsInst
import HandS.Iter
import HandS.NoneIn
import HandS.TupMul
import KE.KeyNested
import KE.GoesEnum
import KE.GoesMore
import HandS.Dict
import KE.KDictWalk
import KE.KDictList
import HandS.ExcValue
import HandS.Defaults
import HandS.HeadHook2
import HandS.Head0
import HandS.Head1
import HandS.Head2
import HandS.HeadEnd
import KE.KStateDown
import Lean
set_option Elab.async false
set_option linter.all false
set_option maxRecDepth 100000
set_option maxHeartbeats 0
/-! AwTM: a tuple times one, times nought or less. -/
namespace L2
open PySem PySem.Spec PyProof.Rows
theorem tuple_mul1 (l : Addr) (items : Array Value) (n : Nat) (dd : Option Addr) (sl : Array (Option Value)) (x : Int) (u : Tok) (c0 : (decide (x < -(2 ^ 63)) || decide (x ≥ 2 ^ 63)) = false) (c1 : (items.isEmpty || x == 1) = true) :
    Meets (Builtin.«tuple.__mul__» ⟨[.ref l, .int x u], []⟩) (fun _ R s => s.heap.get? l = some { cls := .type "tuple", dict := dd, data := .seq items n, slots := sl } ∧
      R (.ok (.ret (Value.ref l))) s) :=
  .of_wp fun prog w A R s h => by
    obtain ⟨hp, g, d, tk, os⟩ := s
    obtain ⟨hl, h⟩ := h
    have f1 := AutoSeq1.idx_int
    wp_walk using wpAny_loadPart' hl
    repeat (first
      | (refine wpAny_ite_false (decide_eq_false (by rw [c0]; exact Bool.false_ne_true)) ?_; wp_walk using wpAny_loadPart' hl)
      | (refine wpAny_ite_true (decide_eq_true c1) ?_; wp_walk using wpAny_loadPart' hl))
    exact ⟨_, rfl, h⟩
theorem tuple_mul0 (l : Addr) (items : Array Value) (n : Nat) (dd : Option Addr) (sl : Array (Option Value)) (x : Int) (u : Tok) (c0 : (decide (x < -(2 ^ 63)) || decide (x ≥ 2 ^ 63)) = false) (c1 : (items.isEmpty || x == 1) = false) (c2 : (decide (x ≤ 0) || items.isEmpty) = true) :
    Meets (Builtin.«tuple.__mul__» ⟨[.ref l, .int x u], []⟩) (fun _ R s => s.heap.get? l = some { cls := .type "tuple", dict := dd, data := .seq items n, slots := sl } ∧
      R (.ok (.ret (Value.ref s.heap.objs.size))) { s with heap := s.heap.push { cls := Value.type "tuple", data := Data.seq #[] }, toks := s.toks }) :=
  .of_wp fun prog w A R s h => by
    obtain ⟨hp, g, d, tk, os⟩ := s
    obtain ⟨hl, h⟩ := h
    have f1 := AutoSeq1.idx_int
    wp_walk using wpAny_loadPart' hl
    repeat (first
      | (refine wpAny_ite_false (decide_eq_false (by rw [c0]; exact Bool.false_ne_true)) ?_; wp_walk using wpAny_loadPart' hl)
      | (refine wpAny_ite_false (decide_eq_false (by rw [c1]; exact Bool.false_ne_true)) ?_; wp_walk using wpAny_loadPart' hl)
      | (refine wpAny_ite_true (decide_eq_true c2) ?_; wp_walk using wpAny_loadPart' hl))
    exact ⟨_, rfl, h⟩
/-- t * k -/
def rRepTA (K : PySem.W.Frag) : R2 := fun x y H Q => ∃ l k xs, x = .ref l ∧ y = .int k ∧ SqT K H l xs ∧ xs.length ≤ sizeLine ∧ k ≤ 1000000 ∧ -1000000 ≤ k ∧ xs.length * k.toNat ≤ sizeLine ∧ ((xs = [] ∨ k = 1) → Q (.ref l) H) ∧ (¬ (xs = [] ∨ k = 1) → ∀ p, H p = none → Q (.ref p) (upd H p (.tup (List.replicate k.toNat xs).flatten)))
section
variable {X : Cx}
theorem op_repTA : OpR X (binaryOp .Mult) (rRepTA X.K) := by
  intro pins s σ H x y v u Q I rx ry h
  obtain ⟨l, k, xs, rfl, rfl, hT, hz, h1, h1', hm0, q1, q2⟩ := h
  cases rx
  obtain ⟨t, rfl⟩ := ry
  obtain ⟨its, r, ⟨⟨cls, dd, data, sl⟩, ho, hc, n, hd⟩, hs⟩ := I.tuple hT
  simp only at hc hd
  subst hc hd
  have hle : its.length = xs.length := r.length.symm
  have c0 : (decide (k < -(2 ^ 63)) || decide (k ≥ 2 ^ 63)) = false := by
    rw [decide_eq_false (by omega), decide_eq_false (by omega)] <;> rfl
  by_cases z : xs = [] ∨ k = 1
  · have c1 : (its.toArray.isEmpty || k == 1) = true := by
      rcases z with z | z
      · have : its = [] := by
          rw [z] at hle
          exact List.eq_nil_of_length_eq_zero hle
        subst this
        rfl
      · subst z
        cases its <;> rfl
    refine wpAny_binaryOp_repeat_ref (T := "tuple") (U := "int") (by decide) ⟨_, ho, rfl⟩ (fun s' => typeIs_int s' k t) noFill_tuple_mul F.fills_int_mul F.slot_int_rmul repeat_tuple F.slot_int_index.lookup
      (call_meets F.slot_int_rmul (typeIs_int s k t) F.entry_int_rmul (F.args_int_rmul_2 _ _) (int_rmul_tuple k t l its.toArray n dd sl)
        ⟨ho, rfl, ⟨_, ho, rfl⟩, call_meets F.slot_tuple_mul ⟨_, ho, rfl⟩ F.entry_tuple_mul (F.args_tuple_mul_2 _ _) (tuple_mul1 l its.toArray n dd sl k t c0 c1) ⟨ho, ?_⟩⟩)
    exact ⟨.ref l, H, I, rfl, q1 z⟩
  · have hn : its ≠ [] := fun e => z (.inl (by
      rw [e] at hle
      exact List.eq_nil_of_length_eq_zero hle.symm))
    have hi : its.toArray.isEmpty = false := by
      cases its with
      | nil => exact absurd rfl hn
      | cons a b => rfl
    have c1 : (its.toArray.isEmpty || k == 1) = false := by
      rw [hi, Bool.false_or]
      exact beq_eq_false_iff_ne.mpr fun e => z (.inr e)
    by_cases k0 : k ≤ 0
    · have c2 : (decide (k ≤ 0) || its.toArray.isEmpty) = true := by rw [decide_eq_true k0]; rfl
      refine wpAny_binaryOp_repeat_ref (T := "tuple") (U := "int") (by decide) ⟨_, ho, rfl⟩ (fun s' => typeIs_int s' k t) noFill_tuple_mul F.fills_int_mul F.slot_int_rmul repeat_tuple F.slot_int_index.lookup
        (call_meets F.slot_int_rmul (typeIs_int s k t) F.entry_int_rmul (F.args_int_rmul_2 _ _) (int_rmul_tuple k t l its.toArray n dd sl)
          ⟨ho, rfl, ⟨_, ho, rfl⟩, call_meets F.slot_tuple_mul ⟨_, ho, rfl⟩ F.entry_tuple_mul (F.args_tuple_mul_2 _ _) (tuple_mul0 l its.toArray n dd sl k t c0 c1 c2) ⟨ho, ?_⟩⟩)
      have e0 : (List.replicate k.toNat xs).flatten = [] := by rw [show k.toNat = 0 by omega]; rfl
      have q2 := q2 z
      rw [e0] at q2
      refine ⟨.ref s.heap.objs.size, _, I.laid (t' := s.toks) (o := .tup []) (fun b ob q => Heap.get?_push_of_some _ q) (Nat.le_refl _) ?_, rfl, q2 _ (I.hok.fresh (Nat.le_refl _))⟩
      exact ⟨Nat.zero_le _, [], .nil, IsTup.new _ _⟩
    · have hsz0 : its.toArray.size = xs.length := by rw [List.size_toArray, hle]
      have hmI : ((its.toArray.size : Nat) : Int) * k ≤ (sizeLine : Int) := by
        rw [hsz0]
        have : ((xs.length : Nat) : Int) * k = ((xs.length * k.toNat : Nat) : Int) := by
          rw [Int.natCast_mul, Int.toNat_of_nonneg (by omega)]
        omega
      have flen : (List.replicate k.toNat its).flatten.length ≤ sizeLine := by
        rw [PyProof.Rows.lm_len_rep_flat, hle, Nat.mul_comm]
        exact hm0
      have c2 : (decide (k ≤ 0) || its.toArray.isEmpty) = false := by
        rw [hi, Bool.or_false]
        exact decide_eq_false (by omega)
      have c4 : Builtin.Tuple.tupleTooMany (((its.toArray.size : Nat) : Int) * k) = false := by
        unfold Builtin.Tuple.tupleTooMany
        exact decide_eq_false (by omega)
      have sl_ : (sizeLine : Int) ≤ 100000000 := by rw [sizeLine_eq]; decide
      refine wpAny_binaryOp_repeat_ref (T := "tuple") (U := "int") (by decide) ⟨_, ho, rfl⟩ (fun s' => typeIs_int s' k t) noFill_tuple_mul F.fills_int_mul F.slot_int_rmul repeat_tuple F.slot_int_index.lookup
        (call_meets F.slot_int_rmul (typeIs_int s k t) F.entry_int_rmul (F.args_int_rmul_2 _ _) (int_rmul_tuple k t l its.toArray n dd sl)
          ⟨ho, rfl, ⟨_, ho, rfl⟩, call_meets F.slot_tuple_mul ⟨_, ho, rfl⟩ F.entry_tuple_mul (F.args_tuple_mul_2 _ _) (tuple_mulW l its.toArray n dd sl k t c0 c1 c2 (by omega) c4 (by rw [size_rep, List.size_toArray]; exact flen)) ⟨ho, ?_⟩⟩)
      rw [size_rep]
      refine ⟨.ref s.heap.objs.size, _, I.laid (t' := s.toks) (o := .tup (List.replicate k.toNat xs).flatten) (fun b ob q => Heap.get?_push_of_some _ q) (Nat.le_refl _) ?_, rfl, q2 z _ (I.hok.fresh (Nat.le_refl _))⟩
      exact ⟨by rw [PyProof.Rows.lm_len_rep_flat, Nat.mul_comm]; exact hm0, _, r.rep k.toNat, IsTup.new _ _⟩
end
end L2

/-! AwTR: a tuple, a list, turned about by [::-1]; a list times an int. -/
namespace HT
open PySem PySem.Spec PyProof.Rows
section
variable {prog : Program} {w : World} {A : Around} {E : Value → Shared → Prop} {s : Shared}
theorem adjust_rev (n : Nat) : Builtin.Slice.sliceAdjust none none (-1) (n : Int) = ((n : Int) - 1, -1) := by
  unfold Builtin.Slice.sliceAdjust
  simp
theorem places_rev (n : Nat) : Builtin.Slice.slicePlaces ((n : Int) - 1) (-1) (-1) = n := by
  unfold Builtin.Slice.slicePlaces
  have h1 : ¬ ((-1 : Int) > 0) := by decide
  simp only [h1, if_false]
  split
  · have : ((n : Int) - 1 - -1 - -1 - 1) / (- -1) = (n : Int) := by
      rw [show (- -1 : Int) = 1 by decide, Int.ediv_one] <;> omega
    first
      | (rw [this]; simp; done)
      | (simp; done)
      | (simp; omega)
  · omega
theorem sliceApplied_rev {sl : Addr} {vs : Value} {n : Nat} {Q : Int × Int × Nat → Shared → Prop} (hs : s.heap.IsSliceOf sl .none .none vs) (ps : IsPart vs (some (-1)))
    (h : Q ((n : Int) - 1, -1, n) s) : wpAny (model prog w) A (Builtin.Slice.sliceApplied (.ref sl) (pure (n : Int))) Q E s := by
  obtain ⟨os, hos, hcs, hds⟩ := id hs
  unfold Builtin.Slice.sliceApplied Builtin.Slice.sliceFields
  refine wpAny_bind (wpAny_bind (wpAny_field hos hds (x := .none) rfl (wpAny_bind (wpAny_field hos hds (x := .none) rfl (wpAny_bind (wpAny_field hos hds (x := vs) rfl (wpAny_pure ?_)))))))
  refine wpAny_bind (slicePart_ ps ?_)
  show wpAny _ _ (if ((-1 : Int) == 0) = true then _ else _) _ _ s
  rw [if_neg (by decide)]
  refine wpAny_bind (slicePart_ .none (wpAny_bind (slicePart_ .none (wpAny_bind (wpAny_pure ?_)))))
  show wpAny _ _ (match Builtin.Slice.sliceAdjust none none (-1) (n : Int) with | (lo, hi) => pure (lo, (-1 : Int), Builtin.Slice.slicePlaces lo hi (-1))) _ _ s
  rw [adjust_rev n]
  show wpAny _ _ (pure ((n : Int) - 1, (-1 : Int), Builtin.Slice.slicePlaces ((n : Int) - 1) (-1) (-1))) _ _ s
  rw [places_rev]
  exact wpAny_pure h
theorem fm_congr {α β : Type} {f g : α → Option β} : ∀ {l : List α}, (∀ a ∈ l, f a = g a) → l.filterMap f = l.filterMap g
  | [], _ => rfl
  | a :: l, h => by
    rw [List.filterMap_cons, List.filterMap_cons, h a List.mem_cons_self, fm_congr fun b hb => h b (List.mem_cons_of_mem _ hb)]
theorem pick_rev (xs : Array Value) : ((List.range xs.size).filterMap fun (m : Nat) => xs[((xs.size : Int) - 1 + (m : Int) * (-1)).toNat]?).toArray = xs.toList.reverse.toArray := by
  have h1 := PySem.W.krv_all xs
  rw [← h1, ← List.filterMap_reverse, ← PySem.W.krv_range, List.filterMap_map]
  congr 1
  refine fm_congr fun m hm => ?_
  have := List.mem_range.mp hm
  show _ = xs[xs.size - 1 - m]?
  congr 1
  omega
theorem getItem_tuple_rev {t sl : Addr} {items : Array Value} {vs : Value} {Q : Value → Shared → Prop} (ht : IsTup s.heap t items) (hs : s.heap.IsSliceOf sl .none .none vs) (ps : IsPart vs (some (-1)))
    (h : Q (.ref s.heap.objs.size) { s with heap := s.heap.push { cls := .type "tuple", data := .seq items.toList.reverse.toArray } })
    (hsz : items.size ≤ sizeLine) : wpAny (model prog w) A (getItem (.ref t) (.ref sl)) Q E s := by
  have htake : sizeOk (.seq items.toList.reverse.toArray) := by
    show items.toList.reverse.toArray.size ≤ sizeLine
    rw [List.size_toArray, List.length_reverse, Array.length_toList]
    exact hsz
  obtain ⟨os, hos, hcs, hds⟩ := id hs
  have hTs : s.TypeIs (.ref sl) "slice" := ⟨os, hos, hcs⟩
  unfold getItem
  try with_reducible refine wpAny_holding ?_
  first | refine wpAny_bind (wpAny_pure ?_) | skip
  refine wpAny_bind (wpAny_sequenceKey ht.typeIs (by decide) ?_)
  refine wpAny_bind (wpAny_callSpecial?_slot (name := Str.ofString "__getitem__") ht.typeIs PyProof.Rows.slot_tuple_getitem
    (wpAny_call_entry PyProof.Rows.slot_tuple_getitem ht.typeIs entry_tuple_getitem ?_ (args_tuple_getitem _ _)))
  show wpAny _ _ (Builtin.Tuple.tupleItemsOf (.ref t) >>= _) _ _ s
  refine wpAny_bind (tupleItemsOf_ ht ?_)
  refine wpAny_bind (wpAny_typeOf hTs ?_)
  rw [if_pos (by decide)]
  refine wpAny_bind (sliceApplied_rev hs ps ?_)
  show wpAny _ _ (if (((items.size : Int) - 1) == 0 && (-1 : Int) == 1 && items.size == items.size) = true then _ else _) _ _ s
  have hno : ¬ ((((items.size : Int) - 1) == 0 && (-1 : Int) == 1 && items.size == items.size) = true) := by
    intro q
    rw [Bool.and_eq_true, Bool.and_eq_true] at q
    have := q.1.2
    cases this
  rw [if_neg hno, pick_rev]
  first
    | exact wpAny_bind (m := Builtin.Tuple.tupleExact _) (wpAny_newObj_type (wpAny_pure ⟨_, rfl, wpAny_pure h⟩) htake)
    | exact wpAny_bind (m := Builtin.Tuple.tupleExact _) (wpAny_newObj_type (wpAny_bind (wpAny_pure (wpAny_pure ⟨_, rfl, wpAny_pure h⟩))) htake)
    | exact wpAny_bind (wpAny_bind (m := Builtin.Tuple.tupleExact _) (wpAny_newObj_type (wpAny_pure (wpAny_pure ⟨_, rfl, wpAny_pure h⟩)) htake))
    | exact wpAny_bind (wpAny_bind (m := Builtin.Tuple.tupleExact _) (wpAny_newObj_type (wpAny_pure ⟨_, rfl, wpAny_pure h⟩) htake))
end
end HT
namespace L2
open PySem PySem.Spec PyProof.Rows
section
variable {X : Cx}
/-- x[::-1] of a list or a tuple -/
def tRevA (K : PySem.W.Frag) (te : TE) : TE := fun σ H Q => te σ H fun x H1 => ∃ a xs, x = .ref a ∧ ((SqL K H1 a xs ∧ ∀ p, H1 p = none → Q (.ref p) (upd H1 p (.lst xs.reverse))) ∨ (SqT K H1 a xs ∧ ∀ p, H1 p = none → Q (.ref p) (upd H1 p (.tup xs.reverse))))
theorem pe_revA {e : Expr} {te : TE} {k : Nat} {p1 p2 p3 pos : Pos} (he : PE X e te) : PE X (.Subscript e (.Slice none none (some (.UnaryOp .USub (.Constant (.int 1) k p1) p2)) p3) pos) (tRevA X.K te) := by
  refine ⟨fun pins s σ H Q I h => ?_⟩
  refine Subscript_ (thn (he.run pins s σ H _ I h) fun v s1 ⟨x, H1, I1, r1, q1⟩ => ?_)
  obtain ⟨a, xs, ex, hq⟩ := q1
  subst ex
  cases r1
  have hst : PO X (some (.UnaryOp .USub (.Constant (.int 1) k p1) p2)) (tPart (tUn (rU fun i => .int (-i)) (tC (.int 1)))) := po_some (pe_un un_neg pe_int)
  refine wpAny_Slice (thn (po_none.run pins s1 σ H1 (fun o H2 => o = none ∧ H2 = H1) I1 ⟨rfl, rfl⟩) fun vl s2 ⟨l, H2, I2, pl, el, e2⟩ => ?_)
  subst el e2
  refine thn (po_none.run pins s2 σ H2 (fun o H3 => o = none ∧ H3 = H2) I2 ⟨rfl, rfl⟩) fun vu s3 ⟨u, H3, I3, pu, eu, e3⟩ => ?_
  subst eu e3
  refine thn (hst.run pins s3 σ H3 (fun o H4 => o = some (-1) ∧ H4 = H3) I3 ⟨1, rfl, -1, rfl, rfl, rfl⟩) fun vs s4 ⟨o, H4, I4, ps, eo, e4⟩ => ?_
  subst eo e4
  have I5 : Inv X pins σ H4 { s4 with heap := s4.heap.push { cls := .type "slice", data := .fields #[vl, vu, vs] } } := I4.kept (t' := s4.toks) fun b ob q => Heap.get?_push_of_some _ q
  cases pl
  cases pu
  rcases hq with ⟨hx, q⟩ | ⟨hx, q⟩
  · obtain ⟨its, r, ht, hz⟩ := I5.list hx
    have hlen := r.length
    show wpAny (model X.prog X.w) X.A (subscriptTail e (.Slice none none (some (.UnaryOp .USub (.Constant (.int 1) k p1) p2)) p3) (.ref a) (.ref s4.heap.objs.size)) (EP X pins σ Q) X.xe { s4 with heap := s4.heap.push { cls := .type "slice", data := .fields #[.none, .none, vs] } }
    refine tail_any (ops := [.ref a, .ref s4.heap.objs.size]) ht.isList.typeIs (PySem.slot_list_getitem.lookup) ?_ (by with_unfolding_all rfl)
    refine wpAny_getItem_list_slice ht.isList (Heap.IsSliceOf.new _ .none .none vs) .none .none ps (by decide) ?_ (by rw [List.size_toArray]; omega)
    rw [PySem.W.krv_pick]
    refine ⟨.ref _, _, I5.laid (t' := s4.toks) (o := .lst xs.reverse) (fun b ob q => Heap.get?_push_of_some _ q) (Nat.le_refl _) ?_, rfl, q _ (I5.hok.fresh (Nat.le_refl _))⟩
    exact ⟨by rw [List.length_reverse]; exact hz, _, 0, r.reverse, Heap.get?_push_size _ rfl⟩
  · obtain ⟨its, r, ht, hz⟩ := I5.tuple hx
    have hlen := r.length
    show wpAny (model X.prog X.w) X.A (subscriptTail e (.Slice none none (some (.UnaryOp .USub (.Constant (.int 1) k p1) p2)) p3) (.ref a) (.ref s4.heap.objs.size)) (EP X pins σ Q) X.xe { s4 with heap := s4.heap.push { cls := .type "slice", data := .fields #[.none, .none, vs] } }
    refine tail_any (ops := [.ref a, .ref s4.heap.objs.size]) ht.typeIs (PyProof.Rows.slot_tuple_getitem.lookup) ?_ (by with_unfolding_all rfl)
    refine HT.getItem_tuple_rev ht (Heap.IsSliceOf.new _ .none .none vs) ps ?_ (by rw [List.size_toArray]; omega)
    refine ⟨.ref _, _, I5.laid (t' := s4.toks) (o := .tup xs.reverse) (fun b ob q => Heap.get?_push_of_some _ q) (Nat.le_refl _) ?_, rfl, q _ (I5.hok.fresh (Nat.le_refl _))⟩
    exact ⟨by rw [List.length_reverse]; exact hz, _, r.reverse, IsTup.new _ _⟩
end
end L2

/-! AwSem: a small language of values, for pure defs: its terms and what they reckon (no heap in sight). -/
namespace AW
open PySem

abbrev D := PyData
/-- the names of the def whose body is spoken of -/
class Nm where
  n : Nat → Str

/-- a reckoning: a value, an own error of the c-th class, or nothing known -/
inductive R (α : Type) where
  | ok (a : α) | ex (c : Nat) | no
namespace R
def bind {α β : Type} : R α → (α → R β) → R β
  | .ok a, f => f a
  | .ex c, _ => .ex c
  | .no, _ => .no
/-- without errors -/
def nox {α : Type} : R α → R α
  | .ok a => .ok a
  | _ => .no
@[simp] theorem bind_ok {α β : Type} (a : α) (f : α → R β) : (R.ok a).bind f = f a := rfl
@[simp] theorem bind_ex {α β : Type} (c : Nat) (f : α → R β) : (R.ex c : R α).bind f = .ex c := rfl
@[simp] theorem bind_no {α β : Type} (f : α → R β) : (R.no : R α).bind f = .no := rfl
@[simp] theorem nox_ok {α : Type} (a : α) : (R.ok a).nox = .ok a := rfl
theorem bind_assoc {α β γ : Type} (r : R α) (f : α → R β) (g : β → R γ) : (r.bind f).bind g = r.bind fun a => (f a).bind g := by cases r <;> rfl
theorem of_bind {α β : Type} {r : R α} {f : α → R β} {b : β} (h : r.bind f = .ok b) : ∃ a, r = .ok a ∧ f a = .ok b := by
  cases r with
  | ok a => exact ⟨a, rfl, h⟩
  | ex c => cases h
  | no => cases h
theorem of_nox {α : Type} {r : R α} {a : α} (h : r.nox = .ok a) : r = .ok a := by
  cases r with
  | ok b => exact h
  | ex c => cases h
  | no => cases h
end R

/-- what a def's name holds: nothing known; a value; a list of its own; a list that is read alone; a caught error of the c-th class; the def of that name; a dict of its own, its keys tuples of ints and such tuples -/
inductive Sl where
  | un | va (d : D) | ow (ds : List D) | rd (ds : List D) | er (c : Nat) | fn (n : Str) | dk (kvs : List (D × D))
/-- what may be changed; what has an object of its own -/
def Sl.mu : Sl → Bool
  | .ow _ => true
  | .dk _ => true
  | _ => false
def Sl.own : Sl → Bool
  | .ow _ => true
  | .dk _ => true
  | .er _ => true
  | _ => false
abbrev En := List Sl

mutual
inductive Tg where
  | nm (i : Nat) | tp (ts : Tgs)
inductive Tgs where
  | nil | cons (t : Tg) (r : Tgs)
end
inductive O1 where
  | neg | abs | len | list | tuple | all | strI | intB
inductive O2 where
  | add | sub | mul | fdiv | mod | pow | eq | ne | lt | le | gt | ge | is_ | isn | idx | inn | nin | max2 | min2
inductive M1 where
  | count | index
inductive Ty where
  | bi (n : String) | ow (c : Nat)
/-- a class to ask a caught error about: an own one, the one above them, ValueError -/
inductive Te where
  | ow (c : Nat) | top | ve
def erTy (c : Nat) : Te → Bool
  | .ow k => c == k
  | _ => true

mutual
inductive E where
  | var (i : Nat) | peek (i : Nat) | con (d : D) | emp | glb (x : Nat)
  | tup (es : Es) | lst (es : Es) | rep (es : Es) (n : E)
  | op1 (o : O1) (a : E) | op2 (o : O2) (a b : E)
  | chn (o p : O2) (a b c : E)
  | and (a b : E) | or (a b : E) | not (a : E) | ife (t a b : E)
  | slc (a : E) (lo hi : Eo)
  | revs (a : E) | repE (a n : E)
  | call (j : Nat) (es : Es) (m : Nat)
  | callv (j : Nat) (es : Es) (m : Nat)
  | fnv (n : Str) | callL (i : Nat) (cs : List (Str × Nat)) (es : Es)
  | isi (a : E) (ts : List Ty)
  | mth (o : M1) (a b : E)
  | dget (i : Nat) (k x : E) | dvals (i : Nat)
  | erv (i : Nat) | isE (i : Nat) (ks : List Nat) (ts : List Te) | isN (i : Nat) (neg : Bool)
  | cmp (elt : E) (tg : Tg) (it : It) (ifs : Eo) (own : List (Str × Nat))
inductive Es where
  | nil | cons (e : E) (r : Es)
inductive Eo where
  | none | some (e : E)
inductive It where
  | seq (a : E) | rng1 (a : E) | rng2 (a b : E) | rng3 (a b c : E) | rev (a : E) | revr (a : E) | enum (a : E) | zip (a b : E)
end

mutual
inductive S where
  | pass
  | asg (tg : Tg) (e : E)
  | asgO (i : Nat) (e : E)
  | dnew (i : Nat)
  | asgC (i : Nat) (own : Bool) (e : E)
  | par (is : List Nat) (es : Es)
  | setI (i : Nat) (k e : E)
  | aug (i : Nat) (o : O2) (e : E)
  | app (i : Nat) (e : E)
  | extT (i : Nat) (e : E)
  | pop (i : Nat)
  | popA (tg : Tg) (i : Nat)
  | rvs (i : Nat)
  | frz (i : Nat)
  | ite (t : E) (a b : Ss)
  | whl (t : E) (b : Ss)
  | for_ (tg : Tg) (it : It) (b : Ss)
  | ret (e : E) | retO (i : Nat) | retN
  | brk | cnt
  | rai (c : Nat)
  | exp (e : E)
  | tryA (h i : Nat) (ks : List Nat) (b : Ss)
  | dead
inductive Ss where
  | nil | cons (s : S) (r : Ss)
end

/-- a statement's end -/
inductive Fl where
  | nx (en : En) | bk (en : En) | ct (en : En) | rt (d : D) (f : Bool) | ex (c : Nat) (en : En)
/-- an expression's error is the statement's -/
def lf {α : Type} (en : En) : R α → (α → R Fl) → R Fl
  | .ok a, f => f a
  | .ex c, _ => .ok (.ex c en)
  | .no, _ => .no
@[simp] theorem lf_ok {α : Type} (en : En) (a : α) (f : α → R Fl) : lf en (.ok a) f = f a := rfl
@[simp] theorem lf_no {α : Type} (en : En) (f : α → R Fl) : lf en .no f = .no := rfl
@[simp] theorem lf_ex {α : Type} (en : En) (c : Nat) (f : α → R Fl) : lf en (.ex c) f = .ok (.ex c en) := rfl

/-! ### values -/
def line : Nat := 16777216
def tru : D → Bool
  | .none => false
  | .bool b => b
  | .int i => i != 0
  | .str x => (x.length : Int) != 0
  | .list xs => !xs.isEmpty
  | .tuple xs => !xs.isEmpty
  | .dict kvs => !kvs.isEmpty
def truR : D → R Bool
  | .dict _ => .no
  | .str x => if x.length ≤ line then .ok (tru (.str x)) else .no
  | d => .ok (tru d)
/-- a product's size -/
def mulOk (i j : Int) : Bool := decide (i.natAbs < 2 ^ 64 ∨ j.natAbs < 2 ^ 64 ∨ i.natAbs.log2 + j.natAbs.log2 < 100000000)
def cutL (xs : List D) (lo hi : Option Int) : List D := (xs.drop (HT.sIx xs.length 0 lo)).take (HT.sIx xs.length xs.length hi - HT.sIx xs.length 0 lo)
def allB : List D → R Bool
  | [] => .ok true
  | .bool b :: r => (allB r).bind fun c => .ok (b && c)
  | _ => .no
def v1 (d : D) : R (D × Bool) := .ok (d, false)
def sem1 : O1 → D → R (D × Bool)
  | .neg, .int i => v1 (.int (-i))
  | .abs, .int i => v1 (.int (if i < 0 then -i else i))
  | .len, .list xs => v1 (.int xs.length)
  | .len, .tuple xs => v1 (.int xs.length)
  | .len, .str x => if x.length ≤ line then v1 (.int x.length) else .no
  | .list, .list xs => .ok (.list xs, true)
  | .list, .tuple xs => .ok (.list xs, true)
  | .tuple, .list xs => v1 (.tuple xs)
  | .tuple, .tuple xs => v1 (.tuple xs)
  | .all, .list xs => (allB xs).bind fun b => v1 (.bool b)
  | .intB, .bool b => v1 (.int (if b then 1 else 0))
  | .intB, .int i => v1 (.int i)
  | .strI, .int i => if i.natAbs.log2 < 1920 then v1 (.str (toString i)) else .no
  | _, _ => .no
def isD : D → D → R Bool
  | .none, .none => .ok true
  | _, .none => .ok false
  | .bool a, .bool b => .ok (a == b)
  | _, _ => .no
def cmpI (f : Int → Int → Bool) : D → D → R (D × Bool)
  | .int i, .int j => v1 (.bool (f i j))
  | _, _ => .no
def atD (xs : List D) (i : Int) : R (D × Bool) := match L2.atI xs i with
  | some d => v1 d
  | none => .no
def sem2 : O2 → D → D → R (D × Bool)
  | .add, .int i, .int j => v1 (.int (i + j))
  | .add, .str x, .str y => if x.length + y.length ≤ line then v1 (.str (x ++ y)) else .no
  | .add, .list xs, .list ys => if xs.length + ys.length ≤ line then .ok (.list (xs ++ ys), true) else .no
  | .add, .tuple xs, .tuple ys => if xs.length + ys.length ≤ line then v1 (.tuple (xs ++ ys)) else .no
  | .sub, .int i, .int j => v1 (.int (i - j))
  | .mul, .int i, .int j => if mulOk i j then v1 (.int (i * j)) else .no
  | .mul, .tuple xs, .int n => if -1000000 ≤ n ∧ n ≤ 1000000 ∧ xs.length * n.toNat ≤ line then v1 (.tuple (List.replicate n.toNat xs).flatten) else .no
  | .fdiv, .int i, .int j => if j = 0 then .no else v1 (.int (i.fdiv j))
  | .mod, .int i, .int j => if j = 0 then .no else v1 (.int (i.fmod j))
  | .pow, .int i, .int j => if 0 ≤ j ∧ j ≤ 1000000 ∧ i.natAbs < 2 ^ 64 then v1 (.int (i ^ j.toNat)) else .no
  | .eq, a, b => if SeqAt.shaped a = true ∧ SeqAt.shaped b = true then v1 (.bool (a.eqv b)) else .no
  | .ne, a, b => if SeqAt.shaped a = true ∧ SeqAt.shaped b = true then v1 (.bool (!a.eqv b)) else .no
  | .lt, a, b => cmpI (fun i j => decide (i < j)) a b
  | .le, a, b => cmpI (fun i j => decide (i ≤ j)) a b
  | .gt, a, b => cmpI (fun i j => decide (j < i)) a b
  | .ge, a, b => cmpI (fun i j => decide (j ≤ i)) a b
  | .is_, a, b => (isD a b).bind fun c => v1 (.bool c)
  | .isn, a, b => (isD a b).bind fun c => v1 (.bool (!c))
  | .idx, .list xs, .int i => atD xs i
  | .idx, .tuple xs, .int i => atD xs i
  | .inn, d, .list xs => if SeqAt.shaped d = true ∧ SeqAt.shaped (.list xs) = true then v1 (.bool (xs.any fun z => z.eqv d)) else .no
  | .nin, d, .list xs => if SeqAt.shaped d = true ∧ SeqAt.shaped (.list xs) = true then v1 (.bool (!xs.any fun z => z.eqv d)) else .no
  | .max2, .int i, .int j => v1 (.int (if j > i then j else i))
  | .min2, .int i, .int j => v1 (.int (if j < i then j else i))
  | _, _, _ => .no
/-- a method of a list that changes nothing -/
def semM : M1 → List D → D → R (D × Bool)
  | .count, xs, d => if SeqAt.shaped (.list xs) = true ∧ SeqAt.shaped d = true then v1 (.int (xs.countP fun z => z.eqv d)) else .no
  | .index, xs, d => if SeqAt.shaped (.list xs) = true ∧ SeqAt.shaped d = true then (match xs.findIdx? fun z => z.eqv d with
    | some j => v1 (.int (j : Nat))
    | none => .no) else .no
def semSl : D → Option Int → Option Int → R (D × Bool)
  | .list xs, lo, hi => .ok (.list (cutL xs lo hi), true)
  | .tuple xs, lo, hi => v1 (.tuple (cutL xs lo hi))
  | _, _, _ => .no
def semRev : D → R (D × Bool)
  | .list xs => .ok (.list xs.reverse, true)
  | .tuple xs => v1 (.tuple xs.reverse)
  | _ => .no
/-- a new list so often -/
def semRep : D × Bool → Int → R (D × Bool)
  | (.list ds, true), k => if -1000000 ≤ k ∧ k ≤ 1000000 ∧ ds.length * k.toNat ≤ line then .ok (.list (List.replicate k.toNat ds).flatten, true) else .no
  | _, _ => .no
/-- whether a value's class is under one of these -/
def isTy : D → Ty → Bool
  | .none, .bi n => n == "NoneType"
  | .bool _, .bi n => n == "bool" || n == "int"
  | .int _, .bi n => n == "int"
  | .str _, .bi n => n == "str"
  | .list _, .bi n => n == "list"
  | .tuple _, .bi n => n == "tuple"
  | .dict _, .bi n => n == "dict"
  | _, .ow _ => false

/-! ### keys -/
mutual
def nk : D → NestedKey
  | .int i => .num i
  | .tuple ds => .tup (nks ds)
  | _ => .none
def nks : List D → List NestedKey
  | [] => []
  | d :: ds => nk d :: nks ds
end
mutual
/-- ints and tuples alone -/
def keyB : D → Bool
  | .int _ => true
  | .tuple ds => keyBs ds
  | _ => false
def keyBs : List D → Bool
  | [] => true
  | d :: ds => keyB d && keyBs ds
end
def tupB : D → Bool
  | .tuple _ => true
  | _ => false
def keyOk (d : D) : Bool := tupB d && keyB d && decide ((nk d).depth ≤ 8)
def dlook (kvs : List (D × D)) (k : D) : Option D := (kvs.find? fun x => decide (nk x.1 = nk k)).map (·.2)
def dput (kvs : List (D × D)) (k d : D) : List (D × D) := if (dlook kvs k).isSome then kvs.map (fun x => if nk x.1 = nk k then (x.1, d) else x) else kvs ++ [(k, d)]

/-! ### names -/
def val (en : En) (i : Nat) : R D := match en[i]? with
  | some (.va d) => .ok d
  | _ => .no
/-- a value that is read -/
def rd1 (x : E) (en : En) (r : R (D × Bool)) : R D := match x with
  | .peek i => (match en[i]? with
    | some (.ow ds) => .ok (.list ds)
    | some (.rd ds) => .ok (.list ds)
    | _ => .no)
  | _ => r.bind fun p => .ok p.1
/-- an argument -/
def arg1 (x : E) (en : En) (r : R (D × Bool)) : R Sl := match x with
  | .erv i => (match en[i]? with
    | some (.er c) => .ok (.er c)
    | some (.va .none) => .ok (.va .none)
    | _ => .no)
  | .peek i => (match en[i]? with
    | some (.ow ds) => .ok (.rd ds)
    | some (.rd ds) => .ok (.rd ds)
    | _ => .no)
  | .fnv n => .ok (.fn n)
  | _ => r.bind fun p => .ok (.va p.1)
mutual
/-- without a list anywhere in it -/
def noL : D → Bool
  | .list _ => false
  | .dict _ => false
  | .tuple xs => noLs xs
  | _ => true
def noLs : List D → Bool
  | [] => true
  | d :: ds => noL d && noLs ds
end
/-- what is lent, as a value -/
def asV : List Sl → List Sl
  | [] => []
  | .rd ds :: ss => .va (.list ds) :: asV ss
  | s :: ss => s :: asV ss
mutual
def bindT : Tg → D → En → R En
  | .nm i, d, en => .ok (en.set i (.va d))
  | .tp ts, d, en => (match d with
    | .tuple ds => bindTs ts ds en
    | .list ds => bindTs ts ds en
    | _ => .no)
def bindTs : Tgs → List D → En → R En
  | .nil, [], en => .ok en
  | .cons t r, d :: ds, en => (bindT t d en).bind fun en' => bindTs r ds en'
  | _, _, _ => .no
end
def wipe (en : En) : List Nat → En
  | [] => en
  | v :: vs => (wipe en vs).set v .un

/-! ### what is walked -/
def intR : D → R Int
  | .int i => .ok i
  | _ => .no
def seqR : D → R (List D)
  | .list xs => .ok xs
  | .tuple xs => .ok xs
  | _ => .no
def listR : D → R (List D)
  | .list xs => .ok xs
  | _ => .no
def small (i : Int) : Bool := Nat.ble i.natAbs.log2 61
def rngD (lo : Int) (n : Nat) : List D := (List.range n).map fun k => .int (lo + (k : Nat))
def rngR (i j : Int) : R (List D) := if small i && small j then .ok (rngD i (j - i).toNat) else .no
def rngD3 (lo c : Int) (n : Nat) : List D := (List.range n).map fun k => .int (lo + (k : Nat) * c)
def rngR3 (i j c : Int) : R (List D) := if c ≠ 0 ∧ c.natAbs < 1073741824 ∧ Builtin.Range.small i j c = true ∧ 0 ≤ Builtin.Range.rangeSize i j c then .ok (rngD3 i c (Builtin.Range.rangeSize i j c).toNat) else .no
def enumD (xs : List D) : List D := (List.range xs.length).zipWith (fun k x => .tuple [.int (k : Nat), x]) xs
def zipD (xs ys : List D) : List D := List.zipWith (fun x y => .tuple [x, y]) xs ys
def zipR : D → D → R (List D)
  | .list xs, .list ys => .ok (zipD xs ys)
  | .tuple xs, .tuple ys => .ok (zipD xs ys)
  | _, _ => .no
def consO {α : Type} : Option α → List α → List α
  | some y, ys => y :: ys
  | none, ys => ys
/-- a comprehension's turns -/
def compL (f : D → R (Option D)) : List D → R (List D)
  | [] => .ok []
  | d :: ds => (f d).bind fun o => (compL f ds).bind fun ys => .ok (consO o ys)

/-! ### expressions: a value, and whether it is a new list -/
section
variable (G : Nat → D) (c : Nat → List Sl → R (D × Bool)) (dfl : Nat → Nat → List D)
mutual
def evF : E → En → R (D × Bool)
  | .var i, en => (val en i).bind v1
  | .peek _, _ => .no
  | .con d, _ => v1 d
  | .emp, _ => v1 (.dict [])
  | .glb x, _ => v1 (G x)
  | .tup es, en => (evs es en).bind fun ds => if ds.length ≤ line then v1 (.tuple ds) else .no
  | .lst es, en => (evs es en).bind fun ds => if ds.length ≤ line then .ok (.list ds, true) else .no
  | .rep es n, en => (evs es en).bind fun ds => if ds.length ≤ line then (evF n en).bind fun x => (intR x.1).bind fun k => if -1000000 ≤ k ∧ k ≤ 1000000 ∧ ds.length * k.toNat ≤ line then .ok (.list (List.replicate k.toNat ds).flatten, true) else .no else .no
  | .op1 o a, en => (rd1 a en (evF a en)).bind (sem1 o)
  | .op2 o a b, en => (rd1 a en (evF a en)).bind fun x => (rd1 b en (evF b en)).bind fun y => sem2 o x y
  | .chn o p a b z, en => (rd1 a en (evF a en)).bind fun x => (rd1 b en (evF b en)).bind fun y => (sem2 o x y).bind fun r => (match r.1 with
    | .bool true => (rd1 z en (evF z en)).bind fun w => sem2 p y w
    | .bool false => v1 (.bool false)
    | _ => .no)
  | .and a b, en => (evF a en).bind fun x => (truR x.1).bind fun t => if t then evF b en else v1 x.1
  | .or a b, en => (evF a en).bind fun x => (truR x.1).bind fun t => if t then .ok x else evF b en
  | .not a, en => (rd1 a en (evF a en)).bind fun x => (truR x).bind fun t => v1 (.bool (!t))
  | .ife t a b, en => (rd1 t en (evF t en)).bind fun x => (truR x).bind fun t => if t then evF a en else evF b en
  | .slc a lo hi, en => (rd1 a en (evF a en)).bind fun x => (evO lo en).bind fun l => (evO hi en).bind fun h => semSl x l h
  | .revs a, en => (rd1 a en (evF a en)).bind semRev
  | .repE a n, en => (evF a en).bind fun x => (evF n en).bind fun y => (intR y.1).bind fun k => semRep x k
  | .call j es m, en => (evAs es en).bind fun ss => c j (ss ++ (dfl j m).map .va)
  | .callv j es m, en => (evAs es en).bind fun ss => (c j (asV ss ++ (dfl j m).map .va)).bind fun p => if p.2 = false ∧ noL p.1 = true then .ok p else .no
  | .dget i k x, en => (match en[i]? with
    | some (.dk kvs) => (evF k en).bind fun kd => (evF x en).bind fun xd => if keyOk kd.1 = true then (match dlook kvs kd.1 with
      | some d => v1 d
      | none => v1 xd.1) else .no
    | _ => .no)
  | .dvals i, en => (match en[i]? with
    | some (.dk kvs) => .ok (.list (kvs.map (·.2)), true)
    | _ => .no)
  | .fnv _, _ => .no
  | .callL i cs es, en => (match en[i]? with
    | some (.fn n) => (match cs.lookup n with
      | some j => (evAs es en).bind fun ss => c j ss
      | none => .no)
    | _ => .no)
  | .isi a ts, en => (rd1 a en (evF a en)).bind fun x => v1 (.bool (ts.any fun t => isTy x t))
  | .mth o a b, en => (rd1 a en (evF a en)).bind fun x => (listR x).bind fun xs => (rd1 b en (evF b en)).bind fun y => semM o xs y
  | .erv _, _ => .no
  | .isE i ks ts, en => (match en[i]? with
    | some (.va .none) => v1 (.bool false)
    | some (.er c) => if ks.contains c then v1 (.bool (ts.any (erTy c))) else .no
    | _ => .no)
  | .isN i g, en => (match en[i]? with
    | some (.va d) => (isD d .none).bind fun b => v1 (.bool (b != g))
    | some (.er _) => v1 (.bool g)
    | _ => .no)
  | .cmp elt tg it ifs own, en => (evI it en).bind fun ds => (compL (fun d => (bindT tg d (wipe en (own.map (·.2)))).bind fun en' => (evB ifs en').nox.bind fun b =>
      if b then (evF elt en').nox.bind fun y => .ok (some y.1) else .ok none) ds).bind fun ys => if ds.length ≤ line then .ok (.list ys, true) else .no
def evs : Es → En → R (List D)
  | .nil, _ => .ok []
  | .cons e r, en => (evF e en).bind fun x => (evs r en).bind fun xs => .ok (x.1 :: xs)
def evAs : Es → En → R (List Sl)
  | .nil, _ => .ok []
  | .cons e r, en => (arg1 e en (evF e en)).bind fun x => (evAs r en).bind fun xs => .ok (x :: xs)
def evO : Eo → En → R (Option Int)
  | .none, _ => .ok none
  | .some e, en => (evF e en).bind fun x => (intR x.1).bind fun i => .ok (some i)
def evB : Eo → En → R Bool
  | .none, _ => .ok true
  | .some e, en => (rd1 e en (evF e en)).bind fun x => truR x
def evI : It → En → R (List D)
  | .seq a, en => (evF a en).bind fun x => seqR x.1
  | .rng1 a, en => (evF a en).bind fun x => (intR x.1).bind fun j => rngR 0 j
  | .rng2 a b, en => (evF a en).bind fun x => (evF b en).bind fun y => (intR x.1).bind fun i => (intR y.1).bind fun j => rngR i j
  | .rng3 a b z, en => (evF a en).bind fun x => (evF b en).bind fun y => (evF z en).bind fun w => (intR x.1).bind fun i => (intR y.1).bind fun j => (intR w.1).bind fun k => rngR3 i j k
  | .rev a, en => (evF a en).bind fun x => (seqR x.1).bind fun xs => .ok xs.reverse
  | .revr a, en => (evF a en).bind fun x => (intR x.1).bind fun j => (rngR 0 j).bind fun xs => .ok xs.reverse
  | .enum a, en => (evF a en).bind fun x => (seqR x.1).bind fun xs => .ok (enumD xs)
  | .zip a b, en => (evF a en).bind fun x => (evF b en).bind fun y => zipR x.1 y.1
end
def evT (x : E) (en : En) : R Bool := (rd1 x en (evF G c dfl x en)).bind truR

/-! ### statements -/
def setD (xs : List D) (i : Int) (d : D) : R (List D) := match L2.ixN xs.length i with
  | some j => .ok (xs.set j d)
  | none => .no
/-- a list of the def's own, lengthened by a new list -/
def extL : O2 → List D → D × Bool → R (List D)
  | .add, ds, (.list xs, true) => if ds.length + xs.length ≤ line then .ok (ds ++ xs) else .no
  | _, _, _ => .no
/-- behind a loop's turn -/
def nextFl (k : En → R Fl) : Fl → R Fl
  | .nx e => k e
  | .ct e => k e
  | .bk e => .ok (.nx e)
  | .rt d f => .ok (.rt d f)
  | .ex c e => .ok (.ex c e)
/-- a loop by turns -/
def whileN (t : En → R Bool) (b : En → R Fl) : Nat → En → R Fl
  | 0, _ => .no
  | n + 1, en => lf en (t en) fun k => if k then (b en).bind (nextFl (whileN t b n)) else .ok (.nx en)
open Classical in
noncomputable def whileR (t : En → R Bool) (b : En → R Fl) (en : En) : R Fl :=
  if h : ∃ n, whileN t b n en ≠ .no then whileN t b h.choose en else .no
def forR (g : D → En → R En) (b : En → R Fl) : List D → En → R Fl
  | [], en => .ok (.nx en)
  | d :: ds, en => (g d en).bind fun e1 => (b e1).bind (nextFl (forR g b ds))
mutual
noncomputable def evS : S → En → R Fl
  | .pass, en => .ok (.nx en)
  | .asg tg e, en => lf en (evF G c dfl e en) fun x => (bindT tg x.1 en).bind fun en' => .ok (.nx en')
  | .asgO i e, en => lf en (evF G c dfl e en) fun x => (match x with
    | (.list ds, true) => .ok (.nx (en.set i (.ow ds)))
    | _ => .no)
  | .dnew i, en => .ok (.nx (en.set i (.dk [])))
  | .asgC i o e, en => lf en (evF G c dfl e en) fun x => (match x with
    | (.list ds, true) => .ok (.nx (en.set i (if o then .ow ds else .va (.list ds))))
    | _ => .no)
  | .par is es, en => lf en (evs G c dfl es en) fun ds => if ds.length = is.length then .ok (.nx ((is.zip ds).foldl (fun e p => e.set p.1 (.va p.2)) en)) else .no
  | .setI i k e, en => lf en (evF G c dfl e en) fun x => (match en[i]? with
    | some (.ow ds) => lf en (evF G c dfl k en) fun kv => (intR kv.1).bind fun j => (setD ds j x.1).bind fun ds' => .ok (.nx (en.set i (.ow ds')))
    | some (.dk kvs) => lf en (evF G c dfl k en) fun kv => if keyOk kv.1 = true ∧ kvs.length < line then .ok (.nx (en.set i (.dk (dput kvs kv.1 x.1)))) else .no
    | _ => .no)
  | .aug i o e, en => (match en[i]? with
    | some (.va (.int d)) => lf en (evF G c dfl e en) fun x => (sem2 o (.int d) x.1).bind fun z => .ok (.nx (en.set i (.va z.1)))
    | some (.va (.str d)) => lf en (evF G c dfl e en) fun x => (sem2 o (.str d) x.1).bind fun z => .ok (.nx (en.set i (.va z.1)))
    | some (.ow ds) => lf en (evF G c dfl e en) fun x => (extL o ds x).bind fun ds' => .ok (.nx (en.set i (.ow ds')))
    | _ => .no)
  | .app i e, en => (match en[i]? with
    | some (.ow ds) => lf en (evF G c dfl e en) fun x => if ds.length < line then .ok (.nx (en.set i (.ow (ds ++ [x.1])))) else .no
    | _ => .no)
  | .extT i e, en => (match en[i]? with
    | some (.ow ds) => lf en (evF G c dfl e en) fun x => (match x.1 with
      | .tuple xs => if ds.length + xs.length < line then .ok (.nx (en.set i (.ow (ds ++ xs)))) else .no
      | _ => .no)
    | _ => .no)
  | .pop i, en => (match en[i]? with
    | some (.ow ds) => if ds = [] then .no else .ok (.nx (en.set i (.ow ds.dropLast)))
    | _ => .no)
  | .popA tg i, en => (match en[i]? with
    | some (.ow ds) => (match ds.getLast? with
      | some d => (bindT tg d (en.set i (.ow ds.dropLast))).bind fun en' => .ok (.nx en')
      | none => .no)
    | _ => .no)
  | .rvs i, en => (match en[i]? with
    | some (.ow ds) => .ok (.nx (en.set i (.ow ds.reverse)))
    | _ => .no)
  | .frz i, en => (match en[i]? with
    | some (.ow ds) => .ok (.nx (en.set i (.va (.list ds))))
    | _ => .no)
  | .ite t a b, en => lf en (evT G c dfl t en) fun k => if k then evSs a en else evSs b en
  | .whl t b, en => whileR (evT G c dfl t) (evSs b) en
  | .for_ tg it b, en => lf en (evI G c dfl it en) fun ds => forR (bindT tg) (evSs b) ds en
  | .ret e, en => lf en (evF G c dfl e en) fun x => .ok (.rt x.1 x.2)
  | .retO i, en => (match en[i]? with
    | some (.ow ds) => .ok (.rt (.list ds) true)
    | _ => .no)
  | .retN, _ => .ok (.rt .none false)
  | .brk, en => .ok (.bk en)
  | .cnt, en => .ok (.ct en)
  | .rai k, en => .ok (.ex k en)
  | .exp e, en => lf en (evF G c dfl e en) fun _ => .ok (.nx en)
  | .tryA h i ks b, en => (evSs b en).bind fun fl => (match fl with
    | .ex c e => if ks.contains c then .ok (.nx ((e.set h .un).set i (.er c))) else .no
    | fl => .ok fl)
  | .dead, _ => .no
noncomputable def evSs : Ss → En → R Fl
  | .nil, en => .ok (.nx en)
  | .cons s r, en => (evS s en).bind fun fl => (match fl with
    | .nx e => evSs r e
    | fl => .ok fl)
end
end

/-! ### defs -/
structure Fn where
  name : Str
  ps : List Str
  N : List Str
  dfl : List D
  body : Ss
def Fn.dv (f : Fn) (m : Nat) : List D := f.dfl.drop (f.dfl.length - m)
/-- the first k defs of a table, by their places -/
noncomputable def callN (G : Nat → D) (T : List Fn) : Nat → Nat → List Sl → R (D × Bool)
  | 0, _, _ => .no
  | k + 1, j, ss => if j = k then (match T[k]? with
    | some f => if ss.length = f.ps.length then (match evSs G (callN G T k) (fun j m => ((T[j]?).map fun g => g.dv m).getD []) f.body (ss ++ List.replicate (f.N.length - ss.length) .un) with
      | .ok (.rt d fr) => .ok (d, fr)
      | .ok (.nx _) => .ok (.none, false)
      | .ok (.ex c _) => .ex c
      | _ => .no) else .no
    | none => .no) else callN G T k j ss
end AW

/-! AwBase: values of the small language on a heap. -/
namespace AW
open PySem PySem.Spec PyProof.Rows L2

/-! ### heaps that grow: f what is settled, H all -/
structure Po (f H f' H' : Hp) : Prop where
  sH : Same H H'
  sf : Same f f'
  sub : Same f' H'
  gro : ∀ a o, f' a = some o → f a = some o ∨ H a = none
theorem Po.refl {f H : Hp} (h : Same f H) : Po f H f H := ⟨Same.refl H, Same.refl f, h, fun _ _ e => .inl e⟩
theorem Po.trans {f H f1 H1 f2 H2 : Hp} (a : Po f H f1 H1) (b : Po f1 H1 f2 H2) : Po f H f2 H2 :=
  ⟨a.sH.trans b.sH, a.sf.trans b.sf, b.sub, fun p o e => by
    rcases b.gro p o e with h | h
    · exact a.gro p o h
    · exact .inr (a.sH.free h)⟩
/-- a new object, settled -/
theorem Po.new {f H f1 H1 : Hp} (a : Po f H f1 H1) {p : Addr} {o : HO} (h : H1 p = none) : Po f H (upd f1 p o) (upd H1 p o) := by
  refine ⟨a.sH.trans fun b x e => ?_, a.sf.trans fun b x e => ?_, fun b x e => ?_, fun b x e => ?_⟩
  · rw [upd_ne (ne_of_none e h)]; exact e
  · rw [upd_ne (ne_of_none (a.sub _ _ e) h)]; exact e
  · by_cases hb : b = p
    · subst hb; rw [upd_same] at e ⊢; exact e
    · rw [upd_ne hb] at e ⊢; exact a.sub _ _ e
  · by_cases hb : b = p
    · subst hb; exact .inr (a.sH.free h)
    · rw [upd_ne hb] at e; exact a.gro _ _ e
/-- a new object, not settled -/
theorem Po.newH {f H f1 H1 : Hp} (a : Po f H f1 H1) {p : Addr} {o : HO} (h : H1 p = none) : Po f H f1 (upd H1 p o) := by
  refine ⟨a.sH.trans fun b x e => ?_, a.sf, fun b x e => ?_, a.gro⟩
  · rw [upd_ne (ne_of_none e h)]; exact e
  · rw [upd_ne (ne_of_none (a.sub _ _ e) h)]; exact a.sub _ _ e
theorem same_none {H H' : Hp} (e : Same H H') {p : Addr} (h : H' p = none) : H p = none := e.free h
/-- what was not settled and stands is not settled behind -/
theorem Po.loose {f H f' H' : Hp} (a : Po f H f' H') {p : Addr} {o : HO} (h1 : f p = none) (h2 : H p = some o) : f' p = none := by
  cases e : f' p with
  | none => rfl
  | some x =>
    rcases a.gro p x e with h | h
    · rw [h1] at h; cases h
    · rw [h2] at h; cases h

theorem rd_same {H H' : Hp} (e : Same H H') {a : Addr} {u : HO} (h : Rd H a u) : Rd H' a u := by
  rcases h with h | ⟨o, h⟩
  · exact .inl (e _ _ h)
  · exact .inr ⟨o, e _ _ h⟩
theorem sql_same {K : PySem.W.Frag} {H H' : Hp} (e : Same H H') {a : Addr} {xs : List V} (h : SqL K H a xs) : SqL K H' a xs := e.seq h
theorem sqt_same {K : PySem.W.Frag} {H H' : Hp} (e : Same H H') {a : Addr} {xs : List V} (h : SqT K H a xs) : SqT K H' a xs := by
  rcases h with h | h
  · exact .inl (rd_same e h)
  · exact .inr h
mutual
/-- v stands for d: plain data, the empty dict among it -/
inductive Dp (K : PySem.W.Frag) (H : Hp) : V → PyData → Prop
  | non : Dp K H .non .none
  | bl (b : Bool) : Dp K H (.bl b) (.bool b)
  | int (i : Int) : Dp K H (.int i) (.int i)
  | str (x : Str) : Dp K H (.str x) (.str x)
  | lst {a : Addr} {xs : List V} {ds : List PyData} : SqL K H a xs → DpAll K H xs ds → Dp K H (.ref a) (.list ds)
  | tup {a : Addr} {xs : List V} {ds : List PyData} : SqT K H a xs → DpAll K H xs ds → Dp K H (.ref a) (.tuple ds)
  | emp {a : Addr} : H a = some (.dT []) → Dp K H (.ref a) (.dict [])
inductive DpAll (K : PySem.W.Frag) (H : Hp) : List V → List PyData → Prop
  | nil : DpAll K H [] []
  | cons {v : V} {vs : List V} {d : PyData} {ds : List PyData} : Dp K H v d → DpAll K H vs ds → DpAll K H (v :: vs) (d :: ds)
end
section
variable {K : PySem.W.Frag} {H H' : Hp}
mutual
theorem dp_same (e : Same H H') : ∀ {v : V} {d : PyData}, Dp K H v d → Dp K H' v d
  | _, _, .non => .non
  | _, _, .bl b => .bl b
  | _, _, .int i => .int i
  | _, _, .str x => .str x
  | _, _, .lst h a => .lst (sql_same e h) (dpa_same e a)
  | _, _, .tup h a => .tup (sqt_same e h) (dpa_same e a)
  | _, _, .emp h => .emp (e _ _ h)
theorem dpa_same (e : Same H H') : ∀ {vs : List V} {ds : List PyData}, DpAll K H vs ds → DpAll K H' vs ds
  | _, _, .nil => .nil
  | _, _, .cons h t => .cons (dp_same e h) (dpa_same e t)
end
mutual
/-- as HandS has it, where no dict is in it -/
theorem Dp.old : ∀ {v : V} {d : PyData}, d.canLay0 = true → Dp K H v d → L2.Dp K H v d
  | _, _, _, .non => .non
  | _, _, _, .bl b => .bl b
  | _, _, _, .int i => .int i
  | _, _, _, .str x => .str x
  | _, .list ds, c, .lst h a => .lst h (DpAll.old (show PyData.canLayAll0 ds = true from c) a)
  | _, .tuple ds, c, .tup h a => .tup h (DpAll.old (show PyData.canLayAll0 ds = true from c) a)
  | _, _, c, .emp h => by cases c
theorem DpAll.old : ∀ {vs : List V} {ds : List PyData}, PyData.canLayAll0 ds = true → DpAll K H vs ds → L2.DpAll K H vs ds
  | _, _, _, .nil => .nil
  | _, d :: ds, c, .cons h t => .cons (Dp.old (Bool.and_eq_true_iff.mp (show (d.canLay0 && PyData.canLayAll0 ds) = true from c)).1 h) (DpAll.old (Bool.and_eq_true_iff.mp (show (d.canLay0 && PyData.canLayAll0 ds) = true from c)).2 t)
end
theorem Dp.shp {v : V} {d : PyData} (c : SeqAt.shaped d = true) (h : Dp K H v d) : L2.Dp K H v d := h.old (SeqAt.canLay_of_shaped c)
end
end AW
namespace AW
open PySem PySem.Spec PyProof.Rows L2
section
variable {K : PySem.W.Frag} {H H' : Hp}
theorem DpAll.length : ∀ {vs : List V} {ds : List PyData}, DpAll K H vs ds → vs.length = ds.length
  | _, _, .nil => rfl
  | _, _, .cons _ t => congrArg Nat.succ (DpAll.length t)
theorem DpAll.get : ∀ {vs : List V} {ds : List PyData} {i : Nat} {d : PyData}, DpAll K H vs ds → ds[i]? = some d → ∃ v, vs[i]? = some v ∧ Dp K H v d
  | _, _, _, _, .nil, h => by simp at h
  | _, _, 0, _, .cons a _, h => by
    have e := Option.some.inj h
    subst e
    exact ⟨_, rfl, a⟩
  | _, _, i + 1, _, .cons _ t, h => DpAll.get (i := i) t h
theorem DpAll.getV : ∀ {vs : List V} {ds : List PyData} {i : Nat} {v : V}, DpAll K H vs ds → vs[i]? = some v → ∃ d, ds[i]? = some d ∧ Dp K H v d
  | _, _, _, _, .nil, h => by simp at h
  | _, _, 0, _, .cons a _, h => by
    have e := Option.some.inj h
    subst e
    exact ⟨_, rfl, a⟩
  | _, _, i + 1, _, .cons _ t, h => DpAll.getV (i := i) t h
theorem DpAll.append : ∀ {vs us : List V} {ds es : List PyData}, DpAll K H vs ds → DpAll K H us es → DpAll K H (vs ++ us) (ds ++ es)
  | _, _, _, _, .nil, h => h
  | _, _, _, _, .cons a t, h => .cons a (t.append h)
theorem DpAll.take : ∀ (n : Nat) {vs : List V} {ds : List PyData}, DpAll K H vs ds → DpAll K H (vs.take n) (ds.take n)
  | 0, _, _, _ => .nil
  | _ + 1, _, _, .nil => .nil
  | n + 1, _, _, .cons a t => .cons a (DpAll.take n t)
theorem DpAll.drop : ∀ (n : Nat) {vs : List V} {ds : List PyData}, DpAll K H vs ds → DpAll K H (vs.drop n) (ds.drop n)
  | 0, _, _, h => h
  | _ + 1, _, _, .nil => .nil
  | n + 1, _, _, .cons _ t => DpAll.drop n t
theorem DpAll.reverse : ∀ {vs : List V} {ds : List PyData}, DpAll K H vs ds → DpAll K H vs.reverse ds.reverse
  | _, _, .nil => .nil
  | _, _, .cons a t => by
    rw [List.reverse_cons, List.reverse_cons]
    exact t.reverse.append (.cons a .nil)
theorem DpAll.set : ∀ {vs : List V} {ds : List PyData} {v : V} {d : PyData} (i : Nat), DpAll K H vs ds → Dp K H v d → DpAll K H (vs.set i v) (ds.set i d)
  | _, _, _, _, _, .nil, _ => .nil
  | _, _, _, _, 0, .cons _ t, h => .cons h t
  | _, _, _, _, i + 1, .cons a t, h => .cons a (DpAll.set i t h)
theorem DpAll.dropLast {vs : List V} {ds : List PyData} (h : DpAll K H vs ds) : DpAll K H vs.dropLast ds.dropLast := by
  rw [List.dropLast_eq_take, List.dropLast_eq_take, h.length]
  exact h.take _
theorem DpAll.cut {vs : List V} {ds : List PyData} (h : DpAll K H vs ds) (lo hi : Option Int) : DpAll K H (cutV vs lo hi) (cutL ds lo hi) := by
  unfold cutV cutL
  rw [h.length]
  exact (h.drop _).take _
theorem DpAll.rep {vs : List V} {ds : List PyData} (h : DpAll K H vs ds) : ∀ n : Nat, DpAll K H (List.replicate n vs).flatten (List.replicate n ds).flatten
  | 0 => .nil
  | n + 1 => by
    rw [List.replicate_succ, List.replicate_succ, List.flatten_cons, List.flatten_cons]
    exact h.append (DpAll.rep h n)
theorem DpAll.ints : ∀ ns : List Int, DpAll K H (ns.map V.int) (ns.map PyData.int)
  | [] => .nil
  | n :: r => .cons (.int n) (DpAll.ints r)
end
section
variable {K : PySem.W.Frag} {H H' : Hp}
theorem atI_all {vs : List V} {ds : List PyData} {i : Int} {d : PyData} (h : DpAll K H vs ds) (e : atI ds i = some d) : ∃ v, atI vs i = some v ∧ Dp K H v d := by
  unfold atI at e ⊢
  rw [h.length]
  cases q : ixN ds.length i with
  | none => rw [q] at e; cases e
  | some j =>
    rw [q] at e
    exact h.get (show ds[j]? = some d from e)
end

/-! ### values as results -/
/-- d stands as v: settled, or a new list -/
def Vf (K : PySem.W.Frag) (H f' H' : Hp) (v : V) (d : D) : Bool → Prop
  | false => Dp K f' v d
  | true => ∃ ds p vs, d = .list ds ∧ v = .ref p ∧ H p = none ∧ f' p = none ∧ H' p = some (.lst vs) ∧ DpAll K f' vs ds
/-- d is to be read off v -/
def Vr (K : PySem.W.Frag) (f' H' : Hp) (v : V) (d : D) : Prop := Dp K f' v d ∨ ∃ ds p vs, d = .list ds ∧ v = .ref p ∧ SqL K H' p vs ∧ DpAll K f' vs ds
section
variable {K : PySem.W.Frag} {f H f1 H1 f' H' : Hp} {v : V} {d : D}
/-- settled after all -/
theorem Vf.settle {b : Bool} (h : Vf K H f' H' v d b) (q : Po f H f' H') : ∃ f'', Po f H f'' H' ∧ Dp K f'' v d := by
  cases b with
  | false => exact ⟨f', q, h⟩
  | true =>
    obtain ⟨ds, p, vs, rfl, rfl, h1, h2, h3, h4⟩ := h
    have e : Same f' (upd f' p (.lst vs)) := fun a o x => by
      rw [upd_ne (ne_of_none x h2)]; exact x
    refine ⟨upd f' p (.lst vs), ⟨q.sH, q.sf.trans e, fun a o x => ?_, fun a o x => ?_⟩, .lst (.inl (.inl upd_same)) (dpa_same e h4)⟩
    · by_cases ha : a = p
      · subst ha; rw [upd_same] at x; rw [h3]; exact x
      · rw [upd_ne ha] at x; exact q.sub _ _ x
    · by_cases ha : a = p
      · subst ha; exact .inr h1
      · rw [upd_ne ha] at x; exact q.gro _ _ x
theorem Vf.read {b : Bool} (h : Vf K H f' H' v d b) : Vr K f' H' v d := by
  cases b with
  | false => exact .inl h
  | true =>
    obtain ⟨ds, p, vs, rfl, rfl, h1, h2, h3, h4⟩ := h
    exact .inr ⟨ds, p, vs, rfl, rfl, .inl (.inl h3), h4⟩
theorem Vf.back {b : Bool} (e : Same H H1) (h : Vf K H1 f' H' v d b) : Vf K H f' H' v d b := by
  cases b with
  | false => exact h
  | true =>
    obtain ⟨ds, p, vs, rfl, rfl, h1, h2, h3, h4⟩ := h
    exact ⟨ds, p, vs, rfl, rfl, e.free h1, h2, h3, h4⟩
theorem Vr.mono (q : Po f1 H1 f' H') (h : Vr K f1 H1 v d) : Vr K f' H' v d := by
  rcases h with h | ⟨ds, p, vs, e1, e2, h1, h2⟩
  · exact .inl (dp_same q.sf h)
  · exact .inr ⟨ds, p, vs, e1, e2, sql_same q.sH h1, dpa_same q.sf h2⟩
theorem Vr.dp (s : Same f' H') (h : Vr K f' H' v d) : Dp K H' v d := by
  rcases h with h | ⟨ds, p, vs, rfl, rfl, h1, h2⟩
  · exact dp_same s h
  · exact .lst h1 (dpa_same s h2)
theorem Vr.int (h : Vr K f' H' v (.int i)) : v = .int i := by
  rcases h with h | ⟨ds, p, vs, e, _⟩
  · cases h; rfl
  · cases e
theorem Vr.bool {b : Bool} (h : Vr K f' H' v (.bool b)) : v = .bl b := by
  rcases h with h | ⟨ds, p, vs, e, _⟩
  · cases h; rfl
  · cases e
theorem Vr.str {x : Str} (h : Vr K f' H' v (.str x)) : v = .str x := by
  rcases h with h | ⟨ds, p, vs, e, _⟩
  · cases h; rfl
  · cases e
theorem Vr.non (h : Vr K f' H' v .none) : v = .non := by
  rcases h with h | ⟨ds, p, vs, e, _⟩
  · cases h; rfl
  · cases e
theorem Vr.list {ds : List D} (s : Same f' H') (h : Vr K f' H' v (.list ds)) : ∃ p vs, v = .ref p ∧ SqL K H' p vs ∧ DpAll K f' vs ds := by
  rcases h with h | ⟨es, p, vs, e, rfl, h1, h2⟩
  · cases h with
    | lst h a => exact ⟨_, _, rfl, sql_same s h, a⟩
  · cases e; exact ⟨_, _, rfl, h1, h2⟩
theorem Vr.tup {ds : List D} (s : Same f' H') (h : Vr K f' H' v (.tuple ds)) : ∃ p vs, v = .ref p ∧ SqT K f' p vs ∧ SqT K H' p vs ∧ DpAll K f' vs ds := by
  rcases h with h | ⟨es, p, vs, e, rfl, h1, h2⟩
  · cases h with
    | tup h a => exact ⟨_, _, rfl, h, sqt_same s h, a⟩
  · cases e
end

/-! ### caught errors -/
/-- the classes of errors, by their numbers -/
def errN : List Str := ["NoFraction", "NoPoly", "NoQuotient", "NoForm", "NoPlace", "NoArea", "NoText", "NoRow", "TooMany", "AreaError"]
def erC (K : PySem.W.Frag) (c : Nat) : Value := match errN[c]? with
  | some n => .ref (He.ga K n)
  | none => .none
/-- the error at a, of the c-th class -/
def erO (K : PySem.W.Frag) (c : Nat) (a : Addr) : HO := .ext fun h => ∃ (oe : Obj) (vs : Array Value), h.get? a = some oe ∧ Zc (erC K c) none oe ∧ oe.data = .fields vs
theorem erO_ok {P : Program} {w : World} {K : PySem.W.Frag} {H : Hp} {h : Heap} {a : Addr} {c : Nat} {oe : Obj} {vs : Array Value} (e : h.get? a = some oe) (z : Zc (erC K c) none oe) (d : oe.data = .fields vs) : ObjOk P w H h a (erO K c a) :=
  ⟨⟨oe, vs, e, z, d⟩, ⟨oe, e⟩, fun _ _ ⟨o, v, q, r⟩ k => ⟨o, v, k o q, r⟩⟩

/-! ### dicts whose keys are tuples -/
mutual
/-- the hash of a key of ints and tuples -/
def kh : NestedKey → Int
  | .num i => hashInt i
  | .tup ks => reduceHash (Builtin.Tuple.tupleHashOf (khs ks))
  | _ => 0
def khs : List NestedKey → List Int
  | [] => []
  | k :: ks => kh k :: khs ks
end
mutual
theorem kh_hash (w : World) : ∀ d : D, keyB d = true → (nk d).hash w = kh (nk d)
  | .int i, _ => rfl
  | .tuple ds, h => by
    show reduceHash (Builtin.Tuple.tupleHashOf (NestedKey.hashes w (nks ds))) = reduceHash (Builtin.Tuple.tupleHashOf (khs (nks ds)))
    rw [khs_hash w ds h]
  | .none, h => by cases h
  | .bool _, h => by cases h
  | .str _, h => by cases h
  | .list _, h => by cases h
  | .dict _, h => by cases h
theorem khs_hash (w : World) : ∀ ds : List D, keyBs ds = true → NestedKey.hashes w (nks ds) = khs (nks ds)
  | [], _ => rfl
  | d :: ds, h => by
    have h' := Bool.and_eq_true_iff.mp (show (keyB d && keyBs ds) = true from h)
    show (nk d).hash w :: NestedKey.hashes w (nks ds) = kh (nk d) :: khs (nks ds)
    rw [kh_hash w d h'.1, khs_hash w ds h'.2]
end
/-- the dict at p, by its entries -/
def dicO (xs : List (NestedKey × Addr × Value)) (p : Addr) : HO := .ext fun h => ∃ (o : Obj) (es : Array DictEntry) (ep : Nat), h.get? p = some o ∧ o.ExactDict ∧ o.data = .dict es ep ∧ es.toList = xs.map fun x => ⟨kh x.1, .ref x.2.1, x.2.2⟩
/-- the entries stand for the data -/
inductive DkAll (K : PySem.W.Frag) (f : Hp) : List (D × D) → List (NestedKey × Addr × Value) → Prop where
  | nil : DkAll K f [] []
  | cons {k d : D} {a : Addr} {v : V} {u : Value} {r : List (D × D)} {xs : List (NestedKey × Addr × Value)} (hk : keyOk k = true) (ha : Dp K f (.ref a) k) (hu : RelV v u) (hd : Dp K f v d) (t : DkAll K f r xs) : DkAll K f ((k, d) :: r) ((nk k, a, u) :: xs)
theorem DkAll.same {K : PySem.W.Frag} {f f' : Hp} (e : Same f f') : ∀ {kvs : List (D × D)} {xs : List (NestedKey × Addr × Value)}, DkAll K f kvs xs → DkAll K f' kvs xs
  | _, _, .nil => .nil
  | _, _, .cons hk ha hu hd t => .cons hk (dp_same e ha) hu (dp_same e hd) (t.same e)

/-! ### a def's slots -/
inductive SlOk (K : PySem.W.Frag) (H0 f H : Hp) : Option V → Sl → Prop where
  | un (o : Option V) : SlOk K H0 f H o .un
  | va {v : V} {d : D} (h : Dp K f v d) : SlOk K H0 f H (some v) (.va d)
  | ow {p : Addr} {vs : List V} {ds : List D} (h0 : H0 p = none) (hf : f p = none) (hH : H p = some (.lst vs)) (h : DpAll K f vs ds) : SlOk K H0 f H (some (.ref p)) (.ow ds)
  | rd {p : Addr} {vs : List V} {ds : List D} (hH : SqL K H0 p vs) (h : DpAll K f vs ds) : SlOk K H0 f H (some (.ref p)) (.rd ds)
  | er {p : Addr} {c : Nat} (hH : H p = some (erO K c p)) : SlOk K H0 f H (some (.ref p)) (.er c)
  | fn {n : Str} : SlOk K H0 f H (some (.ref (He.ga K n))) (.fn n)
  | dk {p : Addr} {xs : List (NestedKey × Addr × Value)} {kvs : List (D × D)} (hp : (p == sysModules) = false) (h0 : H0 p = none) (hf : f p = none) (hH : H p = some (dicO xs p)) (hn : (xs.map (·.1)).Nodup) (hl : xs.length ≤ sizeLine) (h : DkAll K f kvs xs) : SlOk K H0 f H (some (.ref p)) (.dk kvs)
/-- the slots σ hold what en tells; f0, H0: the entry's heaps -/
structure Mt (K : PySem.W.Frag) (f0 H0 f H : Hp) (σ : L2.St) (en : En) : Prop where
  po : Po f0 H0 f H
  len : σ.length = en.length
  sl : ∀ (i : Nat) (s : Sl), en[i]? = some s → ∃ o, σ[i]? = some o ∧ SlOk K H0 f H o s
  dis : ∀ (i j : Nat) (p : V) (s t : Sl), en[i]? = some s → en[j]? = some t → s.mu = true → t.own = true → σ[i]? = some (some p) → σ[j]? = some (some p) → i = j
section
variable {K : PySem.W.Frag} {f0 H0 f H f' H' : Hp} {σ : L2.St} {en : En}
theorem SlOk.mono {o : Option V} {s : Sl} (q : Po f H f' H') (h : SlOk K H0 f H o s) : SlOk K H0 f' H' o s := by
  cases h with
  | un o => exact .un o
  | va h => exact .va (dp_same q.sf h)
  | ow h0 hf hH h => exact .ow h0 (q.loose hf hH) (q.sH _ _ hH) (dpa_same q.sf h)
  | rd hH h => exact .rd hH (dpa_same q.sf h)
  | er hH => exact .er (q.sH _ _ hH)
  | fn => exact .fn
  | dk hp h0 hf hH hn hl h => exact .dk hp h0 (q.loose hf hH) (q.sH _ _ hH) hn hl (h.same q.sf)
theorem Mt.mono (m : Mt K f0 H0 f H σ en) (q : Po f H f' H') : Mt K f0 H0 f' H' σ en :=
  ⟨m.po.trans q, m.len, fun i s e => let ⟨o, h1, h2⟩ := m.sl i s e; ⟨o, h1, h2.mono q⟩, m.dis⟩
theorem Mt.va {i : Nat} {d : D} (m : Mt K f0 H0 f H σ en) (e : en[i]? = some (.va d)) : ∃ v, σ[i]? = some (some v) ∧ Dp K f v d := by
  obtain ⟨o, h1, h2⟩ := m.sl i _ e
  cases h2 with
  | va h => exact ⟨_, h1, h⟩
theorem Mt.ow {i : Nat} {ds : List D} (m : Mt K f0 H0 f H σ en) (e : en[i]? = some (.ow ds)) : ∃ p vs, σ[i]? = some (some (.ref p)) ∧ H0 p = none ∧ f p = none ∧ H p = some (.lst vs) ∧ DpAll K f vs ds := by
  obtain ⟨o, h1, h2⟩ := m.sl i _ e
  cases h2 with
  | ow h0 hf hH h => exact ⟨_, _, h1, h0, hf, hH, h⟩
theorem Mt.er {i : Nat} {c : Nat} (m : Mt K f0 H0 f H σ en) (e : en[i]? = some (.er c)) : ∃ p, σ[i]? = some (some (.ref p)) ∧ H p = some (erO K c p) := by
  obtain ⟨o, h1, h2⟩ := m.sl i _ e
  cases h2 with
  | er hH => exact ⟨_, h1, hH⟩
theorem Mt.fn {i : Nat} {n : Str} (m : Mt K f0 H0 f H σ en) (e : en[i]? = some (.fn n)) : σ[i]? = some (some (.ref (He.ga K n))) := by
  obtain ⟨o, h1, h2⟩ := m.sl i _ e
  cases h2 with
  | fn => exact h1
theorem Mt.rd {i : Nat} {ds : List D} (m : Mt K f0 H0 f H σ en) (e : en[i]? = some (.rd ds)) : ∃ p vs, σ[i]? = some (some (.ref p)) ∧ SqL K H0 p vs ∧ DpAll K f vs ds := by
  obtain ⟨o, h1, h2⟩ := m.sl i _ e
  cases h2 with
  | rd hH h => exact ⟨_, _, h1, hH, h⟩
theorem mu_own : ∀ {s : Sl}, s.mu = true → s.own = true
  | .ow _, _ => rfl
  | .dk _, _ => rfl
  | .un, h => by cases h
  | .va _, h => by cases h
  | .rd _, h => by cases h
  | .er _, h => by cases h
  | .fn _, h => by cases h
/-- what has an object of its own -/
theorem Mt.at_ {i : Nat} {s : Sl} (m : Mt K f0 H0 f H σ en) (e : en[i]? = some s) (h : s.own = true) : ∃ p o, σ[i]? = some (some (.ref p)) ∧ H p = some o := by
  obtain ⟨o, h1, h2⟩ := m.sl i _ e
  cases h2 with
  | ow _ _ hH _ => exact ⟨_, _, h1, hH⟩
  | er hH => exact ⟨_, _, h1, hH⟩
  | dk _ _ _ hH _ _ _ => exact ⟨_, _, h1, hH⟩
  | un => cases h
  | va => cases h
  | rd => cases h
  | fn => cases h
theorem Mt.fresh {p : Addr} (m : Mt K f0 H0 f H σ en) (hp : H p = none) (k : Nat) (t : Sl) (e : en[k]? = some t) (h : t.own = true) : σ[k]? ≠ some (some (.ref p)) := fun z => by
  obtain ⟨p', o, h1, h2⟩ := m.at_ e h
  rw [z] at h1
  cases h1
  rw [hp] at h2
  cases h2
theorem set_at {α : Type} {l : List α} {i j : Nat} {a b : α} (h : (l.set i a)[j]? = some b) : (i = j ∧ i < l.length ∧ a = b) ∨ (i ≠ j ∧ l[j]? = some b) := by
  by_cases hj : i = j
  · subst hj
    by_cases hl : i < l.length
    · rw [List.getElem?_set_self hl] at h
      exact .inl ⟨rfl, hl, Option.some.inj h⟩
    · rw [List.getElem?_eq_none (by rw [List.length_set]; omega)] at h
      cases h
  · rw [List.getElem?_set_ne hj] at h
    exact .inr ⟨hj, h⟩
/-- a slot is set to what has no object of its own -/
theorem Mt.disNo {i : Nat} {o : Option V} {s' : Sl} (m : Mt K f0 H0 f H σ en) (hs : s'.own = false) (j k : Nat) (p : V) (s t : Sl) (e1 : (en.set i s')[j]? = some s) (e2 : (en.set i s')[k]? = some t) (h1 : s.mu = true) (h2 : t.own = true) (e3 : (σ.set i o)[j]? = some (some p)) (e4 : (σ.set i o)[k]? = some (some p)) : j = k := by
  rcases set_at e1 with ⟨rfl, _, rfl⟩ | ⟨n1, e1⟩
  · rw [mu_own h1] at hs; cases hs
  · rcases set_at e2 with ⟨rfl, _, rfl⟩ | ⟨n2, e2⟩
    · rw [h2] at hs; cases hs
    · rw [List.getElem?_set_ne n1] at e3
      rw [List.getElem?_set_ne n2] at e4
      exact m.dis j k p s t e1 e2 h1 h2 e3 e4
/-- a slot is set to a new object -/
theorem Mt.disNew {i : Nat} {p : Addr} {s' : Sl} (m : Mt K f0 H0 f H σ en) (fr : ∀ (k : Nat) (t : Sl), en[k]? = some t → t.own = true → σ[k]? ≠ some (some (.ref p))) (j k : Nat) (q : V) (s t : Sl) (e1 : (en.set i s')[j]? = some s) (e2 : (en.set i s')[k]? = some t) (h1 : s.mu = true) (h2 : t.own = true) (e3 : (σ.set i (some (.ref p)))[j]? = some (some q)) (e4 : (σ.set i (some (.ref p)))[k]? = some (some q)) : j = k := by
  rcases set_at e1 with ⟨rfl, _, rfl⟩ | ⟨n1, e1⟩
  · rcases set_at e2 with ⟨rfl, _, rfl⟩ | ⟨n2, e2⟩
    · rfl
    · rcases set_at e3 with ⟨_, _, e3⟩ | ⟨n3, _⟩
      · cases e3
        rw [List.getElem?_set_ne n2] at e4
        exact absurd e4 (fr k t e2 h2)
      · exact absurd rfl n3
  · rcases set_at e2 with ⟨rfl, _, rfl⟩ | ⟨n2, e2⟩
    · rcases set_at e4 with ⟨_, _, e4⟩ | ⟨n4, _⟩
      · cases e4
        rw [List.getElem?_set_ne n1] at e3
        exact absurd e3 (fr j s e1 (mu_own h1))
      · exact absurd rfl n4
    · rw [List.getElem?_set_ne n1] at e3
      rw [List.getElem?_set_ne n2] at e4
      exact m.dis j k q s t e1 e2 h1 h2 e3 e4
/-- what may be changed is changed in its place -/
theorem Mt.disUp {i : Nat} {s0 s' : Sl} (m : Mt K f0 H0 f H σ en) (e : en[i]? = some s0) (hm : s0.mu = true) (j k : Nat) (q : V) (s t : Sl) (e1 : (en.set i s')[j]? = some s) (e2 : (en.set i s')[k]? = some t) (h1 : s.mu = true) (h2 : t.own = true) (e3 : σ[j]? = some (some q)) (e4 : σ[k]? = some (some q)) : j = k := by
  have b1 : ∃ z, en[j]? = some z ∧ z.mu = true := by
    rcases set_at e1 with ⟨rfl, _, _⟩ | ⟨_, e1⟩
    · exact ⟨_, e, hm⟩
    · exact ⟨_, e1, h1⟩
  have b2 : ∃ z, en[k]? = some z ∧ z.own = true := by
    rcases set_at e2 with ⟨rfl, _, _⟩ | ⟨_, e2⟩
    · exact ⟨_, e, mu_own hm⟩
    · exact ⟨_, e2, h2⟩
  obtain ⟨z1, a1, a2⟩ := b1
  obtain ⟨z2, a3, a4⟩ := b2
  exact m.dis j k q z1 z2 a1 a3 a2 a4 e3 e4
theorem Mt.slSet {i : Nat} {o : Option V} {s' : Sl} (m : Mt K f0 H0 f H σ en) (h : SlOk K H0 f H o s') (j : Nat) (s : Sl) (e : (en.set i s')[j]? = some s) : ∃ o', (σ.set i o)[j]? = some o' ∧ SlOk K H0 f H o' s := by
  rcases set_at e with ⟨rfl, hl, rfl⟩ | ⟨n1, e⟩
  · exact ⟨_, List.getElem?_set_self (by rw [m.len]; exact hl), h⟩
  · rw [List.getElem?_set_ne n1]
    exact m.sl j s e
/-- a slot is set to a settled value -/
theorem Mt.setV {i : Nat} {v : V} {d : D} (m : Mt K f0 H0 f H σ en) (h : Dp K f v d) : Mt K f0 H0 f H (σ.set i (some v)) (en.set i (.va d)) :=
  ⟨m.po, by rw [List.length_set, List.length_set]; exact m.len, m.slSet (.va h), m.disNo rfl⟩
/-- a slot is forgotten -/
theorem Mt.setU {i : Nat} {o : Option V} (m : Mt K f0 H0 f H σ en) : Mt K f0 H0 f H (σ.set i o) (en.set i .un) :=
  ⟨m.po, by rw [List.length_set, List.length_set]; exact m.len, m.slSet (.un o), m.disNo rfl⟩
/-- a slot is set to a caught error -/
theorem Mt.setE {i : Nat} {p : Addr} {c : Nat} (m : Mt K f0 H0 f H σ en) (hp : H p = none) : Mt K f0 H0 f (upd H p (erO K c p)) (σ.set i (some (.ref p))) (en.set i (.er c)) := by
  have m' := m.mono ((Po.refl m.po.sub).newH (o := erO K c p) hp)
  exact ⟨m'.po, by rw [List.length_set, List.length_set]; exact m'.len, m'.slSet (.er upd_same), m'.disNew (m.fresh hp)⟩
/-- a slot is set to a new list -/
theorem Mt.setO {i : Nat} {p : Addr} {vs : List V} {ds : List D} (m : Mt K f0 H0 f H σ en) (q : Po f H f' H') (h1 : H p = none) (h2 : f' p = none) (h3 : H' p = some (.lst vs)) (h4 : DpAll K f' vs ds) :
    Mt K f0 H0 f' H' (σ.set i (some (.ref p))) (en.set i (.ow ds)) := by
  have m' := m.mono q
  exact ⟨m'.po, by rw [List.length_set, List.length_set]; exact m'.len, m'.slSet (.ow (m.po.sH.free h1) h2 h3 h4), m'.disNew (m.fresh h1)⟩
/-- a slot is set to a new dict -/
theorem Mt.setD {i : Nat} {p : Addr} (m : Mt K f0 H0 f H σ en) (hp : (p == sysModules) = false) (h1 : H p = none) :
    Mt K f0 H0 f (upd H p (dicO [] p)) (σ.set i (some (.ref p))) (en.set i (.dk [])) := by
  have hf : f p = none := same_none m.po.sub h1
  have m' := m.mono ((Po.refl m.po.sub).newH (o := dicO [] p) h1)
  exact ⟨m'.po, by rw [List.length_set, List.length_set]; exact m'.len, m'.slSet (.dk hp (m.po.sH.free h1) hf upd_same List.nodup_nil (Nat.zero_le _) .nil), m'.disNew (m.fresh h1)⟩
/-- the heap at what may be changed is another one; the other slots stay -/
theorem Mt.slUp {i : Nat} {p : Addr} {o : HO} {s0 s' : Sl} (m : Mt K f0 H0 f H σ en) (e : en[i]? = some s0) (hm : s0.mu = true) (es : σ[i]? = some (some (.ref p))) (hn : SlOk K H0 f (upd H p o) (some (.ref p)) s') (j : Nat) (s : Sl) (e' : (en.set i s')[j]? = some s) : ∃ o', σ[j]? = some o' ∧ SlOk K H0 f (upd H p o) o' s := by
  rcases set_at e' with ⟨rfl, hl, rfl⟩ | ⟨hj, e'⟩
  · exact ⟨_, es, hn⟩
  · obtain ⟨o1, h1, h2⟩ := m.sl j s e'
    refine ⟨o1, h1, ?_⟩
    have np : ∀ {p2 : Addr}, s.own = true → o1 = some (.ref p2) → p2 ≠ p := fun {p2} hs eo z => by
      subst z
      subst eo
      exact hj (m.dis i j _ _ _ e e' hm hs es h1)
    cases h2 with
    | un => exact .un _
    | va h => exact .va h
    | rd hH h => exact .rd hH h
    | fn => exact .fn
    | er gH => exact .er (by rw [upd_ne (np rfl rfl)]; exact gH)
    | ow g0 gf gH g => exact .ow g0 gf (by rw [upd_ne (np rfl rfl)]; exact gH) g
    | dk gp g0 gf gH gn gl g => exact .dk gp g0 gf (by rw [upd_ne (np rfl rfl)]; exact gH) gn gl g
theorem Mt.poUp {p : Addr} {o : HO} (m : Mt K f0 H0 f H σ en) (h0 : H0 p = none) (hf : f p = none) : Po f0 H0 f (upd H p o) :=
  ⟨fun a x e => by rw [upd_ne (ne_of_none e h0)]; exact m.po.sH _ _ e, m.po.sf, fun a x e => by rw [upd_ne (ne_of_none e hf)]; exact m.po.sub _ _ e, m.po.gro⟩
/-- a list of the def's own is changed -/
theorem Mt.upO {i : Nat} {p : Addr} {ws : List V} {ds es : List D} (m : Mt K f0 H0 f H σ en) (e : en[i]? = some (.ow ds)) (es' : σ[i]? = some (some (.ref p))) (hw : DpAll K f ws es) :
    Mt K f0 H0 f (upd H p (.lst ws)) σ (en.set i (.ow es)) := by
  obtain ⟨p', vs', e1, h0, hf, hH, h⟩ := m.ow e
  rw [es'] at e1
  cases e1
  exact ⟨m.poUp h0 hf, by rw [List.length_set]; exact m.len, m.slUp e rfl es' (.ow h0 hf upd_same hw), m.disUp e rfl⟩
/-- a dict of the def's own -/
theorem Mt.dk {i : Nat} {kvs : List (D × D)} (m : Mt K f0 H0 f H σ en) (e : en[i]? = some (.dk kvs)) : ∃ p xs, σ[i]? = some (some (.ref p)) ∧ (p == sysModules) = false ∧ H0 p = none ∧ f p = none ∧ H p = some (dicO xs p) ∧ (xs.map (·.1)).Nodup ∧ xs.length ≤ sizeLine ∧ DkAll K f kvs xs := by
  obtain ⟨o, h1, h2⟩ := m.sl i _ e
  cases h2 with
  | dk hp h0 hf hH hn hl h => exact ⟨_, _, h1, hp, h0, hf, hH, hn, hl, h⟩
theorem Mt.upD {i : Nat} {p : Addr} {xs : List (NestedKey × Addr × Value)} {kvs kvs' : List (D × D)} (m : Mt K f0 H0 f H σ en) (e : en[i]? = some (.dk kvs)) (es' : σ[i]? = some (some (.ref p))) (hn : (xs.map (·.1)).Nodup) (hl : xs.length ≤ sizeLine) (h : DkAll K f kvs' xs) :
    Mt K f0 H0 f (upd H p (dicO xs p)) σ (en.set i (.dk kvs')) := by
  obtain ⟨p', xs', e1, hp, h0, hf, hH, _⟩ := m.dk e
  rw [es'] at e1
  cases e1
  exact ⟨m.poUp h0 hf, by rw [List.length_set]; exact m.len, m.slUp e rfl es' (.dk hp h0 hf upd_same hn hl h), m.disUp e rfl⟩
/-- a list of the def's own is settled -/
theorem Mt.frz {i : Nat} {ds : List D} (m : Mt K f0 H0 f H σ en) (e : en[i]? = some (.ow ds)) : ∃ f', Same f f' ∧ Mt K f0 H0 f' H σ (en.set i (.va (.list ds))) := by
  obtain ⟨p, vs, e1, h0, hf, hH, h⟩ := m.ow e
  have sm : Same f (upd f p (.lst vs)) := fun a o x => by
    rw [upd_ne (ne_of_none x hf)]; exact x
  refine ⟨_, sm, ⟨m.po.sH, m.po.sf.trans sm, fun a o x => ?_, fun a o x => ?_⟩, by rw [List.length_set]; exact m.len, fun j s e' => ?_, fun j k q s t a1 a2 h1 h2 a3 a4 => ?_⟩
  · by_cases ha : a = p
    · subst ha; rw [upd_same] at x; rw [hH]; exact x
    · rw [upd_ne ha] at x; exact m.po.sub _ _ x
  · by_cases ha : a = p
    · subst ha; exact .inr h0
    · rw [upd_ne ha] at x; exact m.po.gro _ _ x
  · rcases set_at e' with ⟨rfl, hl, rfl⟩ | ⟨hj, e'⟩
    · exact ⟨_, e1, .va (.lst (.inl (.inl upd_same)) (dpa_same sm h))⟩
    · obtain ⟨o1, g1, g2⟩ := m.sl j s e'
      refine ⟨o1, g1, ?_⟩
      have np : ∀ {p2 : Addr}, s.own = true → o1 = some (.ref p2) → p2 ≠ p := fun {p2} hs eo z => by
        subst z
        subst eo
        exact hj (m.dis i j _ _ _ e e' rfl hs e1 g1)
      cases g2 with
      | un => exact .un _
      | va h => exact .va (dp_same sm h)
      | rd hH h => exact .rd hH (dpa_same sm h)
      | er hH => exact .er hH
      | fn => exact .fn
      | ow g0 gf gH g => exact .ow g0 (by rw [upd_ne (np rfl rfl)]; exact gf) gH (dpa_same sm g)
      | dk gp g0 gf gH gn gl g => exact .dk gp g0 (by rw [upd_ne (np rfl rfl)]; exact gf) gH gn gl (g.same sm)
  · rcases set_at a1 with ⟨rfl, _, rfl⟩ | ⟨n1, a1⟩
    · cases h1
    · rcases set_at a2 with ⟨rfl, _, rfl⟩ | ⟨n2, a2⟩
      · cases h2
      · exact m.dis j k q s t a1 a2 h1 h2 a3 a4
/-- slots forgotten -/
theorem Mt.wipe1 {i : Nat} (m : Mt K f0 H0 f H σ en) : Mt K f0 H0 f H (σ.set i none) (en.set i .un) := m.setU
theorem Mt.wipes (m : Mt K f0 H0 f H σ en) : ∀ vs : List Nat, Mt K f0 H0 f H (L2.wipe σ vs) (AW.wipe en vs)
  | [] => m
  | v :: vs => (m.wipes vs).wipe1
end
end AW

/-! AwOps: operators on values of the small language. -/
namespace AW
open PySem PySem.Spec PyProof.Rows L2

theorem line_eq : line = sizeLine := by rw [sizeLine_eq]; rfl

/-- wide divisions have room: where the frames stand as told, and behind every heap that keeps the base -/
def PyR (X : Cx) : Prop := X.A.frames = some X.stack → Mod X.K X.mg X.base → ∀ s : Shared, (∀ b o, X.base.get? b = some o → s.heap.get? b = some o) → PylongRoom (model X.prog X.w) X.A s
theorem PyR.of {X : Cx} (h : PyR X) {pins : List (Addr × Obj)} {σ : L2.St} {H : Hp} {s : Shared} (I : Inv X pins σ H s) : PylongRoom (model X.prog X.w) X.A s := h I.ok.frames I.ok.mod s I.bk
/-- what is wanted of a result -/
def Ac (K : PySem.W.Frag) (f H : Hp) (Q : VK) (p : D × Bool) : Prop := ∀ v f' H', Po f H f' H' → Vf K H f' H' v p.1 p.2 → Q v H'
section
variable {K : PySem.W.Frag} {f H f1 H1 : Hp} {Q : VK}
theorem Ac.mono {p : D × Bool} (q : Po f H f1 H1) (h : Ac K f H Q p) : Ac K f1 H1 Q p := fun v f' H' q' hv => h v f' H' (q.trans q') (hv.back q.sH)
theorem Ac.here {d : D} {v : V} (s : Same f H) (h : Ac K f H Q (d, false)) (hv : Dp K f v d) : Q v H := h v f H (Po.refl s) hv
theorem Ac.newT {ds : List D} {vs : List V} {p : Addr} (s : Same f H) (h : Ac K f H Q (.tuple ds, false)) (hv : DpAll K f vs ds) (hp : H p = none) : Q (.ref p) (upd H p (.tup vs)) :=
  h _ _ _ ((Po.refl s).new hp) (.tup (.inl (.inl upd_same)) (dpa_same (fun a o e => by rw [upd_ne (ne_of_none (s _ _ e) hp)]; exact e) hv))
theorem Ac.newL {ds : List D} {vs : List V} {p : Addr} (s : Same f H) (h : Ac K f H Q (.list ds, true)) (hv : DpAll K f vs ds) (hp : H p = none) : Q (.ref p) (upd H p (.lst vs)) :=
  h _ _ _ ((Po.refl s).newH hp) ⟨ds, p, vs, rfl, rfl, hp, s.free hp, upd_same, hv⟩
end
/-- two values read, and what is wanted -/
def rO2 (K : PySem.W.Frag) (o : O2) : R2 := fun x y H Q => ∃ f dx dy p, Same f H ∧ Vr K f H x dx ∧ Vr K f H y dy ∧ sem2 o dx dy = .ok p ∧ Ac K f H Q p
def rO1 (K : PySem.W.Frag) (o : O1) : V → Hp → VK → Prop := fun x H Q => ∃ f dx p, Same f H ∧ Vr K f H x dx ∧ sem1 o dx = .ok p ∧ Ac K f H Q p

section
variable {X : Cx}
/-- list + list -/
theorem op_catS : OpR X (binaryOp .Add) (fun x y H Q => ∃ a b xs ys, x = .ref a ∧ y = .ref b ∧ SqL X.K H a xs ∧ SqL X.K H b ys ∧ xs.length + ys.length ≤ sizeLine ∧ ∀ p, H p = none → Q (.ref p) (upd H p (.lst (xs ++ ys)))) := by
  intro pins s σ H x y v u Q I rx ry h
  obtain ⟨a, b, xs, ys, rfl, rfl, ha, hb, hz, q⟩ := h
  cases rx
  cases ry
  obtain ⟨its, r1, p1, _⟩ := I.list ha
  obtain ⟨its2, r2, p2, _⟩ := I.list hb
  obtain ⟨⟨cls, dd, data, sl⟩, ho, hc, n, hd⟩ := p1.isList
  obtain ⟨⟨cls2, dd2, data2, sl2⟩, ho2, hc2, n2, hd2⟩ := p2.isList
  simp only at hc hd hc2 hd2
  subst hc hd hc2 hd2
  have e : its.toArray ++ its2.toArray = (its ++ its2).toArray := by simp
  have l1 := r1.length
  have l2 := r2.length
  refine concat_meets ⟨_, ho, rfl⟩ ⟨_, ho2, rfl⟩ noFill_list_add seq_list_add PySem.F.slot_list_add PySem.F.entry_list_add (PySem.F.args_list_add_2 _ _) (list_addW a b its.toArray its2.toArray n n2 dd dd2 sl sl2 (by simp only [List.size_toArray]; omega)) ⟨ho, ho2, ?_⟩
  rw [e]
  exact ⟨.ref _, _, I.lnew (t' := s.toks) (r1.append r2) (by rw [List.length_append]; omega), rfl, q _ I.fresh⟩
theorem op_addA : OpR X (binaryOp .Add) (rO2 X.K .add) := by
  intro pins s σ H x y v u Q I rx ry h
  obtain ⟨f, dx, dy, p, sm, hx, hy, e, q⟩ := h
  cases dx <;> cases dy <;> first
    | (cases e; done)
    | skip
  case int.int i j =>
    cases e
    exact op_add pins s σ H x y v u Q I rx ry ⟨i, j, hx.int, hy.int, q.here sm (.int _)⟩
  case str.str i j =>
    by_cases hz : i.length + j.length ≤ line
    · have e' : (if i.length + j.length ≤ line then v1 (.str (i ++ j)) else .no) = R.ok p := e
      rw [if_pos hz] at e'
      cases e'
      exact op_add_str pins s σ H x y v u Q I rx ry ⟨i, j, hx.str, hy.str, by rw [← line_eq]; exact hz, q.here sm (.str _)⟩
    · have e' : (if i.length + j.length ≤ line then v1 (.str (i ++ j)) else .no) = R.ok p := e
      rw [if_neg hz] at e'
      cases e'
  case list.list xs ys =>
    have e' : (if xs.length + ys.length ≤ line then R.ok (PyData.list (xs ++ ys), true) else .no) = R.ok p := e
    by_cases hz : xs.length + ys.length ≤ line
    · rw [if_pos hz] at e'
      cases e'
      obtain ⟨a, vs, rfl, ha, ra⟩ := hx.list sm
      obtain ⟨b, us, rfl, hb, rb⟩ := hy.list sm
      exact op_catS pins s σ H _ _ v u Q I rx ry ⟨a, b, vs, us, rfl, rfl, ha, hb, by rw [ra.length, rb.length, ← line_eq]; exact hz, fun p hp => q.newL sm (ra.append rb) hp⟩
    · rw [if_neg hz] at e'
      cases e'
  case tuple.tuple xs ys =>
    have e' : (if xs.length + ys.length ≤ line then v1 (PyData.tuple (xs ++ ys)) else .no) = R.ok p := e
    by_cases hz : xs.length + ys.length ≤ line
    · rw [if_pos hz] at e'
      cases e'
      obtain ⟨a, vs, rfl, hfa, ha, ra⟩ := hx.tup sm
      obtain ⟨b, us, rfl, hfb, hb, rb⟩ := hy.tup sm
      refine op_catA pins s σ H _ _ v u Q I rx ry ⟨a, b, vs, us, rfl, rfl, ha, hb, by rw [ra.length, rb.length, ← line_eq]; exact hz, fun z => ?_, fun z1 z2 => ?_, fun _ _ p hp => q.newT sm (ra.append rb) hp⟩
      · refine q.here sm ?_
        subst z
        cases ra
        exact .tup hfb rb
      · refine q.here sm ?_
        subst z2
        cases rb
        rw [List.append_nil]
        exact .tup hfa ra
    · rw [if_neg hz] at e'
      cases e'
theorem op_subA : OpR X (binaryOp .Sub) (rO2 X.K .sub) := by
  intro pins s σ H x y v u Q I rx ry h
  obtain ⟨f, dx, dy, p, sm, hx, hy, e, q⟩ := h
  cases dx <;> cases dy <;> first
    | (cases e; done)
    | skip
  case int.int i j =>
    cases e
    exact op_sub pins s σ H x y v u Q I rx ry ⟨i, j, hx.int, hy.int, q.here sm (.int _)⟩
theorem mulOk_ok {i j : Int} (h : mulOk i j = true) : IntMulOk i j := by
  rcases (of_decide_eq_true h : i.natAbs < 2 ^ 64 ∨ j.natAbs < 2 ^ 64 ∨ i.natAbs.log2 + j.natAbs.log2 < 100000000) with h1 | h1 | h1
  · exact .of_left (intBits_le_64 (by omega) (by omega))
  · exact .of_right (intBits_le_64 (by omega) (by omega))
  have b : ∀ x : Int, Builtin.Int.intBits x ≤ x.natAbs.log2 + 1 := fun x => by
    unfold Builtin.Int.intBits
    split <;> omega
  have h3 := b i
  have h4 := b j
  have e : bitsLine = 134217728 := by decide
  unfold IntMulOk
  intro z
  rw [Bool.and_eq_true] at z
  have z2 := z.2
  unfold Builtin.Int.intTooBig at z2
  have z3 := of_decide_eq_true z2
  rw [e] at z3
  omega
theorem op_mulA : OpR X (binaryOp .Mult) (rO2 X.K .mul) := by
  intro pins s σ H x y v u Q I rx ry h
  obtain ⟨f, dx, dy, p, sm, hx, hy, e, q⟩ := h
  cases dx <;> cases dy <;> first
    | (cases e; done)
    | skip
  case int.int i j =>
    have e' : (if mulOk i j = true then v1 (.int (i * j)) else .no) = R.ok p := e
    by_cases hz : mulOk i j = true
    · rw [if_pos hz] at e'
      cases e'
      have hr : OpR X (binaryOp .Mult) (rI (fun i j => mulOk i j = true) fun i j => .int (i * j)) := opI fun _ _ _ _ _ _ _ hc q => mul_int q (mulOk_ok hc)
      exact hr pins s σ H x y v u Q I rx ry ⟨i, j, hx.int, hy.int, hz, q.here sm (.int _)⟩
    · rw [if_neg hz] at e'
      cases e'
  case tuple.int xs k =>
    have e' : (if -1000000 ≤ k ∧ k ≤ 1000000 ∧ xs.length * k.toNat ≤ line then v1 (.tuple (List.replicate k.toNat xs).flatten) else .no) = R.ok p := e
    by_cases hz : -1000000 ≤ k ∧ k ≤ 1000000 ∧ xs.length * k.toNat ≤ line
    · rw [if_pos hz] at e'
      cases e'
      obtain ⟨a, vs, rfl, hfa, ha, ra⟩ := hx.tup sm
      obtain ⟨_, _, _, hlen⟩ := I.tuple ha
      refine op_repTA pins s σ H _ y v u Q I rx ry ⟨a, k, vs, rfl, hy.int, ha, hlen, hz.2.1, hz.1, by rw [ra.length, ← line_eq]; exact hz.2.2, fun z => ?_, fun _ r hr => q.newT sm (ra.rep k.toNat) hr⟩
      refine q.here sm ?_
      have e1 : (List.replicate k.toNat xs).flatten = xs := by
        rcases z with z | z
        · have hx0 : xs = [] := by
            have := ra.length
            rw [z] at this
            exact List.eq_nil_of_length_eq_zero this.symm
          rw [hx0]
          have : ∀ n : Nat, (List.replicate n ([] : List D)).flatten = [] := fun n => by induction n with | zero => rfl | succ n ih => rw [List.replicate_succ, List.flatten_cons, ih]; rfl
          exact this _
        · rw [z]
          show (List.replicate 1 xs).flatten = xs
          simp
      rw [e1]
      exact .tup hfa ra
    · rw [if_neg hz] at e'
      cases e'
theorem op_fdivA (hp : PyR X) : OpR X (binaryOp .FloorDiv) (rO2 X.K .fdiv) := by
  intro pins s σ H x y v u Q I rx ry h
  obtain ⟨f, dx, dy, p, sm, hx, hy, e, q⟩ := h
  cases dx <;> cases dy <;> first
    | (cases e; done)
    | skip
  case int.int i j =>
    have e' : (if j = 0 then R.no else v1 (.int (i.fdiv j))) = R.ok p := e
    by_cases h0 : j = 0
    · rw [if_pos h0] at e'
      cases e'
    · rw [if_neg h0] at e'
      cases e'
      obtain ⟨t, rfl⟩ : RelV (.int i) v := by rw [← hx.int]; exact rx
      obtain ⟨t', rfl⟩ : RelV (.int j) u := by rw [← hy.int]; exact ry
      exact floordiv_int h0 ⟨.int (i.fdiv j), H, I.tok _, ⟨_, rfl⟩, q.here sm (.int _)⟩ (.inr (hp.of I))
theorem op_modA : OpR X (binaryOp .Mod) (rO2 X.K .mod) := by
  intro pins s σ H x y v u Q I rx ry h
  obtain ⟨f, dx, dy, p, sm, hx, hy, e, q⟩ := h
  cases dx <;> cases dy <;> first
    | (cases e; done)
    | skip
  case int.int i j =>
    have e' : (if j = 0 then R.no else v1 (.int (i.fmod j))) = R.ok p := e
    by_cases h0 : j = 0
    · rw [if_pos h0] at e'
      cases e'
    · rw [if_neg h0] at e'
      cases e'
      exact op_modN pins s σ H x y v u Q I rx ry ⟨i, j, hx.int, hy.int, h0, q.here sm (.int _)⟩
theorem op_powA : OpR X (binaryOp .Pow) (rO2 X.K .pow) := by
  intro pins s σ H x y v u Q I rx ry h
  obtain ⟨f, dx, dy, p, sm, hx, hy, e, q⟩ := h
  cases dx <;> cases dy <;> first
    | (cases e; done)
    | skip
  case int.int i j =>
    have e' : (if 0 ≤ j ∧ j ≤ 1000000 ∧ i.natAbs < 2 ^ 64 then v1 (.int (i ^ j.toNat)) else .no) = R.ok p := e
    by_cases hz : 0 ≤ j ∧ j ≤ 1000000 ∧ i.natAbs < 2 ^ 64
    · rw [if_pos hz] at e'
      cases e'
      exact op_pow pins s σ H x y v u Q I rx ry ⟨i, j, hx.int, hy.int, hz, q.here sm (.int _)⟩
    · rw [if_neg hz] at e'
      cases e'
theorem op_eqA (hu : X.A.units + 64 < cLine) : OpR X (compareOp .Eq) (rO2 X.K .eq) := by
  intro pins s σ H x y v u Q I rx ry h
  obtain ⟨f, dx, dy, p, sm, hx, hy, e, q⟩ := h
  have e' : (if SeqAt.shaped dx = true ∧ SeqAt.shaped dy = true then v1 (.bool (dx.eqv dy)) else .no) = R.ok p := by
    rw [← e]
    cases dx <;> cases dy <;> rfl
  by_cases hz : SeqAt.shaped dx = true ∧ SeqAt.shaped dy = true
  · rw [if_pos hz] at e'
    cases e'
    exact op_eqD hu pins s σ H x y v u Q I rx ry ⟨dx, dy, (hx.dp sm).shp hz.1, (hy.dp sm).shp hz.2, hz.1, hz.2, q.here sm (.bl _)⟩
  · rw [if_neg hz] at e'
    cases e'
theorem op_neA (hu : X.A.units + 64 < cLine) : OpR X (compareOp .NotEq) (rO2 X.K .ne) := by
  intro pins s σ H x y v u Q I rx ry h
  obtain ⟨f, dx, dy, p, sm, hx, hy, e, q⟩ := h
  have e' : (if SeqAt.shaped dx = true ∧ SeqAt.shaped dy = true then v1 (.bool (!dx.eqv dy)) else .no) = R.ok p := by
    rw [← e]
    cases dx <;> cases dy <;> rfl
  by_cases hz : SeqAt.shaped dx = true ∧ SeqAt.shaped dy = true
  · rw [if_pos hz] at e'
    cases e'
    exact op_neD hu pins s σ H x y v u Q I rx ry ⟨dx, dy, (hx.dp sm).shp hz.1, (hy.dp sm).shp hz.2, hz.1, hz.2, q.here sm (.bl _)⟩
  · rw [if_neg hz] at e'
    cases e'
theorem op_cmpA {op : CmpOp} {o : O2} {g : Int → Int → Bool} (hs : ∀ a b, sem2 o a b = cmpI g a b) (hr : OpR X (compareOp op) (rI0 fun i j => .bl (g i j))) : OpR X (compareOp op) (rO2 X.K o) := by
  intro pins s σ H x y v u Q I rx ry h
  obtain ⟨f, dx, dy, p, sm, hx, hy, e, q⟩ := h
  rw [hs] at e
  cases dx <;> cases dy <;> first
    | (cases e; done)
    | skip
  case int.int i j =>
    cases e
    exact hr pins s σ H x y v u Q I rx ry ⟨i, j, hx.int, hy.int, q.here sm (.bl _)⟩
theorem op_ltA : OpR X (compareOp .Lt) (rO2 X.K .lt) := op_cmpA (fun a b => by cases a <;> cases b <;> rfl) op_lt
theorem op_leA : OpR X (compareOp .LtE) (rO2 X.K .le) := op_cmpA (fun a b => by cases a <;> cases b <;> rfl) op_le
theorem op_gtA : OpR X (compareOp .Gt) (rO2 X.K .gt) := op_cmpA (fun a b => by cases a <;> cases b <;> rfl) op_gt
theorem op_geA : OpR X (compareOp .GtE) (rO2 X.K .ge) := op_cmpA (fun a b => by cases a <;> cases b <;> rfl) op_ge
theorem Vr.isN {K : PySem.W.Frag} {f H : Hp} {v : V} {d : D} (h : Vr K f H v d) : decide (v = .non) = (match d with | .none => true | _ => false) := by
  rcases h with h | ⟨ds, p, vs, rfl, rfl, _⟩
  · cases h <;> rfl
  · rfl
theorem op_isA : OpR X (compareOp .Is) (rO2 X.K .is_) := by
  intro pins s σ H x y v u Q I rx ry h
  obtain ⟨f, dx, dy, p, sm, hx, hy, e, q⟩ := h
  have e : (isD dx dy).bind (fun c => v1 (.bool c)) = R.ok p := by
    rw [← e]
    cases dx <;> cases dy <;> rfl
  cases dy with
  | none =>
    have e2 : isD dx .none = .ok (decide (x = .non)) := by
      rw [hx.isN]
      cases dx <;> rfl
    rw [e2] at e
    cases e
    exact op_isN pins s σ H x y v u Q I rx ry ⟨hy.non, q.here sm (.bl _)⟩
  | bool b =>
    cases dx with
    | bool a =>
      cases e
      exact op_isBl pins s σ H x y v u Q I rx ry ⟨a, b, hx.bool, hy.bool, q.here sm (by rw [show decide (a = b) = (a == b) by cases a <;> cases b <;> rfl]; exact .bl _)⟩
    | _ => cases e
  | _ => cases dx <;> cases e
theorem op_isnA : OpR X (compareOp .IsNot) (rO2 X.K .isn) := by
  intro pins s σ H x y v u Q I rx ry h
  obtain ⟨f, dx, dy, p, sm, hx, hy, e, q⟩ := h
  have e : (isD dx dy).bind (fun c => v1 (.bool (!c))) = R.ok p := by
    rw [← e]
    cases dx <;> cases dy <;> rfl
  cases dy with
  | none =>
    have e2 : isD dx .none = .ok (decide (x = .non)) := by
      rw [hx.isN]
      cases dx <;> rfl
    rw [e2] at e
    cases e
    exact op_notN pins s σ H x y v u Q I rx ry ⟨hy.non, q.here sm (.bl _)⟩
  | bool b =>
    cases dx with
    | bool a =>
      cases e
      exact op_notBl pins s σ H x y v u Q I rx ry ⟨a, b, hx.bool, hy.bool, q.here sm (by rw [show decide (a = b) = (a == b) by cases a <;> cases b <;> rfl]; exact .bl _)⟩
    | _ => cases e
  | _ => cases dx <;> cases e
theorem op_inA (hu : X.A.units + 65 < cLine) : OpR X (compareOp .In) (rO2 X.K .inn) := by
  intro pins s σ H x y v u Q I rx ry h
  obtain ⟨f, dx, dy, p, sm, hx, hy, e, q⟩ := h
  cases dy with
  | list xs =>
    have e' : (if SeqAt.shaped dx = true ∧ SeqAt.shaped (.list xs) = true then v1 (.bool (xs.any fun z => z.eqv dx)) else .no) = R.ok p := by
      rw [← e]
      cases dx <;> rfl
    by_cases hz : SeqAt.shaped dx = true ∧ SeqAt.shaped (.list xs) = true
    · rw [if_pos hz] at e'
      cases e'
      exact op_inD hu pins s σ H x y v u Q I rx ry ⟨dx, xs, (hx.dp sm).shp hz.1, (hy.dp sm).shp hz.2, hz.1, hz.2, q.here sm (.bl _)⟩
    · rw [if_neg hz] at e'
      cases e'
  | _ => cases dx <;> cases e
theorem op_ninA (hu : X.A.units + 65 < cLine) : OpR X (compareOp .NotIn) (rO2 X.K .nin) := by
  intro pins s σ H x y v u Q I rx ry h
  obtain ⟨f, dx, dy, p, sm, hx, hy, e, q⟩ := h
  cases dy with
  | list xs =>
    have e' : (if SeqAt.shaped dx = true ∧ SeqAt.shaped (.list xs) = true then v1 (.bool (!xs.any fun z => z.eqv dx)) else .no) = R.ok p := by
      rw [← e]
      cases dx <;> rfl
    by_cases hz : SeqAt.shaped dx = true ∧ SeqAt.shaped (.list xs) = true
    · rw [if_pos hz] at e'
      cases e'
      exact op_notInD hu pins s σ H x y v u Q I rx ry ⟨dx, xs, (hx.dp sm).shp hz.1, (hy.dp sm).shp hz.2, hz.1, hz.2, q.here sm (.bl _)⟩
    · rw [if_neg hz] at e'
      cases e'
  | _ => cases dx <;> cases e
def binOf : O2 → Operator → Bool
  | .add, .Add => true
  | .sub, .Sub => true
  | .mul, .Mult => true
  | .fdiv, .FloorDiv => true
  | .mod, .Mod => true
  | .pow, .Pow => true
  | _, _ => false
def cmpOf : O2 → CmpOp → Bool
  | .eq, .Eq => true
  | .ne, .NotEq => true
  | .lt, .Lt => true
  | .le, .LtE => true
  | .gt, .Gt => true
  | .ge, .GtE => true
  | .is_, .Is => true
  | .isn, .IsNot => true
  | .inn, .In => true
  | .nin, .NotIn => true
  | _, _ => false
theorem op_bin {o : O2} {op : Operator} (hp : PyR X) (h : binOf o op = true) : OpR X (binaryOp op) (rO2 X.K o) := by
  cases o <;> cases op <;> first
    | (cases h; done)
    | exact op_addA
    | exact op_subA
    | exact op_mulA
    | exact op_fdivA hp
    | exact op_modA
    | exact op_powA
theorem op_cmp {o : O2} {op : CmpOp} (hu : X.A.units + 65 < cLine) (h : cmpOf o op = true) : OpR X (compareOp op) (rO2 X.K o) := by
  have hu' : X.A.units + 64 < cLine := Nat.lt_of_le_of_lt (Nat.add_le_add_left (by decide : 64 ≤ 65) _) hu
  cases o <;> cases op <;> first
    | (cases h; done)
    | exact op_eqA hu'
    | exact op_neA hu'
    | exact op_ltA
    | exact op_leA
    | exact op_gtA
    | exact op_geA
    | exact op_isA
    | exact op_isnA
    | exact op_inA hu
    | exact op_ninA hu
theorem ix_A : IxR X (rO2 X.K .idx) := by
  intro value slice pins s σ H x y v u Q I rx ry h hs
  obtain ⟨f, dx, dy, p, sm, hx, hy, e, q⟩ := h
  cases dx <;> cases dy <;> first
    | (cases e; done)
    | skip
  case list.int xs i =>
    have e' : (match atI xs i with | some d => v1 d | none => .no) = R.ok p := e
    cases z : atI xs i with
    | none => rw [z] at e'; cases e'
    | some d =>
      rw [z] at e'
      cases e'
      obtain ⟨a, vs, rfl, ha, ra⟩ := hx.list sm
      obtain ⟨w, hw, rw'⟩ := atI_all ra z
      exact ix_list value slice pins s σ H _ y v u Q I rx ry ⟨a, vs, i, w, rfl, hy.int, ha, hw, q.here sm rw'⟩ hs
  case tuple.int xs i =>
    have e' : (match atI xs i with | some d => v1 d | none => .no) = R.ok p := e
    cases z : atI xs i with
    | none => rw [z] at e'; cases e'
    | some d =>
      rw [z] at e'
      cases e'
      obtain ⟨a, vs, rfl, _, ha, ra⟩ := hx.tup sm
      obtain ⟨w, hw, rw'⟩ := atI_all ra z
      exact ix_tup value slice pins s σ H _ y v u Q I rx ry ⟨a, vs, i, w, rfl, hy.int, ha, hw, q.here sm rw'⟩ hs
/-- slices -/
def rSl (K : PySem.W.Frag) : V → Option Int → Option Int → Hp → VK → Prop := fun x lo hi H Q => ∃ f dx p, Same f H ∧ Vr K f H x dx ∧ semSl dx lo hi = .ok p ∧ Ac K f H Q p
theorem sl_A : SlR X (rSl X.K) := by
  intro pins s σ H x v vl vu lo hi sl Q I rx hs pl pu h
  obtain ⟨f, dx, p, sm, hx, e, q⟩ := h
  cases dx <;> first
    | (cases e; done)
    | skip
  case list xs =>
    cases e
    obtain ⟨a, vs, rfl, ha, ra⟩ := hx.list sm
    exact sl_list pins s σ H _ v vl vu lo hi sl Q I rx hs pl pu ⟨a, vs, rfl, ha, fun p hp => q.newL sm (ra.cut lo hi) hp⟩
  case tuple xs =>
    cases e
    obtain ⟨a, vs, rfl, hfa, ha, ra⟩ := hx.tup sm
    refine sl_tupA pins s σ H _ v vl vu lo hi sl Q I rx hs pl pu ⟨a, vs, rfl, ha, fun z => ?_, fun _ p hp => q.newT sm (ra.cut lo hi) hp⟩
    refine q.here sm ?_
    have e1 : cutL xs lo hi = xs := by
      unfold cutL
      rw [← ra.length, z.1, z.2]
      simp [ra.length]
    rw [e1]
    exact .tup hfa ra
/-- one-place operators and built-in calls -/
theorem un_A : UnR X (unaryOp .USub) (rO1 X.K .neg) := by
  intro pins s σ H x v Q I rx h
  obtain ⟨f, dx, p, sm, hx, e, q⟩ := h
  cases dx <;> first
    | (cases e; done)
    | skip
  case int i =>
    cases e
    exact un_neg pins s σ H x v Q I rx ⟨i, hx.int, q.here sm (.int _)⟩
def rB1 (K : PySem.W.Frag) (o : O1) : List V → Hp → VK → Prop := fun xs H Q => ∃ x, xs = [x] ∧ rO1 K o x H Q
def rB2 (K : PySem.W.Frag) (o : O2) : List V → Hp → VK → Prop := fun xs H Q => ∃ x y, xs = [x, y] ∧ rO2 K o x y H Q
theorem cr_intB : CallR X (.type "int") (rB1 X.K .intB) := by
  intro pins s σ H xs us Q I r h
  obtain ⟨x, rfl, f, dx, p, sm, hx, e, q⟩ := h
  cases dx <;> first
    | (cases e; done)
    | skip
  case bool b =>
    cases e
    exact call_int1 pins s σ H _ us Q I r (.inr ⟨b, by rw [hx.bool], q.here sm (.int _)⟩)
  case int i =>
    cases e
    exact call_int1 pins s σ H _ us Q I r (.inl ⟨i, by rw [hx.int], q.here sm (.int _)⟩)
theorem cr_abs : CallR X (.builtin "abs") (rB1 X.K .abs) := by
  intro pins s σ H xs us Q I r h
  obtain ⟨x, rfl, f, dx, p, sm, hx, e, q⟩ := h
  cases dx <;> first
    | (cases e; done)
    | skip
  case int i =>
    cases e
    exact call_abs pins s σ H _ us Q I r ⟨i, by rw [hx.int], q.here sm (.int _)⟩
theorem cr_len : CallR X (.builtin "len") (rB1 X.K .len) := by
  intro pins s σ H xs us Q I r h
  obtain ⟨x, rfl, f, dx, p, sm, hx, e, q⟩ := h
  cases dx <;> first
    | (cases e; done)
    | skip
  case list ds =>
    cases e
    obtain ⟨a, vs, rfl, ha, ra⟩ := hx.list sm
    exact call_len_seq pins s σ H _ us Q I r ⟨a, vs, rfl, .inl ha, q.here sm (by rw [ra.length]; exact .int _)⟩
  case tuple ds =>
    cases e
    obtain ⟨a, vs, rfl, _, ha, ra⟩ := hx.tup sm
    exact call_len_seq pins s σ H _ us Q I r ⟨a, vs, rfl, .inr ha, q.here sm (by rw [ra.length]; exact .int _)⟩
  case str z =>
    have e' : (if z.length ≤ line then v1 (.int z.length) else .no) = R.ok p := e
    by_cases hz : z.length ≤ line
    · rw [if_pos hz] at e'
      cases e'
      exact call_len_str pins s σ H _ us Q I r ⟨z, by rw [hx.str], by rw [← line_eq]; exact hz, q.here sm (.int _)⟩
    · rw [if_neg hz] at e'
      cases e'
theorem cr_listA : CallR X (.type "list") (rB1 X.K .list) := by
  intro pins s σ H xs us Q I r h
  obtain ⟨x, rfl, f, dx, p, sm, hx, e, q⟩ := h
  cases dx <;> first
    | (cases e; done)
    | skip
  case list ds =>
    cases e
    obtain ⟨a, vs, rfl, ha, ra⟩ := hx.list sm
    exact call_list_of pins s σ H _ us Q I r ⟨a, vs, rfl, .inl ha, fun l hl => q.newL sm ra hl⟩
  case tuple ds =>
    cases e
    obtain ⟨a, vs, rfl, _, ha, ra⟩ := hx.tup sm
    exact call_list_of pins s σ H _ us Q I r ⟨a, vs, rfl, .inr ha, fun l hl => q.newL sm ra hl⟩
theorem cr_tupleA : CallR X (.type "tuple") (rB1 X.K .tuple) := by
  intro pins s σ H xs us Q I r h
  obtain ⟨x, rfl, f, dx, p, sm, hx, e, q⟩ := h
  cases dx <;> first
    | (cases e; done)
    | skip
  case list ds =>
    cases e
    obtain ⟨a, vs, rfl, ha, ra⟩ := hx.list sm
    exact call_tuple_of pins s σ H _ us Q I r ⟨a, vs, rfl, .inl ⟨ha, fun l hl => q.newT sm ra hl⟩⟩
  case tuple ds =>
    cases e
    obtain ⟨a, vs, rfl, hfa, ha, ra⟩ := hx.tup sm
    exact call_tuple_of pins s σ H _ us Q I r ⟨a, vs, rfl, .inr ⟨ha, q.here sm (.tup hfa ra)⟩⟩
theorem allB_ok {K : PySem.W.Frag} {f : Hp} : ∀ {vs : List V} {ds : List D} {b : Bool}, DpAll K f vs ds → allB ds = .ok b → ∃ bs : List Bool, vs = bs.map V.bl ∧ b = bs.all id
  | _, _, _, .nil, e => by cases e; exact ⟨[], rfl, rfl⟩
  | _, _, b, .cons (d := d) (ds := ds) a t, e => by
    cases a with
    | bl c =>
      have e' : (allB ds).bind (fun k => .ok (c && k)) = R.ok b := e
      obtain ⟨k, e1, e2⟩ := R.of_bind e'
      obtain ⟨bs, rfl, rfl⟩ := allB_ok t e1
      cases e2
      exact ⟨c :: bs, rfl, rfl⟩
    | _ => cases e
theorem cr_allA (hc : X.calm = true) : CallR X (.builtin "all") (rB1 X.K .all) := by
  intro pins s σ H xs us Q I r h
  obtain ⟨x, rfl, f, dx, p, sm, hx, e, q⟩ := h
  cases dx <;> first
    | (cases e; done)
    | skip
  case list ds =>
    have e' : (allB ds).bind (fun b => v1 (.bool b)) = R.ok p := e
    obtain ⟨b, e1, e2⟩ := R.of_bind e'
    cases e2
    obtain ⟨a, vs, rfl, ha, ra⟩ := hx.list sm
    obtain ⟨bs, rfl, rfl⟩ := allB_ok ra e1
    exact cr_all hc pins s σ H _ us Q I r ⟨a, bs, rfl, ha, q.here sm (.bl _)⟩
theorem cr_strI : CallR X (.type "str") (rB1 X.K .strI) := by
  intro pins s σ H xs us Q I r h
  obtain ⟨x, rfl, f, dx, p, sm, hx, e, q⟩ := h
  cases dx <;> first
    | (cases e; done)
    | skip
  case int i =>
    have e' : (if i.natAbs.log2 < 1920 then v1 (.str (toString i)) else .no) = R.ok p := e
    by_cases hz : i.natAbs.log2 < 1920
    · rw [if_pos hz] at e'
      cases e'
      exact call_str_int pins s σ H _ us Q I r ⟨i, by rw [hx.int], hz, q.here sm (.str _)⟩
    · rw [if_neg hz] at e'
      cases e'
theorem cr_max2 (hc : X.calm = true) : CallR X (.builtin "max") (rB2 X.K .max2) := by
  intro pins s σ H xs us Q I r h
  obtain ⟨x, y, rfl, f, dx, dy, p, sm, hx, hy, e, q⟩ := h
  cases dx <;> cases dy <;> first
    | (cases e; done)
    | skip
  case int.int i j =>
    cases e
    exact call_max2 hc pins s σ H _ us Q I r ⟨i, j, by rw [hx.int, hy.int], q.here sm (.int _)⟩
theorem cr_min2 (hc : X.calm = true) : CallR X (.builtin "min") (rB2 X.K .min2) := by
  intro pins s σ H xs us Q I r h
  obtain ⟨x, y, rfl, f, dx, dy, p, sm, hx, hy, e, q⟩ := h
  cases dx <;> cases dy <;> first
    | (cases e; done)
    | skip
  case int.int i j =>
    cases e
    exact call_min2 hc pins s σ H _ us Q I r ⟨i, j, by rw [hx.int, hy.int], q.here sm (.int _)⟩
end
end AW

/-! AwExpr: what the small language's expressions reckon, the machine does. -/
namespace AW
open PySem PySem.Spec PyProof.Rows L2

/-! ### the defs and constants at hand -/
structure Lk where
  T : List Fn
  cons : List (Str × D)
  c : Nat → List Sl → R (D × Bool)
  lev : Nat
  cls : Nat → Value
  clsN : List Str
def Lk.G (L : Lk) (x : Nat) : D := ((L.cons[x]?).map (·.2)).getD .none
def dflT (T : List Fn) (j m : Nat) : List D := ((T[j]?).map fun g => g.dv m).getD []
abbrev Lk.ev (L : Lk) : E → En → R (D × Bool) := evF L.G L.c (dflT L.T)

/-! ### arguments -/
inductive ArgOk (K : PySem.W.Frag) (f H : Hp) : V → Sl → Prop where
  | va {v : V} {d : D} (h : Dp K f v d) : ArgOk K f H v (.va d)
  | rd {p : Addr} {vs : List V} {ds : List D} (hH : SqL K H p vs) (h : DpAll K f vs ds) : ArgOk K f H (.ref p) (.rd ds)
  | er {p : Addr} {c : Nat} (hH : H p = some (erO K c p)) : ArgOk K f H (.ref p) (.er c)
  | fn {n : Str} : ArgOk K f H (.ref (He.ga K n)) (.fn n)
inductive ArgsOk (K : PySem.W.Frag) (f H : Hp) : List V → List Sl → Prop where
  | nil : ArgsOk K f H [] []
  | cons {v : V} {s : Sl} {vs : List V} {ss : List Sl} (h : ArgOk K f H v s) (t : ArgsOk K f H vs ss) : ArgsOk K f H (v :: vs) (s :: ss)
section
variable {K : PySem.W.Frag} {f H f' H' : Hp}
theorem ArgOk.mono {v : V} {s : Sl} (q : Po f H f' H') (h : ArgOk K f H v s) : ArgOk K f' H' v s := by
  cases h with
  | va h => exact .va (dp_same q.sf h)
  | rd hH h => exact .rd (sql_same q.sH hH) (dpa_same q.sf h)
  | er hH => exact .er (q.sH _ _ hH)
  | fn => exact .fn
theorem ArgsOk.mono (q : Po f H f' H') : ∀ {vs : List V} {ss : List Sl}, ArgsOk K f H vs ss → ArgsOk K f' H' vs ss
  | _, _, .nil => .nil
  | _, _, .cons h t => .cons (h.mono q) (t.mono q)
theorem ArgsOk.length : ∀ {vs : List V} {ss : List Sl}, ArgsOk K f H vs ss → vs.length = ss.length
  | _, _, .nil => rfl
  | _, _, .cons _ t => congrArg Nat.succ t.length
theorem ArgsOk.append {us : List V} {ds : List D} (h2 : DpAll K f us ds) : ∀ {vs : List V} {ss : List Sl}, ArgsOk K f H vs ss → ArgsOk K f H (vs ++ us) (ss ++ ds.map .va)
  | _, _, .nil => by
    have go : ∀ {us : List V} {ds : List D}, DpAll K f us ds → ArgsOk K f H us (ds.map .va) := by
      intro us
      induction us with
      | nil => intro ds h; cases h; exact .nil
      | cons u us ih => intro ds h; cases h with | cons a t => exact .cons (.va a) (ih t)
    exact go h2
  | _, _, .cons h t => .cons h (t.append h2)
end

/-- a def's promise: it hands back what the table's function reckons -/
def Lk.sp (L : Lk) (K : PySem.W.Frag) (j : Nat) : Sp := fun vs H Q E => ∃ f ss, Same f H ∧ ArgsOk K f H vs ss ∧ (match L.c j ss with
  | .ok p => Ac K f H Q p
  | .ex k => ∀ f' H', Po f H f' H' → E (L.cls k) none H'
  | .no => False)

def blts : List Str := ["abs", "len", "list", "tuple", "all", "str", "max", "min", "range", "reversed", "enumerate", "zip", "isinstance", "int", "bool", "ValueError"]

/-! ### nobody looks on (for wide divisions) -/
def nsB (K : PySem.W.Frag) (a : Addr) (none_ : List Str) : Bool := match K.lookup a with
  | some ⟨_, _, .dict es _, _⟩ => es.toList.all (fun e => match e.key with
    | .str _ _ => true
    | _ => false) && none_.all fun x => (nsFind es x).isNone
  | _ => false
theorem nsB_ok {K : PySem.W.Frag} {h : Heap} {a : Addr} {xs : List Str} (X : K.In h) (c : nsB K a xs = true) : ∃ m, h.Ns a m ∧ ∀ x ∈ xs, m x = none := by
  unfold nsB at c
  cases q : K.lookup a with
  | none => rw [q] at c; cases c
  | some o =>
    obtain ⟨oc, od, dt, osl⟩ := o
    rw [q] at c
    cases dt with
    | dict es n =>
      obtain ⟨c1, c2⟩ := Bool.and_eq_true_iff.mp (show (es.toList.all (fun e => match e.key with
        | .str _ _ => true
        | _ => false) && xs.all fun x => (nsFind es x).isNone) = true from c)
      refine ⟨nsFind es, ⟨_, es, n, X _ _ q, rfl, fun e he => ?_, fun _ => rfl⟩, fun x hx => Option.isNone_iff_eq_none.mp (List.all_eq_true.mp c2 x hx)⟩
      have z := List.all_eq_true.mp c1 e (Array.mem_toList_iff.mpr he)
      obtain ⟨eh, ek, ev⟩ := e
      cases ek with
      | str y t => exact ⟨y, t, rfl⟩
      | _ => cases z
    | _ => cases c
def seeB (K : PySem.W.Frag) : Bool := nsB K cStatics ["sys.audit-hooks", "sys.dict"] && nsB K sysModules ["_pylong"] && (match PySem.W.nsIn K mainGlobals "__builtins__" with
  | some (some (.ref bm)) => (match K.lookup bm with
    | some ⟨.type c, some d, _, _⟩ => c == "module" && d == builtinsNs
    | _ => false)
  | _ => false)
theorem seeB_ok {K : PySem.W.Frag} {base : Heap} {mg : Str → Option Value} (c : seeB K = true) (M : Mod K mg base) : base.NoSeer := by
  obtain ⟨c, c3⟩ := Bool.and_eq_true_iff.mp c
  obtain ⟨c1, c2⟩ := Bool.and_eq_true_iff.mp c
  obtain ⟨mc, n1, a1⟩ := nsB_ok M.kin c1
  obtain ⟨mm, n2, a2⟩ := nsB_ok M.kin c2
  refine ⟨⟨mc, n1, a1 _ List.mem_cons_self, a1 _ (List.mem_cons_of_mem _ List.mem_cons_self)⟩, ⟨mm, n2, a2 _ List.mem_cons_self⟩, M.blt, ?_⟩
  cases e : PySem.W.nsIn K mainGlobals "__builtins__" with
  | none => rw [e] at c3; cases c3
  | some o =>
    rw [e] at c3
    cases o with
    | none => cases c3
    | some v =>
      cases v with
      | ref bm =>
        have c3 : (match K.lookup bm with
          | some ⟨.type c, some d, _, _⟩ => c == "module" && d == builtinsNs
          | _ => false) = true := c3
        cases q : K.lookup bm with
        | none => rw [q] at c3; cases c3
        | some ob =>
          obtain ⟨oc, od, dt, osl⟩ := ob
          rw [q] at c3
          cases oc with
          | type c =>
            cases od with
            | none => cases c3
            | some d =>
              obtain ⟨h1, h2⟩ := Bool.and_eq_true_iff.mp (show (c == "module" && d == builtinsNs) = true from c3)
              refine ⟨mg, bm, _, M.glob, PySem.W.mg_of M.kin M.glob e, M.kin _ _ q, congrArg Value.type (eq_of_beq h1), congrArg some (eq_of_beq h2)⟩
          | _ => cases od <;> cases c3
      | _ => cases c3

/-! ### the classes of errors -/
/-- what a class of errors must say, that isinstance asks its instances rightly -/
def ecB (K : PySem.W.Frag) (D : Addr) : Bool :=
  decide (PySem.W.findIn K (.ref D) "__getattribute__" = some (some (.builtin "BaseException.__getattribute__"))) && decide (PySem.W.findIn K (.ref D) "__getattr__" = some none) &&
  decide (PySem.W.subIn K (.ref D) (.type "BaseException") = some true) && PySem.W.hasDictIn K D && decide (PySem.W.findIn K (.ref D) "__class__" = some (some (.builtin "object.__class__"))) &&
  decide (PySem.W.specialIn K (.builtin "object.__class__") "__get__" = some (some (.builtin "getset_descriptor.__get__"))) && decide (PySem.W.takesIn K (.builtin "object.__class__") = some true) && decide (PySem.W.mroIn K D (.type "object") = some true)
theorem ecB_ok {K : PySem.W.Frag} {D : Addr} (h : ecB K D = true) : ExcC K D := by
  unfold ecB at h
  simp only [Bool.and_eq_true, decide_eq_true_eq] at h
  obtain ⟨⟨⟨⟨⟨⟨⟨h1, h2⟩, h3⟩, h4⟩, h5⟩, h6⟩, h7⟩, h8⟩ := h
  exact ⟨h1, h2, h3, h4, h5, h6, h7, h8⟩
def erB1 (K : PySem.W.Frag) (ns : List Str) (n : Str) : Bool := n == "" ||
  (ecB K (He.ga K n) && decide (PySem.W.kitOne K (.ref (He.ga K n)) (.type "ValueError") = some true) && decide (PySem.W.kitOne K (.type "NoneType") (.ref (He.ga K n)) = some false) &&
   decide (PySem.W.exmOne K (.ref (He.ga K n)) (.ref (He.ga K "AreaError")) = some true) &&
   ns.all fun m => m == "" || decide (PySem.W.kitOne K (.ref (He.ga K n)) (.ref (He.ga K m)) = some (n == m || m == "AreaError")))
def erB (K : PySem.W.Frag) (ns : List Str) : Bool := !ns.contains "AreaError" || ns.all (erB1 K ns)
structure LkOk (L : Lk) (P : Program) (w : World) (K : PySem.W.Frag) (mg : Str → Option Value) (base : Heap) : Prop where
  fn : ∀ (j : Nat) (g : Fn), L.T[j]? = some g → ∀ m, m ≤ g.dfl.length → ∃ (fa : Addr) (fd : FuncData) (dvs : List V) (ds : List Value), mg g.name = some (.ref fa) ∧ PySem.W.keepIn K (.ref fa) = true ∧
    FnOk P w K mg base (L2.CX P w) L.lev fa fd g.ps (L.sp K j) ∧ Vals dvs ds ∧ (∀ H, DpAll K H dvs (g.dv m)) ∧ Binds K fd g.ps ds
  con : ∀ (x : Nat) (n : Str) (d : D), L.cons[x]? = some (n, d) → ∃ (v : V) (u : Value), mg n = some u ∧ RelV v u ∧ ∀ H, Dp K H v d
  fga : ∀ (j : Nat) (g : Fn), L.T[j]? = some g → mg g.name = some (.ref (He.ga K g.name))
  blt : ∀ n ∈ blts, mg n = none
  see : seeB K = true ∧ P.given.tree = none
  ga : ∀ (k : Nat) (n : Str), L.clsN[k]? = some n → n ≠ "" → L.cls k = .ref (He.ga K n) ∧ errN[k]? = some n
  er : erB K L.clsN = true
  exc : ∀ (k : Nat) (n : Str), L.clsN[k]? = some n → n ≠ "" → ∃ C : Addr, L.cls k = .ref C ∧ mg n = some (.ref C) ∧ PySem.W.excIn K C [.type "ValueError", .type "Exception", .type "BaseException", .type "object"] "ValueError.__new__" = true ∧
    PySem.W.keepIn K (.ref C) = true ∧ PySem.W.subIn K (.ref C) (.type "BaseException") = some true ∧ PySem.W.typeIn K (.ref C) = some (.type "type")

abbrev Nms := List (Str × NameKind)
def NmOk (X : Cx) (x : Str) : NameKind → Prop
  | .local => X.env.scope.names.lookup x = some .local
  | .cell => X.env.scope.names.lookup x = some .cell ∧ X.fn x = true
  | .free => X.env.scope.names.lookup x = some .cell ∨ X.env.scope.names.lookup x = some .free
  | .globalImplicit => Gl X x
  | _ => True
/-- where a piece of a def stands -/
structure XC (L : Lk) (N : List Str) (sc : Nms) (W : WX) (X : Cx) : Prop where
  lk : LkOk L X.prog X.w X.K X.mg X.base
  N : X.N = N
  nd : X.N.Nodup
  kind : X.env.scope.kind = .function
  nm : ∀ x k, sc.lookup x = some k → NmOk X x k
  calm : X.calm = true
  room : Room L.lev X.A
  tk : Takes X W
  py : PyR X

/-! ### readings -/
def Out (cls : Nat → Value) (W : WX) (σ : L2.St) (f H : Hp) {α : Type} (r : R α) (P : α → Prop) : Prop := match r with
  | .ok a => P a
  | .ex k => ∀ f' H', Po f H f' H' → W (cls k) none σ H'
  | .no => False
section
variable {cls : Nat → Value} {W : WX} {σ : L2.St} {f H f1 H1 : Hp} {α β : Type}
theorem Out.bind {r : R α} {g : α → R β} {P : β → Prop} (h : Out cls W σ f H (r.bind g) P) : Out cls W σ f H r fun a => Out cls W σ f H (g a) P := by
  cases r <;> exact h
theorem Out.imp {r : R α} {P P' : α → Prop} (h : Out cls W σ f H r P) (q : Po f H f1 H1) (hp : ∀ a, r = .ok a → P a → P' a) : Out cls W σ f1 H1 r P' := by
  cases r with
  | ok a => exact hp a rfl h
  | ex k => exact fun f' H' q' => h f' H' (q.trans q')
  | no => exact h
theorem Out.okk {r : R α} {P : α → Prop} (h : Out cls W σ f H r P) (hn : ∀ k, r ≠ .ex k) : ∃ a, r = .ok a ∧ P a := by
  cases r with
  | ok a => exact ⟨a, rfl, h⟩
  | ex k => exact absurd rfl (hn k)
  | no => exact h.elim
end
def W0 : WX := fun _ _ _ _ => False

section
variable (L : Lk) (K : PySem.W.Frag) (W : WX)
/-- as a value; read; as a truth -/
def dV (x : E) : TE := fun σ H Q => ∃ f0 H0 f en, Mt K f0 H0 f H σ en ∧ Out L.cls W σ f H (L.ev x en) (Ac K f H Q)
def dR (x : E) : TE := fun σ H Q => ∃ f0 H0 f en, Mt K f0 H0 f H σ en ∧ Out L.cls W σ f H (rd1 x en (L.ev x en)) fun d => ∀ v f' H', Po f H f' H' → Vr K f' H' v d → Q v H'
def dT (x : E) : TT := fun σ H Q => ∃ f0 H0 f en, Mt K f0 H0 f H σ en ∧ Out L.cls W σ f H (evT L.G L.c (dflT L.T) x en) fun b => ∀ f' H', Po f H f' H' → Q b H'
def dVs (es : Es) : TA := fun σ H Q => ∃ f0 H0 f en, Mt K f0 H0 f H σ en ∧ Out L.cls W σ f H (evs L.G L.c (dflT L.T) es en) fun ds => ∀ vs f' H', Po f H f' H' → DpAll K f' vs ds → Q vs H'
def dAs (es : Es) : TA := fun σ H Q => ∃ f0 H0 f en, Mt K f0 H0 f H σ en ∧ Out L.cls W σ f H (evAs L.G L.c (dflT L.T) es en) fun ss => ∀ vs f' H', Po f H f' H' → ArgsOk K f' H' vs ss → Q vs H'
def dA (x : E) : TE := fun σ H Q => ∃ f0 H0 f en, Mt K f0 H0 f H σ en ∧ Out L.cls W σ f H (arg1 x en (L.ev x en)) fun s => ∀ v f' H', Po f H f' H' → ArgOk K f' H' v s → Q v H'
def dO (x : Eo) : TO := fun σ H Q => ∃ f0 H0 f en, Mt K f0 H0 f H σ en ∧ Out L.cls W σ f H (evO L.G L.c (dflT L.T) x en) fun o => ∀ f' H', Po f H f' H' → Q o H'
end
/-- J walks the values ds, while f stands -/
structure Wk (K : PySem.W.Frag) (f : Hp) (J : L2.It) (ds : List D) : Prop where
  go : ∀ i H, Same f H → i < ds.length → J.go i H
  stop : ∀ H, Same f H → J.stop ds.length H
  yld : ∀ i H x H', i < ds.length → Same f H → J.yld i H x H' → ∃ d, ds[i]? = some d ∧ ∀ fc, Same f fc → Same fc H → ∃ f', Po fc H f' H' ∧ Dp K f' x d
section
variable (L : Lk) (K : PySem.W.Frag) (W : WX)
def dI (x : It) : TI := fun σ H Rr => ∃ f0 H0 f en, Mt K f0 H0 f H σ en ∧ Out L.cls W σ f H (evI L.G L.c (dflT L.T) x en) fun ds => ∀ J f' H', Po f H f' H' → Wk K f' J ds → Rr J H'
end

/-! ### the text's pieces against the small language's -/
def o1Fn : O1 → Option Str
  | .abs => some "abs"
  | .len => some "len"
  | .list => some "list"
  | .tuple => some "tuple"
  | .all => some "all"
  | .strI => some "str"
  | .intB => some "int"
  | .neg => none
def m1Fn : M1 → Str
  | .count => "count"
  | .index => "index"
def o2Fn : O2 → Option Str
  | .max2 => some "max"
  | .min2 => some "min"
  | _ => none
def glOk (sc : Nms) (x : Str) : Bool := sc.lookup x == some .globalImplicit && x != "__debug__" && x != "__name__"
def nmOk (N : List Str) (sc : Nms) (i : Nat) (x : Str) : Bool := N[i]? == some x && (sc.lookup x == some .local || sc.lookup x == some .cell || sc.lookup x == some .free) && x != "__debug__" && x != "__classdict__"
def locOk (N : List Str) (sc : Nms) (i : Nat) (x : Str) : Bool := N[i]? == some x && (sc.lookup x == some .local || sc.lookup x == some .cell)
def plainE : Expr → Bool
  | .Slice .. => false
  | .Starred .. => false
  | _ => true
def conOk : D → Const → Bool
  | .int i, .int j => i == j
  | .bool a, .bool b => a == b
  | .none, .none => true
  | .str x, .str y => x == y
  | _, _ => false
def tyName : Ty → Expr → Bool
  | .bi n, .Name x _ => x == Str.ofString n && (n == "int" || n == "bool" || n == "str" || n == "tuple" || n == "list")
  | _, _ => false
def tyGl (sc : Nms) : Ty → Bool
  | .bi n => glOk sc (Str.ofString n)
  | .ow _ => false
def teOk (cl : List Str) (sc : Nms) : Te → Expr → Bool
  | .ow c, .Name x _ => cl[c]? == some x && x != "" && x != "AreaError" && glOk sc x
  | .top, .Name x _ => x == "AreaError" && cl.contains x && glOk sc x
  | .ve, .Name x _ => x == "ValueError" && glOk sc x
  | _, _ => false
/-- classes that stand -/
def ksOk (cl : List Str) (ks : List Nat) : Bool := ks.all fun k => (cl[k]?).any fun (y : Str) => y != ""
def tesOk (cl : List Str) (sc : Nms) : List Te → List Expr → Bool
  | [], [] => true
  | t :: ts, e :: es => teOk cl sc t e && tesOk cl sc ts es
  | _, _ => false
def tysOk (sc : Nms) : List Ty → List Expr → Bool
  | [], [] => true
  | t :: ts, e :: es => tyName t e && tyGl sc t && tysOk sc ts es
  | _, _ => false
mutual
def tgSlots : Tg → List Nat
  | .nm i => [i]
  | .tp ts => tgsSlots ts
def tgsSlots : Tgs → List Nat
  | .nil => []
  | .cons t r => tgSlots t ++ tgsSlots r
end
mutual
def ckT (N : List Str) (sc : Nms) : Tg → Expr → Bool
  | .nm i, .Name x _ => locOk N sc i x
  | .tp ts, .Tuple es _ _ => ckTs N sc ts es
  | _, _ => false
def ckTs (N : List Str) (sc : Nms) : Tgs → List Expr → Bool
  | .nil, [] => true
  | .cons t r, e :: es => ckT N sc t e && ckTs N sc r es
  | _, _ => false
end
def blkOkB (N : List Str) (sc : Nms) (scope : Scope) (own : List (Str × Nat)) : Bool :=
  scope.kind == .function && scope.names.all (fun y => scope.names.lookup y.1 == some y.2) && own.all (fun p => N[p.2]? == some p.1) &&
  scope.names.all (fun y => y.2 != .free || sc.lookup y.1 == some .cell || sc.lookup y.1 == some .free) &&
  scope.names.all (fun y => !(y.2 == .local || y.2 == .cell) || own.any (fun p => p.1 == y.1) || !N.contains y.1)
def isTup : Expr → Bool
  | .Tuple .. => true
  | _ => false

mutual
def ckE (T : List Fn) (cs : List (Str × D)) (cl : List Str) (N : List Str) (sc : Nms) : E → Expr → Bool
  | .var i, e => (match e with
    | .Name x _ => nmOk N sc i x
    | _ => false)
  | .peek i, e => (match e with
    | .Name x _ => nmOk N sc i x
    | _ => false)
  | .con d, e => (match e with
    | .Constant c _ _ => conOk d c
    | _ => false)
  | .emp, e => (match e with
    | .Dict [] [] _ => true
    | _ => false)
  | .glb j, e => (match e with
    | .Name x _ => (cs[j]?).map (·.1) == some x && glOk sc x
    | _ => false)
  | .tup es, e => (match e with
    | .Tuple xs _ _ => ckEs T cs cl N sc es xs
    | _ => false)
  | .lst es, e => (match e with
    | .List xs _ => ckEs T cs cl N sc es xs
    | _ => false)
  | .rep es n, e => (match e with
    | .BinOp (.List xs _) .Mult b _ => ckEs T cs cl N sc es xs && ckE T cs cl N sc n b
    | _ => false)
  | .op1 o a, e => (match e with
    | .UnaryOp .USub b _ => (match o with | .neg => true | _ => false) && ckE T cs cl N sc a b
    | .Call (.Name f _) [b] [] _ => o1Fn o == some f && glOk sc f && ckE T cs cl N sc a b
    | _ => false)
  | .op2 o a b, e => (match e with
    | .BinOp l op r _ => binOf o op && ckE T cs cl N sc a l && ckE T cs cl N sc b r
    | .Compare l [op] [r] _ => cmpOf o op && !behindInMarks op r && ckE T cs cl N sc a l && ckE T cs cl N sc b r
    | .Subscript l r _ => (match o with | .idx => true | _ => false) && ckE T cs cl N sc a l && ckE T cs cl N sc b r && plainE r
    | .Call (.Name f _) [l, r] [] _ => o2Fn o == some f && glOk sc f && ckE T cs cl N sc a l && ckE T cs cl N sc b r
    | _ => false)
  | .chn o p a b c, e => (match e with
    | .Compare l [op, op'] [m, r] _ => cmpOf o op && cmpOf p op' && !lastMarks [op, op'] [m, r] && ckE T cs cl N sc a l && ckE T cs cl N sc b m && ckE T cs cl N sc c r
    | _ => false)
  | .and a b, e => (match e with
    | .BoolOp .And (l :: r :: []) _ => ckE T cs cl N sc a l && ckE T cs cl N sc b r
    | .BoolOp .And (l :: r :: q :: rest) p => ckE T cs cl N sc a l && ckE T cs cl N sc b (.BoolOp .And (r :: q :: rest) p)
    | _ => false)
  | .or a b, e => (match e with
    | .BoolOp .Or (l :: r :: []) _ => ckE T cs cl N sc a l && ckE T cs cl N sc b r
    | .BoolOp .Or (l :: r :: q :: rest) p => ckE T cs cl N sc a l && ckE T cs cl N sc b (.BoolOp .Or (r :: q :: rest) p)
    | _ => false)
  | .not a, e => (match e with
    | .UnaryOp .Not b _ => ckE T cs cl N sc a b
    | _ => false)
  | .ife t a b, e => (match e with
    | .IfExp t' a' b' _ => ckE T cs cl N sc t t' && ckE T cs cl N sc a a' && ckE T cs cl N sc b b'
    | _ => false)
  | .slc a lo hi, e => (match e with
    | .Subscript l (.Slice lo' hi' none _) _ => ckE T cs cl N sc a l && ckO T cs cl N sc lo lo' && ckO T cs cl N sc hi hi'
    | _ => false)
  | .revs a, e => (match e with
    | .Subscript l (.Slice none none (some (.UnaryOp .USub (.Constant (.int 1) _ _) _)) _) _ => ckE T cs cl N sc a l
    | _ => false)
  | .repE a n, e => (match e with
    | .BinOp l .Mult r _ => ckE T cs cl N sc a l && ckE T cs cl N sc n r
    | _ => false)
  | .call j es m, e => (match e with
    | .Call (.Name f _) (x :: xs) [] _ => (match T[j]? with
      | some g => g.name == f && decide (m ≤ g.dfl.length)
      | none => false) && glOk sc f && ckEs T cs cl N sc es (x :: xs)
    | _ => false)
  | .callv j es m, e => (match e with
    | .Call (.Name f _) (x :: xs) [] _ => (match T[j]? with
      | some g => g.name == f && decide (m ≤ g.dfl.length)
      | none => false) && glOk sc f && ckEs T cs cl N sc es (x :: xs)
    | _ => false)
  | .dget i k x, e => (match e with
    | .Call (.Attribute (.Name y _) m ap) [a, b] [] cp => nmOk N sc i y && m == "get" && ckE T cs cl N sc k a && ckE T cs cl N sc x b && ap.endLine == cp.line
    | _ => false)
  | .dvals i, e => (match e with
    | .Call (.Name f _) [.Call (.Attribute (.Name y _) m ap) [] [] cp] [] _ => f == "list" && glOk sc f && nmOk N sc i y && m == "values" && ap.endLine == cp.line
    | _ => false)
  | .fnv n, e => (match e with
    | .Name x _ => x == n && glOk sc x && T.any (fun g => g.name == n)
    | _ => false)
  | .callL i ds es, e => (match e with
    | .Call (.Name f _) (x :: xs) [] _ => nmOk N sc i f && ds.all (fun q => (match T[q.2]? with | some g => g.name == q.1 | none => false)) && ckEs T cs cl N sc es (x :: xs)
    | _ => false)
  | .mth o a b, e => (match e with
    | .Call (.Attribute (.Name x px) m ap) [y] [] cp => m1Fn o == m && ckE T cs cl N sc a (.Name x px) && ckE T cs cl N sc b y && ap.endLine == cp.line
    | _ => false)
  | .erv i, e => (match e with
    | .Name x _ => nmOk N sc i x
    | _ => false)
  | .isE i ks ts, e => (match e with
    | .Call (.Name f _) [.Name y _, .Tuple xs _ _] [] _ => f == "isinstance" && decide (ts.length ≤ 100) && glOk sc f && nmOk N sc i y && cl.contains "AreaError" && ksOk cl ks && tesOk cl sc ts xs
    | .Call (.Name f _) [.Name y _, .Name x p] [] _ => f == "isinstance" && glOk sc f && nmOk N sc i y && cl.contains "AreaError" && ksOk cl ks && tesOk cl sc ts [.Name x p]
    | _ => false)
  | .isN i g, e => (match e with
    | .Compare (.Name y _) [op] [.Constant .none _ _] _ => (match op with | .Is => !g | .IsNot => g | _ => false) && nmOk N sc i y
    | _ => false)
  | .isi a ts, e => (match e with
    | .Call (.Name f _) [b, .Tuple xs _ _] [] _ => f == "isinstance" && decide (ts.length ≤ 100) && glOk sc f && ckE T cs cl N sc a b && tysOk sc ts xs
    | .Call (.Name f _) [b, .Name x p] [] _ => f == "isinstance" && glOk sc f && ckE T cs cl N sc a b && tysOk sc ts [.Name x p]
    | _ => false)
  | .cmp elt tg it ifs own, e => (match e with
    | .ListComp elt' [⟨tg', it', ifs', 0⟩] scope _ => ckI T cs cl N sc it it' (isTup tg') && blkOkB N sc scope own && ckT N scope.names tg tg' && (tgSlots tg).all (fun i => (own.map (·.2)).contains i) &&
        ckIf T cs cl N scope.names ifs ifs' && ckE T cs cl N scope.names elt elt'
    | _ => false)
def ckEs (T : List Fn) (cs : List (Str × D)) (cl : List Str) (N : List Str) (sc : Nms) : Es → List Expr → Bool
  | .nil, xs => xs.isEmpty
  | .cons e r, xs => (match xs with
    | x :: xs => ckE T cs cl N sc e x && ckEs T cs cl N sc r xs
    | [] => false)
def ckO (T : List Fn) (cs : List (Str × D)) (cl : List Str) (N : List Str) (sc : Nms) : Eo → Option Expr → Bool
  | .none, x => x.isNone
  | .some e, x => (match x with
    | some x => ckE T cs cl N sc e x
    | none => false)
def ckIf (T : List Fn) (cs : List (Str × D)) (cl : List Str) (N : List Str) (sc : Nms) : Eo → List Expr → Bool
  | .none, x => x.isEmpty
  | .some e, x => (match x with
    | [x] => ckE T cs cl N sc e x
    | _ => false)
def ckI (T : List Fn) (cs : List (Str × D)) (cl : List Str) (N : List Str) (sc : Nms) : It → Expr → Bool → Bool
  | .seq a, e, _ => ckE T cs cl N sc a e
  | .rng1 a, e, _ => (match e with
    | .Call (.Name f _) [b] [] _ => f == "range" && glOk sc f && ckE T cs cl N sc a b
    | _ => false)
  | .rng2 a b, e, _ => (match e with
    | .Call (.Name f _) [x, y] [] _ => f == "range" && glOk sc f && ckE T cs cl N sc a x && ckE T cs cl N sc b y
    | _ => false)
  | .rng3 a b c, e, _ => (match e with
    | .Call (.Name f _) [x, y, z] [] _ => f == "range" && glOk sc f && ckE T cs cl N sc a x && ckE T cs cl N sc b y && ckE T cs cl N sc c z
    | _ => false)
  | .rev a, e, _ => (match e with
    | .Call (.Name f _) [b] [] _ => f == "reversed" && glOk sc f && ckE T cs cl N sc a b
    | _ => false)
  | .revr a, e, _ => (match e with
    | .Call (.Name f _) [.Call (.Name g _) [b] [] _] [] _ => f == "reversed" && g == "range" && glOk sc f && glOk sc g && ckE T cs cl N sc a b
    | _ => false)
  | .enum a, e, tt => (match e with
    | .Call (.Name f _) [b] [] _ => tt && f == "enumerate" && glOk sc f && ckE T cs cl N sc a b
    | _ => false)
  | .zip a b, e, tt => (match e with
    | .Call (.Name f _) [x, y] [] _ => tt && f == "zip" && glOk sc f && ckE T cs cl N sc a x && ckE T cs cl N sc b y
    | _ => false)
end
end AW

/-! AwSound: the soundness of the expressions' checks. -/
namespace AW
open PySem PySem.Spec PyProof.Rows L2

theorem PE.imp {X : Cx} {e : Expr} {t t' : TE} (h : PE X e t) (q : ∀ σ H Q, t' σ H Q → t σ H Q) : PE X e t' := ⟨fun pins s σ H Q I z => h.run pins s σ H Q I (q _ _ _ z)⟩
theorem PT.imp {X : Cx} {e : Expr} {t t' : TT} (h : PT X e t) (q : ∀ σ H Q, t' σ H Q → t σ H Q) : PT X e t' := ⟨fun pins s σ H Q I z => h.run pins s σ H Q I (q _ _ _ z)⟩
theorem PA.imp {X : Cx} {e : List Expr} {t t' : TA} (h : PA X e t) (q : ∀ σ H Q, t' σ H Q → t σ H Q) : PA X e t' := ⟨fun pos pins s σ H Q I z => h.run pos pins s σ H Q I (q _ _ _ z)⟩
theorem PO.imp {X : Cx} {e : Option Expr} {t t' : TO} (h : PO X e t) (q : ∀ σ H Q, t' σ H Q → t σ H Q) : PO X e t' := ⟨fun pins s σ H Q I z => h.run pins s σ H Q I (q _ _ _ z)⟩
theorem PI.imp {X : Cx} {tg e : Expr} {t t' : TI} (h : PI X tg e t) (q : ∀ σ H Q, t' σ H Q → t σ H Q) : PI X tg e t' := ⟨fun pins s σ H Q I z => h.run pins s σ H Q I (q _ _ _ z)⟩
theorem PI.or {X : Cx} {tg e : Expr} {t t' : TI} (h : PI X tg e t) (h' : PI X tg e t') : PI X tg e (fun σ H R => t σ H R ∨ t' σ H R) := ⟨fun pins s σ H Q I z => z.elim (fun z => h.run pins s σ H Q I z) fun z => h'.run pins s σ H Q I z⟩
theorem PG.imp {X : Cx} {e : Expr} {t t' : TG} (h : PG X e t) (q : ∀ v σ H Q, t' v σ H Q → t v σ H Q) : PG X e t' := ⟨fun pins s σ H v u Q I r z => h.run pins s σ H v u Q I r (q _ _ _ _ z)⟩
theorem PG.or {X : Cx} {e : Expr} {t t' : TG} (h : PG X e t) (h' : PG X e t') : PG X e (fun v σ H Q => t v σ H Q ∨ t' v σ H Q) := ⟨fun pins s σ H v u Q I r z => z.elim (fun z => h.run pins s σ H v u Q I r z) fun z => h'.run pins s σ H v u Q I r z⟩
theorem PGs.imp {X : Cx} {e : List Expr} {t t' : TGs} (h : PGs X e t) (q : ∀ v σ H Q, t' v σ H Q → t v σ H Q) : PGs X e t' := ⟨fun pins s σ H v u Q I r z => h.run pins s σ H v u Q I r (q _ _ _ _ z)⟩
theorem PS.imp {X : Cx} {e : Stmt} {t t' : TS} (h : PS X e t) (q : ∀ D σ H, t' D σ H → t D σ H) : PS X e t' := ⟨fun pins s σ H D I z => h.run pins s σ H D I (q _ _ _ z)⟩
theorem PSs.imp {X : Cx} {e : List Stmt} {t t' : TS} (h : PSs X e t) (q : ∀ D σ H, t' D σ H → t D σ H) : PSs X e t' := ⟨fun pins s σ H D I z => h.run pins s σ H D I (q _ _ _ z)⟩

/-! ### no errors out of operators -/
theorem v1_noex {d : D} {k : Nat} : v1 d ≠ .ex k := fun h => by cases h
theorem ite_noex {α : Type} {c : Prop} [Decidable c] {a b : R α} (ha : ∀ k, a ≠ .ex k) (hb : ∀ k, b ≠ .ex k) (k : Nat) : (if c then a else b) ≠ .ex k := by
  by_cases h : c
  · rw [if_pos h]; exact ha k
  · rw [if_neg h]; exact hb k
theorem ok_noex {α : Type} {a : α} (k : Nat) : (R.ok a) ≠ .ex k := fun h => by cases h
theorem no_noex {α : Type} (k : Nat) : (R.no : R α) ≠ .ex k := fun h => by cases h
theorem bind_noex {α β : Type} {r : R α} {g : α → R β} (h1 : ∀ k, r ≠ .ex k) (h2 : ∀ a k, g a ≠ .ex k) (k : Nat) : r.bind g ≠ .ex k := by
  cases r with
  | ok a => exact h2 a k
  | ex c => exact absurd rfl (h1 c)
  | no => exact no_noex k
theorem isD_noex : ∀ (a b : D) (k : Nat), isD a b ≠ .ex k := fun a b k h => by cases a <;> cases b <;> cases h
theorem atD_noex (xs : List D) (i : Int) (k : Nat) : atD xs i ≠ .ex k := by
  unfold atD
  cases atI xs i with
  | none => exact no_noex k
  | some d => exact v1_noex
theorem sem2_noex (o : O2) (a b : D) (k : Nat) : sem2 o a b ≠ .ex k := by
  cases o <;> cases a <;> cases b <;> first
    | exact no_noex k
    | exact v1_noex
    | exact atD_noex _ _ k
    | exact ite_noex (fun _ => v1_noex) no_noex k
    | exact ite_noex ok_noex no_noex k
    | exact ite_noex no_noex (ite_noex (fun _ => v1_noex) no_noex) k
    | exact ite_noex no_noex (fun _ => v1_noex) k
    | exact bind_noex (isD_noex _ _) (fun _ _ => v1_noex) k
theorem allB_noex : ∀ (ds : List D) (k : Nat), allB ds ≠ .ex k
  | [], k => ok_noex k
  | .bool b :: r, k => bind_noex (allB_noex r) (fun _ => ok_noex) k
  | .none :: _, k => no_noex k
  | .int _ :: _, k => no_noex k
  | .str _ :: _, k => no_noex k
  | .list _ :: _, k => no_noex k
  | .tuple _ :: _, k => no_noex k
  | .dict _ :: _, k => no_noex k
theorem sem1_noex (o : O1) (a : D) (k : Nat) : sem1 o a ≠ .ex k := by
  cases o <;> cases a <;> first
    | exact no_noex k
    | exact v1_noex
    | exact ok_noex k
    | exact ite_noex (fun _ => v1_noex) no_noex k
    | exact bind_noex (allB_noex _) (fun _ _ => v1_noex) k
theorem semSl_noex (a : D) (l h : Option Int) (k : Nat) : semSl a l h ≠ .ex k := by
  cases a <;> first
    | exact no_noex k
    | exact v1_noex
    | exact ok_noex k
theorem truR_noex (a : D) (k : Nat) : truR a ≠ .ex k := by
  cases a <;> first
    | exact no_noex k
    | exact ok_noex k
    | exact ite_noex ok_noex no_noex k
theorem intR_noex (a : D) (k : Nat) : intR a ≠ .ex k := by cases a <;> first | exact no_noex k | exact ok_noex k
theorem seqR_noex (a : D) (k : Nat) : seqR a ≠ .ex k := by cases a <;> first | exact no_noex k | exact ok_noex k
theorem rngR_noex (i j : Int) (k : Nat) : rngR i j ≠ .ex k := ite_noex ok_noex no_noex k
theorem zipR_noex (a b : D) (k : Nat) : zipR a b ≠ .ex k := by cases a <;> cases b <;> first | exact no_noex k | exact ok_noex k

/-! ### names -/
theorem str_beq {a b : Str} (h : (a == b) = true) : a = b := eq_of_beq h
theorem bne_false {a b : Str} (h : (a != b) = true) : (a == b) = false := by
  cases e : (a == b) with
  | false => rfl
  | true => rw [bne, e] at h; cases h
theorem bne_ne {a b : Str} (h : (a != b) = true) : a ≠ b := fun e => by
  subst e
  rw [bne, beq_self_eq_true] at h
  cases h
section
variable {L : Lk} {N : List Str} {sc : Nms} {W : WX} {X : Cx}
theorem gl_of (xc : XC L N sc W X) {x : Str} (h : glOk sc x = true) : Gl X x ∧ (x == ("__debug__" : Str)) = false ∧ x ≠ "__name__" := by
  unfold glOk at h
  simp only [Bool.and_eq_true] at h
  exact ⟨xc.nm x _ (eq_of_beq h.1.1), bne_false h.1.2, bne_ne h.2⟩
theorem blt_of (xc : XC L N sc W X) {x : Str} (h : x ∈ blts) : X.mg x = none := xc.lk.blt x h
theorem vis_of (xc : XC L N sc W X) {i : Nat} {x : Str} (h : nmOk N sc i x = true) : X.N[i]? = some x ∧ Vis X.env.scope x ∧ (x == ("__debug__" : Str)) = false ∧ (x == ("__classdict__" : Str)) = false := by
  unfold nmOk at h
  simp only [Bool.and_eq_true, Bool.or_eq_true] at h
  obtain ⟨⟨⟨h1, h2⟩, h3⟩, h4⟩ := h
  refine ⟨by rw [xc.N]; exact eq_of_beq h1, ?_, bne_false h3, bne_false h4⟩
  rcases h2 with (h2 | h2) | h2
  · exact .inl (xc.nm x _ (eq_of_beq h2))
  · exact .inr (.inl (xc.nm x _ (eq_of_beq h2)).1)
  · rcases xc.nm x _ (eq_of_beq h2) with k | k
    · exact .inr (.inl k)
    · exact .inr (.inr k)
theorem loc_of (xc : XC L N sc W X) {i : Nat} {x : Str} (h : locOk N sc i x = true) : X.N[i]? = some x ∧ Loc X.env.scope x ∧ (X.fn x = true ∨ X.env.scope.names.lookup x = some .local) := by
  unfold locOk at h
  simp only [Bool.and_eq_true, Bool.or_eq_true] at h
  obtain ⟨h1, h2⟩ := h
  refine ⟨by rw [xc.N]; exact eq_of_beq h1, ?_⟩
  rcases h2 with h2 | h2
  · exact ⟨.inl (xc.nm x _ (eq_of_beq h2)), .inr (xc.nm x _ (eq_of_beq h2))⟩
  · exact ⟨.inr (xc.nm x _ (eq_of_beq h2)).1, .inl (xc.nm x _ (eq_of_beq h2)).2⟩
theorem XC.units (xc : XC L N sc W X) : X.A.units + 65 < cLine := by
  have := xc.room.un
  omega

/-! ### targets -/
/-- a value is bound to a target -/
def gD (K : PySem.W.Frag) (tg : Tg) : TG := fun v σ H Q => ∃ f0 H0 f en d en', Mt K f0 H0 f H σ en ∧ Dp K f v d ∧ bindT tg d en = .ok en' ∧
  ∀ σ', Mt K f0 H0 f H σ' en' → (∀ vs, (∀ i ∈ tgSlots tg, i ∈ vs) → L2.wipe σ' vs = L2.wipe σ vs) → Q σ' H
def gDs (K : PySem.W.Frag) (ts : Tgs) : TGs := fun vs σ H Q => ∃ f0 H0 f en ds en', Mt K f0 H0 f H σ en ∧ DpAll K f vs ds ∧ bindTs ts ds en = .ok en' ∧
  ∀ σ', Mt K f0 H0 f H σ' en' → (∀ vs, (∀ i ∈ tgsSlots ts, i ∈ vs) → L2.wipe σ' vs = L2.wipe σ vs) → Q σ' H
theorem wipe_set {σ : L2.St} {i : Nat} {o : Option V} : ∀ {vs : List Nat}, i ∈ vs → L2.wipe (σ.set i o) vs = L2.wipe σ vs
  | v :: vs, h => by
    unfold L2.wipe
    by_cases hv : i ∈ vs
    · rw [wipe_set hv]
    · have e : i = v := by
        rcases List.mem_cons.mp h with h | h
        · exact h
        · exact absurd h hv
      subst e
      clear h hv
      have go : ∀ (ws : List Nat), (L2.wipe (σ.set i o) ws).set i none = (L2.wipe σ ws).set i none := by
        intro ws
        induction ws with
        | nil => show (σ.set i o).set i none = σ.set i none; exact List.set_set ..
        | cons w ws ih =>
          show ((L2.wipe (σ.set i o) ws).set w none).set i none = ((L2.wipe σ ws).set w none).set i none
          by_cases hw : w = i
          · subst hw; rw [List.set_set, List.set_set]; exact ih
          · rw [List.set_comm _ _ hw, ih, List.set_comm _ _ (Ne.symm hw)]
      exact go vs
theorem ck_assign {N : List Str} {sc : Nms} : ∀ {ts : Tgs} {es : List Expr}, ckTs N sc ts es = true → (assignEach es X.env).findIdx? (·.1) = none ∧ (assignEach es X.env).length = es.length
  | .nil, [], _ => ⟨rfl, rfl⟩
  | .nil, _ :: _, h => by cases h
  | .cons t r, [], h => by cases h
  | .cons t r, e :: es, h => by
    have h' : (ckT N sc t e && ckTs N sc r es) = true := h
    rw [Bool.and_eq_true] at h'
    obtain ⟨i1, i2⟩ := ck_assign h'.2
    have z : ∃ a, assignEach (e :: es) X.env = (false, a) :: assignEach es X.env := by
      cases e <;> first
        | exact ⟨_, rfl⟩
        | (have z := h'.1; cases t <;> cases z)
    obtain ⟨a, z⟩ := z
    rw [z]
    refine ⟨?_, by rw [List.length_cons, List.length_cons, i2]⟩
    rw [List.findIdx?_cons, i1]
    rfl
theorem ck_assign1 {N : List Str} {sc : Nms} {t : Tg} {e : Expr} (h : ckT N sc t e = true) (es : List Expr) : (assignEach (e :: es) X.env).map (·.2) = assign e X.env :: (assignEach es X.env).map (·.2) := by
  cases e <;> first
    | rfl
    | (cases t <;> cases h)
theorem ckTs_len {N : List Str} {sc : Nms} : ∀ {ts : Tgs} {es : List Expr}, ckTs N sc ts es = true → ∀ {ds : List D} {en en' : En}, bindTs ts ds en = .ok en' → ds.length = es.length
  | .nil, [], _, [], _, _, _ => rfl
  | .nil, [], _, _ :: _, _, _, e => by cases e
  | .nil, _ :: _, h, _, _, _, _ => by cases h
  | .cons t r, [], h, _, _, _, _ => by cases h
  | .cons t r, e :: es, h, [], _, _, z => by cases z
  | .cons t r, e :: es, h, d :: ds, en, en', z => by
    have h' : (ckT N sc t e && ckTs N sc r es) = true := h
    rw [Bool.and_eq_true] at h'
    have z' : (bindT t d en).bind (fun e1 => bindTs r ds e1) = .ok en' := z
    obtain ⟨e1, _, z2⟩ := R.of_bind z'
    rw [List.length_cons, List.length_cons, ckTs_len h'.2 z2]
mutual
theorem sTg (xc : XC L N sc W X) : ∀ (tg : Tg) (e : Expr), ckT N sc tg e = true → PG X e (gD X.K tg)
  | .nm i, e, h => by
    cases e with
    | Name x p =>
      obtain ⟨h1, h2, h3⟩ := loc_of xc h
      refine PG.imp (pg_name xc.nd h1 h2 h3) fun v σ H Q q => ?_
      obtain ⟨f0, H0, f, en, d, en', m, hd, hb, k⟩ := q
      have hb' : R.ok (en.set i (.va d)) = R.ok en' := hb
      cases hb'
      exact k _ (m.setV hd) fun vs hv => wipe_set (hv i (List.mem_singleton.mpr rfl))
    | _ => cases h
  | .tp ts, e, h => by
    cases e with
    | Tuple es k p =>
      have h' : ckTs N sc ts es = true := h
      obtain ⟨a1, a2⟩ := ck_assign (X := X) h'
      have ih := sTgs xc ts es h'
      refine PG.imp (PG.or (pg_tup (n := es.length) xc.calm ih a2 a1) (pg_unl (n := es.length) xc.calm ih a2 a1)) fun v σ H Q q => ?_
      obtain ⟨f0, H0, f, en, d, en', m, hd, hb, kq⟩ := q
      cases d with
      | tuple ds =>
        have hb' : bindTs ts ds en = .ok en' := hb
        cases hd with
        | tup hs ha => exact .inl ⟨_, _, rfl, sqt_same m.po.sub hs, by rw [ha.length]; exact ckTs_len h' hb', f0, H0, f, en, ds, en', m, ha, hb', kq⟩
      | list ds =>
        have hb' : bindTs ts ds en = .ok en' := hb
        cases hd with
        | lst hs ha => exact .inr ⟨_, _, rfl, sql_same m.po.sub hs, by rw [ha.length]; exact ckTs_len h' hb', f0, H0, f, en, ds, en', m, ha, hb', kq⟩
      | _ => cases hb
    | _ => cases h
theorem sTgs (xc : XC L N sc W X) : ∀ (ts : Tgs) (es : List Expr), ckTs N sc ts es = true → PGs X es (gDs X.K ts)
  | .nil, es, h => by
    cases es with
    | nil =>
      refine PGs.imp pgs_nil fun vs σ H Q q => ?_
      obtain ⟨f0, H0, f, en, ds, en', m, hd, hb, k⟩ := q
      cases ds with
      | nil =>
        have hb' : R.ok en = R.ok en' := hb
        cases hb'
        cases hd
        exact ⟨rfl, k _ m fun _ _ => rfl⟩
      | cons d ds => cases hb
    | cons e es => cases h
  | .cons t r, es, h => by
    cases es with
    | nil => cases h
    | cons e es =>
      have h' : (ckT N sc t e && ckTs N sc r es) = true := h
      rw [Bool.and_eq_true] at h'
      refine PGs.imp (pgs_cons (sTg xc t e h'.1) (sTgs xc r es h'.2) (ck_assign1 h'.1 es)) fun vs σ H Q q => ?_
      obtain ⟨f0, H0, f, en, ds, en', m, hd, hb, k⟩ := q
      cases hd with
      | nil => cases hb
      | cons a b =>
        have hb' : (bindT t _ en).bind (fun e1 => bindTs r _ e1) = .ok en' := hb
        obtain ⟨e1, z1, z2⟩ := R.of_bind hb'
        refine ⟨_, _, rfl, f0, H0, f, en, _, e1, m, a, z1, fun σ1 m1 w1 => ⟨f0, H0, f, e1, _, en', m1, b, z2, fun σ2 m2 w2 => k σ2 m2 fun vs hv => ?_⟩⟩
        rw [w2 vs fun i hi => hv i (List.mem_append_right _ hi), w1 vs fun i hi => hv i (List.mem_append_left _ hi)]
end
end
end AW

/-! AwSnd2: readings of the expressions. -/
namespace AW
open PySem PySem.Spec PyProof.Rows L2

section
variable {L : Lk} {N : List Str} {sc : Nms} {W : WX} {X : Cx} {K : PySem.W.Frag}

/-! ### a value, read -/
theorem rd1_ok {x : E} {en : En} {G c d} {p : D × Bool} (h : evF G c d x en = .ok p) : rd1 x en (evF G c d x en) = .ok p.1 := by
  cases x <;> first
    | (rw [h]; rfl)
    | cases h
theorem rd1_bind {x : E} {en : En} {r : R (D × Bool)} (h : ∀ i, x ≠ .peek i) : rd1 x en r = r.bind fun p => .ok p.1 := by
  cases x <;> first
    | rfl
    | exact absurd rfl (h _)
theorem arg1_bind {x : E} {en : En} {r : R (D × Bool)} (h : ∀ i, x ≠ .peek i) (h' : ∀ i, x ≠ .erv i) (h'' : ∀ n, x ≠ .fnv n) : arg1 x en r = r.bind fun p => .ok (.va p.1) := by
  cases x <;> first
    | rfl
    | exact absurd rfl (h _)
    | exact absurd rfl (h' _)
    | exact absurd rfl (h'' _)
theorem dR_dV {x : E} (hx : ∀ i, x ≠ .peek i) {σ H Q} (h : dR L K W x σ H Q) : dV L K W x σ H Q := by
  obtain ⟨f0, H0, f, en, m, o⟩ := h
  rw [rd1_bind hx] at o
  exact ⟨f0, H0, f, en, m, o.bind.imp (Po.refl m.po.sub) fun p _ k v f' H' q hv => k v f' H' q hv.read⟩
theorem dA_dV {x : E} (hx : ∀ i, x ≠ .peek i) (hy : ∀ i, x ≠ .erv i) (hz : ∀ n, x ≠ .fnv n) {σ H Q} (h : dA L K W x σ H Q) : dV L K W x σ H Q := by
  obtain ⟨f0, H0, f, en, m, o⟩ := h
  rw [arg1_bind hx hy hz] at o
  refine ⟨f0, H0, f, en, m, o.bind.imp (Po.refl m.po.sub) fun p _ k v f' H' q hv => ?_⟩
  obtain ⟨f'', q', hv'⟩ := hv.settle q
  exact k v f'' H' q' (.va hv')
theorem peekR {i : Nat} {σ H Q} (h : dR L K W (.peek i) σ H Q) : tVar i σ H Q := by
  obtain ⟨f0, H0, f, en, m, o⟩ := h
  have o' : Out L.cls W σ f H (match en[i]? with | some (.ow ds) => R.ok (PyData.list ds) | some (.rd ds) => R.ok (PyData.list ds) | _ => R.no) fun d => ∀ v f' H', Po f H f' H' → Vr K f' H' v d → Q v H' := o
  cases e : en[i]? with
  | none => rw [e] at o'; exact o'.elim
  | some s =>
    rw [e] at o'
    cases s with
    | ow ds =>
      obtain ⟨p, vs, e1, _, _, hH, ha⟩ := m.ow e
      exact ⟨_, e1, o' _ f H (Po.refl m.po.sub) (.inr ⟨ds, p, vs, rfl, rfl, .inl (.inl hH), ha⟩)⟩
    | rd ds =>
      obtain ⟨p, vs, e1, hH, ha⟩ := m.rd e
      exact ⟨_, e1, o' _ f H (Po.refl m.po.sub) (.inr ⟨ds, p, vs, rfl, rfl, sql_same m.po.sH hH, ha⟩)⟩
    | un => exact o'.elim
    | va d => exact o'.elim
    | er d => exact o'.elim
    | fn d => exact o'.elim
    | dk d => exact o'.elim
theorem peekA {i : Nat} {σ H Q} (h : dA L K W (.peek i) σ H Q) : tVar i σ H Q := by
  obtain ⟨f0, H0, f, en, m, o⟩ := h
  have o' : Out L.cls W σ f H (match en[i]? with | some (.ow ds) => R.ok (Sl.rd ds) | some (.rd ds) => R.ok (Sl.rd ds) | _ => R.no) fun s => ∀ v f' H', Po f H f' H' → ArgOk K f' H' v s → Q v H' := o
  cases e : en[i]? with
  | none => rw [e] at o'; exact o'.elim
  | some s =>
    rw [e] at o'
    cases s with
    | ow ds =>
      obtain ⟨p, vs, e1, _, _, hH, ha⟩ := m.ow e
      exact ⟨_, e1, o' _ f H (Po.refl m.po.sub) (.rd (.inl (.inl hH)) ha)⟩
    | rd ds =>
      obtain ⟨p, vs, e1, hH, ha⟩ := m.rd e
      exact ⟨_, e1, o' _ f H (Po.refl m.po.sub) (.rd (sql_same m.po.sH hH) ha)⟩
    | un => exact o'.elim
    | va d => exact o'.elim
    | er d => exact o'.elim
    | fn d => exact o'.elim
    | dk d => exact o'.elim
theorem ervA {i : Nat} {σ H Q} (h : dA L K W (.erv i) σ H Q) : tVar i σ H Q := by
  obtain ⟨f0, H0, f, en, m, o⟩ := h
  have o' : Out L.cls W σ f H (match en[i]? with | some (.er c) => R.ok (Sl.er c) | some (.va .none) => R.ok (Sl.va .none) | _ => R.no) fun s => ∀ v f' H', Po f H f' H' → ArgOk K f' H' v s → Q v H' := o
  cases e : en[i]? with
  | none => rw [e] at o'; exact o'.elim
  | some s =>
    rw [e] at o'
    cases s with
    | er c =>
      obtain ⟨p, e1, hH⟩ := m.er e
      exact ⟨_, e1, o' _ f H (Po.refl m.po.sub) (.er hH)⟩
    | va d =>
      cases d with
      | none =>
        obtain ⟨v, e1, hd⟩ := m.va e
        exact ⟨_, e1, o' _ f H (Po.refl m.po.sub) (.va hd)⟩
      | _ => exact o'.elim
    | un => exact o'.elim
    | ow d => exact o'.elim
    | rd d => exact o'.elim
    | fn d => exact o'.elim
    | dk d => exact o'.elim
theorem nofnv_of {T : List Fn} {cs : List (Str × D)} {cl : List Str} {x : E} {e : Expr} (h : ckE T cs cl N sc x e = true) : (∃ n a p, x = .fnv n ∧ e = .Name a p ∧ (a == n && glOk sc a && T.any (fun g => g.name == n)) = true) ∨ ∀ n, x ≠ .fnv n := by
  cases x with
  | fnv i =>
    cases e <;> first
      | exact .inl ⟨_, _, _, rfl, rfl, h⟩
      | cases h
  | _ => exact .inr fun _ z => by cases z
theorem fnvA {n : Str} {σ H Q} (h : dA L K W (.fnv n) σ H Q) : tC (.ref (He.ga K n)) σ H Q := by
  obtain ⟨f0, H0, f, en, m, o⟩ := h
  exact (show ∀ v f' H', Po f H f' H' → ArgOk K f' H' v (.fn n) → Q v H' from o) _ f H (Po.refl m.po.sub) .fn
theorem fga_of (lk : LkOk L P w K mg base) {n : Str} (h : L.T.any (fun g => g.name == n) = true) : mg n = some (.ref (He.ga K n)) := by
  obtain ⟨g, hg, e⟩ := List.any_eq_true.mp h
  obtain ⟨j, hj⟩ := List.mem_iff_getElem?.mp hg
  have := lk.fga j g hj
  rw [str_beq e] at this
  exact this
theorem noerv_of {T : List Fn} {cs : List (Str × D)} {cl : List Str} {x : E} {e : Expr} (h : ckE T cs cl N sc x e = true) : (∃ i a p, x = .erv i ∧ e = .Name a p ∧ nmOk N sc i a = true) ∨ ∀ i, x ≠ .erv i := by
  cases x with
  | erv i =>
    cases e <;> first
      | exact .inl ⟨_, _, _, rfl, rfl, h⟩
      | cases h
  | _ => exact .inr fun _ z => by cases z
theorem nopeek_of {T : List Fn} {cs : List (Str × D)} {cl : List Str} {x : E} {e : Expr} (h : ckE T cs cl N sc x e = true) : (∃ i a p, x = .peek i ∧ e = .Name a p ∧ nmOk N sc i a = true) ∨ ∀ i, x ≠ .peek i := by
  cases x with
  | peek i =>
    cases e <;> first
      | exact .inl ⟨_, _, _, rfl, rfl, h⟩
      | cases h
  | _ => exact .inr fun _ z => by cases z
theorem sR_of (xc : XC L N sc W X) {x : E} {e : Expr} (h : ckE L.T L.cons L.clsN N sc x e = true) (ih : PE X e (dV L X.K W x)) : PE X e (dR L X.K W x) := by
  rcases nopeek_of h with ⟨i, a, p, rfl, rfl, hn⟩ | hx
  · obtain ⟨h1, h2, h3, h4⟩ := vis_of xc hn
    exact PE.imp (pe_var h1 h2 h3 h4) fun σ H Q q => peekR q
  · exact PE.imp ih fun σ H Q q => dR_dV hx q
theorem sA_of (xc : XC L N sc W X) {x : E} {e : Expr} (h : ckE L.T L.cons L.clsN N sc x e = true) (ih : PE X e (dV L X.K W x)) : PE X e (dA L X.K W x) := by
  rcases nopeek_of h with ⟨i, a, p, rfl, rfl, hn⟩ | hx
  · obtain ⟨h1, h2, h3, h4⟩ := vis_of xc hn
    exact PE.imp (pe_var h1 h2 h3 h4) fun σ H Q q => peekA q
  · rcases noerv_of h with ⟨i, a, p, rfl, rfl, hn⟩ | hy
    · obtain ⟨h1, h2, h3, h4⟩ := vis_of xc hn
      exact PE.imp (pe_var h1 h2 h3 h4) fun σ H Q q => ervA q
    · rcases nofnv_of h with ⟨n, a, p, rfl, rfl, hn⟩ | hz
      · obtain ⟨hn, n3⟩ := Bool.and_eq_true_iff.mp hn
        obtain ⟨n1, n2⟩ := Bool.and_eq_true_iff.mp hn
        have e := str_beq n1
        subst e
        obtain ⟨g1, g2, g3⟩ := gl_of xc n2
        exact PE.imp (pe_glob g1 (fga_of xc.lk n3) (show RelV (.ref _) (.ref _) from rfl) g2) fun σ H Q q => fnvA q
      · exact PE.imp ih fun σ H Q q => dA_dV hx hy hz q

/-! ### operators -/
theorem imp_op2 {o : O2} {a b : E} {σ H Q} (h : dV L K W (.op2 o a b) σ H Q) : tOp (rO2 K o) (dR L K W a) (dR L K W b) σ H Q := by
  obtain ⟨f0, H0, f, en, m, ot⟩ := h
  have o1 := Out.bind (show Out L.cls W σ f H ((rd1 a en (L.ev a en)).bind fun x => (rd1 b en (L.ev b en)).bind fun y => sem2 o x y) (Ac K f H Q) from ot)
  refine ⟨f0, H0, f, en, m, o1.imp (Po.refl m.po.sub) fun dx _ h1 v f1 H1 q1 hv => ?_⟩
  refine ⟨f0, H0, f1, en, m.mono q1, h1.bind.imp q1 fun dy _ h2 u f2 H2 q2 hu => ?_⟩
  obtain ⟨p, e, k⟩ := h2.okk (sem2_noex _ _ _)
  exact ⟨f2, dx, dy, p, q2.sub, hv.mono q2, hu, e, k.mono (q1.trans q2)⟩
theorem imp_op1 {o : O1} {a : E} {σ H Q} (h : dV L K W (.op1 o a) σ H Q) : dR L K W a σ H fun v H1 => rO1 K o v H1 Q := by
  obtain ⟨f0, H0, f, en, m, ot⟩ := h
  have o1 := Out.bind (show Out L.cls W σ f H ((rd1 a en (L.ev a en)).bind (sem1 o)) (Ac K f H Q) from ot)
  refine ⟨f0, H0, f, en, m, o1.imp (Po.refl m.po.sub) fun dx _ h1 v f1 H1 q1 hv => ?_⟩
  obtain ⟨p, e, k⟩ := h1.okk (sem1_noex _ _)
  exact ⟨f1, dx, p, q1.sub, hv, e, k.mono q1⟩
theorem cmp_bool {o : O2} {op : CmpOp} (h : cmpOf o op = true) {a b : D} {p : D × Bool} (e : sem2 o a b = .ok p) : ∃ k, p = (.bool k, false) := by
  have ite_b : ∀ {c : Prop} [Decidable c] {x : Bool}, (if c then v1 (.bool x) else .no) = R.ok p → ∃ k, p = (.bool k, false) := fun {c} _ {x} z => by
    by_cases hc : c
    · rw [if_pos hc] at z; cases z; exact ⟨_, rfl⟩
    · rw [if_neg hc] at z; cases z
  have bnd_b : ∀ {r : R Bool} {g : Bool → Bool}, (r.bind fun c => v1 (.bool (g c))) = R.ok p → ∃ k, p = (.bool k, false) := fun {r g} z => by
    obtain ⟨c, _, z2⟩ := R.of_bind z
    cases z2
    exact ⟨_, rfl⟩
  cases o <;> cases op <;> first
    | (cases h; done)
    | (cases a <;> cases b <;> first
        | (cases e; done)
        | (cases e; exact ⟨_, rfl⟩)
        | exact ite_b e
        | exact bnd_b (g := fun c => c) e
        | exact bnd_b (g := fun c => !c) e)
/-- a truth from a value that is a bool -/
theorem dT_dV {x : E} (hx : ∀ i, x ≠ .peek i) (hb : ∀ en p, L.ev x en = .ok p → ∃ k, p = (.bool k, false)) {σ H Q} (h : dT L K W x σ H Q) : dV L K W x σ H fun v H' => ∃ k, v = .bl k ∧ Q k H' := by
  obtain ⟨f0, H0, f, en, m, o⟩ := h
  have o1 := Out.bind (show Out L.cls W σ f H ((rd1 x en (L.ev x en)).bind truR) (fun b => ∀ f' H', Po f H f' H' → Q b H') from o)
  rw [rd1_bind hx] at o1
  refine ⟨f0, H0, f, en, m, o1.bind.imp (Po.refl m.po.sub) fun p e h1 v f' H' q hv => ?_⟩
  obtain ⟨k, rfl⟩ := hb en p e
  have h2 : ∀ f' H', Po f H f' H' → Q k H' := h1
  cases (show Dp K f' v (.bool k) from hv)
  exact ⟨k, rfl, h2 f' H' q⟩
theorem truV_of {f' H' : Hp} {v : V} {d : D} {b : Bool} (s : Same f' H') (h : Vr K f' H' v d) (e : truR d = .ok b) : TruV K v H' b := by
  cases d with
  | none => rw [h.non]; cases e; rfl
  | bool c => rw [h.bool]; cases e; rfl
  | int i => rw [h.int]; cases e; rfl
  | str x =>
    rw [h.str]
    have e' : (if x.length ≤ line then R.ok (tru (.str x)) else .no) = .ok b := e
    by_cases hz : x.length ≤ line
    · rw [if_pos hz] at e'
      cases e'
      exact ⟨by rw [← line_eq]; exact hz, rfl⟩
    · rw [if_neg hz] at e'; cases e'
  | list xs =>
    obtain ⟨p, vs, rfl, hs, ha⟩ := h.list s
    cases e
    refine .inl ⟨vs, hs, ?_⟩
    have := ha.length
    cases vs <;> cases xs <;> first | rfl | cases this
  | tuple xs =>
    obtain ⟨p, vs, rfl, _, hs, ha⟩ := h.tup s
    cases e
    refine .inr (.inl ⟨vs, hs, ?_⟩)
    have := ha.length
    cases vs <;> cases xs <;> first | rfl | cases this
  | dict kvs => cases e
/-- a truth from a value that is read -/
theorem dT_dR {x : E} {σ H Q} (h : dT L K W x σ H Q) : dR L K W x σ H fun v H' => ∃ k, TruV K v H' k ∧ Q k H' := by
  obtain ⟨f0, H0, f, en, m, o⟩ := h
  have o1 := Out.bind (show Out L.cls W σ f H ((rd1 x en (L.ev x en)).bind truR) (fun b => ∀ f' H', Po f H f' H' → Q b H') from o)
  refine ⟨f0, H0, f, en, m, o1.imp (Po.refl m.po.sub) fun d _ h1 v f' H' q hv => ?_⟩
  obtain ⟨b, e, k⟩ := h1.okk (truR_noex _)
  exact ⟨b, truV_of q.sub hv e, k f' H' q⟩
theorem pt_plain (xc : XC L N sc W X) {x : E} {e : Expr} (h : ckE L.T L.cons L.clsN N sc x e = true) (ih : PE X e (dV L X.K W x)) (he : ∀ whole, isTrue e X.env whole = (do let v ← whole; standAt e.pos; holding [v] (truthy v))) : PT X e (dT L X.K W x) :=
  PT.imp (pt_truth (sR_of xc h ih) he) fun σ H Q q => dT_dR q
theorem imp_and {a b : E} {σ H Q} (h : dV L K W (.and a b) σ H Q) : tAndT K (dV L K W a) (dV L K W b) σ H Q := by
  obtain ⟨f0, H0, f, en, m, ot⟩ := h
  have o1 := Out.bind (show Out L.cls W σ f H ((L.ev a en).bind fun x => (truR x.1).bind fun t => if t then L.ev b en else v1 x.1) (Ac K f H Q) from ot)
  refine ⟨f0, H0, f, en, m, o1.imp (Po.refl m.po.sub) fun p _ h1 v f1 H1 q1 hv => ?_⟩
  obtain ⟨t, e, h2⟩ := h1.bind.okk (truR_noex _)
  obtain ⟨f2, q2, hv2⟩ := hv.settle q1
  refine ⟨t, truV_of q2.sub (.inl hv2) e, ?_⟩
  cases t with
  | true =>
    rw [if_pos rfl] at h2
    rw [if_pos rfl]
    exact ⟨f0, H0, f2, en, m.mono q2, h2.imp q2 fun p' _ k => k.mono q2⟩
  | false =>
    rw [if_neg Bool.false_ne_true] at h2
    rw [if_neg Bool.false_ne_true]
    exact h2 v f2 H1 q2 hv2
theorem imp_or {a b : E} {σ H Q} (h : dV L K W (.or a b) σ H Q) : tOrT K (dV L K W a) (dV L K W b) σ H Q := by
  obtain ⟨f0, H0, f, en, m, ot⟩ := h
  have o1 := Out.bind (show Out L.cls W σ f H ((L.ev a en).bind fun x => (truR x.1).bind fun t => if t then .ok x else L.ev b en) (Ac K f H Q) from ot)
  refine ⟨f0, H0, f, en, m, o1.imp (Po.refl m.po.sub) fun p _ h1 v f1 H1 q1 hv => ?_⟩
  obtain ⟨t, e, h2⟩ := h1.bind.okk (truR_noex _)
  refine ⟨t, truV_of q1.sub hv.read e, ?_⟩
  cases t with
  | true =>
    rw [if_pos rfl] at h2
    rw [if_pos rfl]
    exact h2 v f1 H1 q1 hv
  | false =>
    obtain ⟨f2, q2, hv2⟩ := hv.settle q1
    rw [if_neg Bool.false_ne_true] at h2
    rw [if_neg Bool.false_ne_true]
    exact ⟨f0, H0, f2, en, m.mono q2, h2.imp q2 fun p' _ k => k.mono q2⟩
theorem imp_not {a : E} {σ H Q} (h : dV L K W (.not a) σ H Q) : tNotT K (dR L K W a) σ H Q := by
  obtain ⟨f0, H0, f, en, m, ot⟩ := h
  have o1 := Out.bind (show Out L.cls W σ f H ((rd1 a en (L.ev a en)).bind fun x => (truR x).bind fun t => v1 (.bool (!t))) (Ac K f H Q) from ot)
  refine ⟨f0, H0, f, en, m, o1.imp (Po.refl m.po.sub) fun d _ h1 v f1 H1 q1 hv => ?_⟩
  obtain ⟨t, e, h2⟩ := h1.bind.okk (truR_noex _)
  exact ⟨t, truV_of q1.sub hv e, h2 _ f1 H1 q1 (.bl _)⟩
theorem imp_ife {t a b : E} {σ H Q} (h : dV L K W (.ife t a b) σ H Q) : tIf (dT L K W t) (dV L K W a) (dV L K W b) σ H Q := by
  obtain ⟨f0, H0, f, en, m, ot⟩ := h
  have ot' : Out L.cls W σ f H ((rd1 t en (L.ev t en)).bind fun x => (truR x).bind fun k => if k then L.ev a en else L.ev b en) (Ac K f H Q) := ot
  rw [← R.bind_assoc] at ot'
  refine ⟨f0, H0, f, en, m, ot'.bind.imp (Po.refl m.po.sub) fun k _ h1 f1 H1 q1 => ?_⟩
  cases k with
  | true =>
    rw [if_pos rfl] at h1
    rw [if_pos rfl]
    exact ⟨f0, H0, f1, en, m.mono q1, h1.imp q1 fun p' _ k => k.mono q1⟩
  | false =>
    rw [if_neg Bool.false_ne_true] at h1
    rw [if_neg Bool.false_ne_true]
    exact ⟨f0, H0, f1, en, m.mono q1, h1.imp q1 fun p' _ k => k.mono q1⟩
theorem evT_ev {x : E} {en : En} {p : D × Bool} (h : L.ev x en = .ok p) : evT L.G L.c (dflT L.T) x en = truR p.1 := by
  show (rd1 x en (L.ev x en)).bind truR = _
  rw [rd1_ok h]
  rfl
theorem evT_ex {x : E} {en : En} {k : Nat} (h : L.ev x en = .ex k) : evT L.G L.c (dflT L.T) x en = .ex k := by
  show (rd1 x en (L.ev x en)).bind truR = _
  cases x <;> first
    | (rw [h]; rfl)
    | cases h
theorem evT_and {a b : E} {en : En} (h : evT L.G L.c (dflT L.T) (.and a b) en ≠ .no) : evT L.G L.c (dflT L.T) (.and a b) en = (evT L.G L.c (dflT L.T) a en).bind fun t => if t then evT L.G L.c (dflT L.T) b en else .ok false := by
  have e0 : evT L.G L.c (dflT L.T) (.and a b) en = (((L.ev a en).bind fun x => (truR x.1).bind fun t => if t then L.ev b en else v1 x.1).bind fun p => R.ok p.1).bind truR := rfl
  rw [e0] at h ⊢
  cases ea : L.ev a en with
  | no => rw [ea] at h; exact absurd rfl h
  | ex k => rw [evT_ex ea]; rfl
  | ok p =>
    rw [evT_ev ea]
    rw [ea] at h
    have h' : (((truR p.1).bind fun t => if t then L.ev b en else v1 p.1).bind fun p => R.ok p.1).bind truR ≠ .no := h
    show (((truR p.1).bind fun t => if t then L.ev b en else v1 p.1).bind fun p => R.ok p.1).bind truR = _
    cases et : truR p.1 with
    | no => rw [et] at h'; exact absurd rfl h'
    | ex k => exact absurd et (truR_noex _ k)
    | ok t =>
      rw [et] at h'
      cases t with
      | true =>
        have h2 : ((L.ev b en).bind fun p => R.ok p.1).bind truR ≠ .no := h'
        show ((L.ev b en).bind fun p => R.ok p.1).bind truR = evT L.G L.c (dflT L.T) b en
        cases eb : L.ev b en with
        | no => rw [eb] at h2; exact absurd rfl h2
        | ex k => rw [evT_ex eb]; rfl
        | ok p => rw [evT_ev eb]; rfl
      | false =>
        show truR p.1 = .ok false
        exact et
theorem evT_or {a b : E} {en : En} (h : evT L.G L.c (dflT L.T) (.or a b) en ≠ .no) : evT L.G L.c (dflT L.T) (.or a b) en = (evT L.G L.c (dflT L.T) a en).bind fun t => if t then .ok true else evT L.G L.c (dflT L.T) b en := by
  have e0 : evT L.G L.c (dflT L.T) (.or a b) en = (((L.ev a en).bind fun x => (truR x.1).bind fun t => if t then .ok x else L.ev b en).bind fun p => R.ok p.1).bind truR := rfl
  rw [e0] at h ⊢
  cases ea : L.ev a en with
  | no => rw [ea] at h; exact absurd rfl h
  | ex k => rw [evT_ex ea]; rfl
  | ok p =>
    rw [evT_ev ea]
    rw [ea] at h
    have h' : (((truR p.1).bind fun t => if t then .ok p else L.ev b en).bind fun p => R.ok p.1).bind truR ≠ .no := h
    show (((truR p.1).bind fun t => if t then .ok p else L.ev b en).bind fun p => R.ok p.1).bind truR = _
    cases et : truR p.1 with
    | no => rw [et] at h'; exact absurd rfl h'
    | ex k => exact absurd et (truR_noex _ k)
    | ok t =>
      rw [et] at h'
      cases t with
      | false =>
        have h2 : ((L.ev b en).bind fun p => R.ok p.1).bind truR ≠ .no := h'
        show ((L.ev b en).bind fun p => R.ok p.1).bind truR = evT L.G L.c (dflT L.T) b en
        cases eb : L.ev b en with
        | no => rw [eb] at h2; exact absurd rfl h2
        | ex k => rw [evT_ex eb]; rfl
        | ok p => rw [evT_ev eb]; rfl
      | true =>
        show truR p.1 = .ok true
        exact et
theorem Out.ne {cls : Nat → Value} {σ : L2.St} {f H : Hp} {α : Type} {r : R α} {P : α → Prop} (h : Out cls W σ f H r P) : r ≠ .no := fun e => by
  rw [e] at h; exact h
theorem impT_and {a b : E} {σ H Q} (h : dT L K W (.and a b) σ H Q) : tAnd (dT L K W a) (dT L K W b) σ H Q := by
  obtain ⟨f0, H0, f, en, m, ot⟩ := h
  rw [evT_and ot.ne] at ot
  refine ⟨f0, H0, f, en, m, ot.bind.imp (Po.refl m.po.sub) fun t _ h1 f1 H1 q1 => ?_⟩
  cases t with
  | true =>
    rw [if_pos rfl] at h1
    rw [if_pos rfl]
    exact ⟨f0, H0, f1, en, m.mono q1, h1.imp q1 fun p' _ k f' H' q' => k f' H' (q1.trans q')⟩
  | false =>
    rw [if_neg Bool.false_ne_true] at h1
    rw [if_neg Bool.false_ne_true]
    exact h1 f1 H1 q1
theorem impT_or {a b : E} {σ H Q} (h : dT L K W (.or a b) σ H Q) : tOr (dT L K W a) (dT L K W b) σ H Q := by
  obtain ⟨f0, H0, f, en, m, ot⟩ := h
  rw [evT_or ot.ne] at ot
  refine ⟨f0, H0, f, en, m, ot.bind.imp (Po.refl m.po.sub) fun t _ h1 f1 H1 q1 => ?_⟩
  cases t with
  | true =>
    rw [if_pos rfl] at h1
    rw [if_pos rfl]
    exact h1 f1 H1 q1
  | false =>
    rw [if_neg Bool.false_ne_true] at h1
    rw [if_neg Bool.false_ne_true]
    exact ⟨f0, H0, f1, en, m.mono q1, h1.imp q1 fun p' _ k f' H' q' => k f' H' (q1.trans q')⟩
theorem impT_not {a : E} {σ H Q} (h : dT L K W (.not a) σ H Q) : tNot (dT L K W a) σ H Q := by
  obtain ⟨f0, H0, f, en, m, ot⟩ := h
  have ot' : Out L.cls W σ f H ((((rd1 a en (L.ev a en)).bind fun x => (truR x).bind fun t => v1 (.bool (!t))).bind fun p => R.ok p.1).bind truR) _ := ot
  have e : ((((rd1 a en (L.ev a en)).bind fun x => (truR x).bind fun t => v1 (.bool (!t))).bind fun p => R.ok p.1).bind truR) = (evT L.G L.c (dflT L.T) a en).bind fun t => .ok (!t) := by
    show _ = ((rd1 a en (L.ev a en)).bind truR).bind fun t => .ok (!t)
    cases rd1 a en (L.ev a en) with
    | ok d => show (((truR d).bind fun t => v1 (.bool (!t))).bind fun p => R.ok p.1).bind truR = (truR d).bind fun t => .ok (!t); cases truR d <;> rfl
    | ex k => rfl
    | no => rfl
  rw [e] at ot'
  exact ⟨f0, H0, f, en, m, ot'.bind.imp (Po.refl m.po.sub) fun t _ h1 f1 H1 q1 => h1 f1 H1 q1⟩
theorem impT_ife {t a b : E} {σ : L2.St} {H : Hp} {Q : Bool → Hp → Prop} (h : dT L K W (.ife t a b) σ H Q) : dT L K W t σ H fun c H1 => if c = true then dT L K W a σ H1 Q else dT L K W b σ H1 Q := by
  obtain ⟨f0, H0, f, en, m, ot⟩ := h
  have ot' : Out L.cls W σ f H ((((rd1 t en (L.ev t en)).bind fun x => (truR x).bind fun k => if k then L.ev a en else L.ev b en).bind fun p => R.ok p.1).bind truR) _ := ot
  have two : ∀ x : E, ((L.ev x en).bind fun p => R.ok p.1).bind truR ≠ .no → ((L.ev x en).bind fun p => R.ok p.1).bind truR = evT L.G L.c (dflT L.T) x en := fun x hx => by
    cases ex : L.ev x en with
    | no => rw [ex] at hx; exact absurd rfl hx
    | ex k => rw [evT_ex ex]; rfl
    | ok p => rw [evT_ev ex]; rfl
  have e : ((((rd1 t en (L.ev t en)).bind fun x => (truR x).bind fun k => if k then L.ev a en else L.ev b en).bind fun p => R.ok p.1).bind truR) = (evT L.G L.c (dflT L.T) t en).bind fun k => ((if k then L.ev a en else L.ev b en).bind fun p => R.ok p.1).bind truR := by
    show _ = ((rd1 t en (L.ev t en)).bind truR).bind _
    cases rd1 t en (L.ev t en) with
    | ok d => show (((truR d).bind fun k => if k then L.ev a en else L.ev b en).bind fun p => R.ok p.1).bind truR = (truR d).bind _; cases truR d <;> rfl
    | ex k => rfl
    | no => rfl
  rw [e] at ot'
  refine ⟨f0, H0, f, en, m, ot'.bind.imp (Po.refl m.po.sub) fun k _ h1 f1 H1 q1 => ?_⟩
  cases k with
  | true =>
    rw [if_pos rfl] at h1
    rw [if_pos rfl]
    have h2 := h1
    rw [two a h1.ne] at h2
    exact ⟨f0, H0, f1, en, m.mono q1, h2.imp q1 fun p' _ k f' H' q' => k f' H' (q1.trans q')⟩
  | false =>
    rw [if_neg Bool.false_ne_true] at h1
    rw [if_neg Bool.false_ne_true]
    have h2 := h1
    rw [two b h1.ne] at h2
    exact ⟨f0, H0, f1, en, m.mono q1, h2.imp q1 fun p' _ k f' H' q' => k f' H' (q1.trans q')⟩
/-- chains of two comparisons -/
theorem imp_chn {o p : O2} {op : CmpOp} (hc : cmpOf o op = true) {a b z : E} {σ H Q} (h : dV L K W (.chn o p a b z) σ H Q) : tChain (rO2 K o) (rO2 K p) (dR L K W a) (dR L K W b) (dR L K W z) σ H Q := by
  obtain ⟨f0, H0, f, en, m, ot⟩ := h
  have o1 := Out.bind (show Out L.cls W σ f H ((rd1 a en (L.ev a en)).bind fun x => (rd1 b en (L.ev b en)).bind fun y => (sem2 o x y).bind fun r => (match r.1 with
    | .bool true => (rd1 z en (L.ev z en)).bind fun w => sem2 p y w
    | .bool false => v1 (.bool false)
    | _ => .no)) (Ac K f H Q) from ot)
  refine ⟨f0, H0, f, en, m, o1.imp (Po.refl m.po.sub) fun dx _ h1 v f1 H1 q1 hv => ?_⟩
  refine ⟨f0, H0, f1, en, m.mono q1, h1.bind.imp q1 fun dy _ h2 u f2 H2 q2 hu => ?_⟩
  obtain ⟨r, e, h3⟩ := h2.bind.okk (sem2_noex _ _ _)
  obtain ⟨k, rfl⟩ := cmp_bool hc e
  refine ⟨f2, dx, dy, _, q2.sub, hv.mono q2, hu, e, fun w f3 H3 q3 hw => ?_⟩
  cases (show Dp K f3 w (.bool k) from hw)
  refine ⟨k, rfl, ?_⟩
  have q13 := (q1.trans q2).trans q3
  cases k with
  | true =>
    rw [if_pos rfl]
    have h4 : Out L.cls W σ f H ((rd1 z en (L.ev z en)).bind fun w => sem2 p dy w) (Ac K f H Q) := h3
    refine ⟨f0, H0, f3, en, m.mono q13, h4.bind.imp q13 fun dw _ h5 w' f4 H4 q4 hw' => ?_⟩
    obtain ⟨r, e, k⟩ := h5.okk (sem2_noex _ _ _)
    exact ⟨f4, dy, dw, r, q4.sub, (hu.mono q3).mono q4, hw', e, k.mono (q13.trans q4)⟩
  | false =>
    rw [if_neg Bool.false_ne_true]
    exact h3 _ f3 H3 q13 (.bl false)
end
end AW

/-! AwSnd3: displays, slices, calls, walks. -/
namespace AW
open PySem PySem.Spec PyProof.Rows L2

section
variable {L : Lk} {N : List Str} {sc : Nms} {W : WX} {X : Cx} {K : PySem.W.Frag}

/-! ### rows of expressions -/
theorem evs_cons {e : E} {r : Es} {σ H Q} (h : dVs L K W (.cons e r) σ H Q) : tCons (dV L K W e) (dVs L K W r) σ H Q := by
  obtain ⟨f0, H0, f, en, m, ot⟩ := h
  have o1 := Out.bind (show Out L.cls W σ f H ((L.ev e en).bind fun x => (evs L.G L.c (dflT L.T) r en).bind fun xs => R.ok (x.1 :: xs)) _ from ot)
  refine ⟨f0, H0, f, en, m, o1.imp (Po.refl m.po.sub) fun p _ h1 v f1 H1 q1 hv => ?_⟩
  obtain ⟨f2, q2, hv2⟩ := hv.settle q1
  refine ⟨f0, H0, f2, en, m.mono q2, h1.bind.imp q2 fun ds _ h2 vs f3 H3 q3 hvs => ?_⟩
  exact h2 (v :: vs) f3 H3 (q2.trans q3) (.cons (dp_same q3.sf hv2) hvs)
theorem evs_nil {σ : L2.St} {H : Hp} {Q : List V → Hp → Prop} (h : dVs L K W .nil σ H Q) : tNil σ H Q := by
  obtain ⟨f0, H0, f, en, m, ot⟩ := h
  have ot' : ∀ vs f' H', Po f H f' H' → DpAll K f' vs [] → Q vs H' := ot
  exact ot' [] f H (Po.refl m.po.sub) .nil
theorem evAs_cons {e : E} {r : Es} {σ H Q} (h : dAs L K W (.cons e r) σ H Q) : tCons (dA L K W e) (dAs L K W r) σ H Q := by
  obtain ⟨f0, H0, f, en, m, ot⟩ := h
  have o1 := Out.bind (show Out L.cls W σ f H ((arg1 e en (L.ev e en)).bind fun x => (evAs L.G L.c (dflT L.T) r en).bind fun xs => R.ok (x :: xs)) _ from ot)
  refine ⟨f0, H0, f, en, m, o1.imp (Po.refl m.po.sub) fun s _ h1 v f1 H1 q1 hv => ?_⟩
  refine ⟨f0, H0, f1, en, m.mono q1, h1.bind.imp q1 fun ss _ h2 vs f3 H3 q3 hvs => ?_⟩
  exact h2 (v :: vs) f3 H3 (q1.trans q3) (.cons (hv.mono q3) hvs)
theorem evAs_nil {σ : L2.St} {H : Hp} {Q : List V → Hp → Prop} (h : dAs L K W .nil σ H Q) : tNil σ H Q := by
  obtain ⟨f0, H0, f, en, m, ot⟩ := h
  have ot' : ∀ vs f' H', Po f H f' H' → ArgsOk K f' H' vs [] → Q vs H' := ot
  exact ot' [] f H (Po.refl m.po.sub) .nil
theorem star_of {T : List Fn} {cs : List (Str × D)} {cl : List Str} {x : E} {e : Expr} (h : ckE T cs cl N sc x e = true) (es : List Expr) : starEach (e :: es) X.env = (false, eval e X.env) :: starEach es X.env := by
  cases e with
  | Starred v p => cases x <;> cases h
  | _ => rfl
theorem stars_of {T : List Fn} {cs : List (Str × D)} {cl : List Str} {pos : Pos} : ∀ {xs : Es} {es : List Expr}, ckEs T cs cl N sc xs es = true → (backTo pos (starEach es X.env)).any (·.1) = false
  | .nil, [], _ => rfl
  | .nil, _ :: _, h => by cases h
  | .cons x r, [], h => by cases h
  | .cons x r, e :: es, h => by
    have h' : (ckE T cs cl N sc x e && ckEs T cs cl N sc r es) = true := h
    rw [Bool.and_eq_true] at h'
    rw [star_of h'.1]
    show ((backTo pos (starEach es X.env)).any (·.1)) = false
    exact stars_of h'.2
theorem imp_tup {es : Es} {σ H Q} (h : dV L K W (.tup es) σ H Q) : tTup (dVs L K W es) σ H Q := by
  obtain ⟨f0, H0, f, en, m, ot⟩ := h
  have o1 := Out.bind (show Out L.cls W σ f H ((evs L.G L.c (dflT L.T) es en).bind fun ds => if ds.length ≤ line then v1 (PyData.tuple ds) else .no) (Ac K f H Q) from ot)
  refine ⟨f0, H0, f, en, m, o1.imp (Po.refl m.po.sub) fun ds _ h1 vs f1 H1 q1 hvs => ?_⟩
  by_cases hz : ds.length ≤ line
  · rw [if_pos hz] at h1
    exact ⟨by rw [hvs.length, ← line_eq]; exact hz, fun p hp => (Ac.mono q1 h1).newT q1.sub hvs hp⟩
  · rw [if_neg hz] at h1
    exact h1.elim
theorem imp_lst {es : Es} {σ H Q} (h : dV L K W (.lst es) σ H Q) : tLst (dVs L K W es) σ H Q := by
  obtain ⟨f0, H0, f, en, m, ot⟩ := h
  have o1 := Out.bind (show Out L.cls W σ f H ((evs L.G L.c (dflT L.T) es en).bind fun ds => if ds.length ≤ line then R.ok (PyData.list ds, true) else .no) (Ac K f H Q) from ot)
  refine ⟨f0, H0, f, en, m, o1.imp (Po.refl m.po.sub) fun ds _ h1 vs f1 H1 q1 hvs => ?_⟩
  by_cases hz : ds.length ≤ line
  · rw [if_pos hz] at h1
    exact ⟨by rw [hvs.length, ← line_eq]; exact hz, fun p hp => (Ac.mono q1 h1).newL q1.sub hvs hp⟩
  · rw [if_neg hz] at h1
    exact h1.elim
theorem imp_rep {es : Es} {n : E} {σ H Q} (h : dV L K W (.rep es n) σ H Q) : tOp rRep (tLst (dVs L K W es)) (dV L K W n) σ H Q := by
  obtain ⟨f0, H0, f, en, m, ot⟩ := h
  have o1 := Out.bind (show Out L.cls W σ f H ((evs L.G L.c (dflT L.T) es en).bind fun ds => if ds.length ≤ line then (L.ev n en).bind fun x => (intR x.1).bind fun k => if -1000000 ≤ k ∧ k ≤ 1000000 ∧ ds.length * k.toNat ≤ line then R.ok (PyData.list (List.replicate k.toNat ds).flatten, true) else .no else .no) (Ac K f H Q) from ot)
  refine ⟨f0, H0, f, en, m, o1.imp (Po.refl m.po.sub) fun ds _ h1 vs f1 H1 q1 hvs => ?_⟩
  by_cases hz : ds.length ≤ line
  · rw [if_pos hz] at h1
    refine ⟨by rw [hvs.length, ← line_eq]; exact hz, fun p hp => ?_⟩
    have q2 := q1.newH (o := .lst vs) hp
    refine ⟨f0, H0, f1, en, m.mono q2, h1.bind.imp q2 fun x _ h2 v f3 H3 q3 hv => ?_⟩
    obtain ⟨k, e, h3⟩ := h2.bind.okk (intR_noex _)
    have ex : x.1 = .int k := by
      cases hx : x.1 with
      | int i => rw [hx] at e; cases e; rfl
      | _ => rw [hx] at e; cases e
    have hv' : v = .int k := by
      have := hv.read
      rw [ex] at this
      exact this.int
    by_cases hk : -1000000 ≤ k ∧ k ≤ 1000000 ∧ ds.length * k.toNat ≤ line
    · rw [if_pos hk] at h3
      refine ⟨p, k, vs, rfl, hv', q3.sH _ _ upd_same, by omega, by omega, by rw [hvs.length, ← line_eq]; exact hk.2.2, fun r hr => ?_⟩
      exact (Ac.mono (q2.trans q3) h3).newL q3.sub ((dpa_same q3.sf hvs).rep k.toNat) hr
    · rw [if_neg hk] at h3
      exact h3.elim
  · rw [if_neg hz] at h1
    exact h1.elim
theorem semRev_noex (d : D) (k : Nat) : semRev d ≠ .ex k := by cases d <;> first | exact no_noex k | exact ok_noex k | exact v1_noex
theorem semRep_noex (x : D × Bool) (i : Int) (k : Nat) : semRep x i ≠ .ex k := by
  obtain ⟨d, b⟩ := x
  cases d <;> cases b <;> first
    | exact no_noex k
    | exact ite_noex ok_noex no_noex k
theorem imp_repE {a n : E} {σ H Q} (h : dV L K W (.repE a n) σ H Q) : tOp rRep (dV L K W a) (dV L K W n) σ H Q := by
  obtain ⟨f0, H0, f, en, m, ot⟩ := h
  have o1 := Out.bind (show Out L.cls W σ f H ((L.ev a en).bind fun x => (L.ev n en).bind fun y => (intR y.1).bind fun k => semRep x k) (Ac K f H Q) from ot)
  refine ⟨f0, H0, f, en, m, o1.imp (Po.refl m.po.sub) fun x _ h1 v f1 H1 q1 hv => ?_⟩
  obtain ⟨d, b⟩ := x
  refine ⟨f0, H0, f1, en, m.mono q1, h1.bind.imp q1 fun y _ h2 u f3 H3 q3 hu => ?_⟩
  obtain ⟨k, e, h3⟩ := h2.bind.okk (intR_noex _)
  obtain ⟨p, e2, kk⟩ := h3.okk (semRep_noex _ _)
  have ex : y.1 = .int k := by
    cases hx : y.1 with
    | int i => rw [hx] at e; cases e; rfl
    | _ => rw [hx] at e; cases e
  have hv' : u = .int k := by
    have := hu.read
    rw [ex] at this
    exact this.int
  cases b with
  | false => cases d <;> cases e2
  | true =>
    obtain ⟨ds, p', vs, rfl, rfl, g1, g2, g3, g4⟩ := hv
    have e2' : (if -1000000 ≤ k ∧ k ≤ 1000000 ∧ ds.length * k.toNat ≤ line then R.ok (PyData.list (List.replicate k.toNat ds).flatten, true) else .no) = .ok p := e2
    by_cases hk : -1000000 ≤ k ∧ k ≤ 1000000 ∧ ds.length * k.toNat ≤ line
    · rw [if_pos hk] at e2'
      cases e2'
      refine ⟨p', k, vs, rfl, hv', q3.sH _ _ g3, by omega, by omega, by rw [g4.length, ← line_eq]; exact hk.2.2, fun r hr => ?_⟩
      exact (Ac.mono (q1.trans q3) kk).newL q3.sub ((dpa_same q3.sf g4).rep k.toNat) hr
    · rw [if_neg hk] at e2'
      cases e2'
theorem imp_revs {a : E} {σ H Q} (h : dV L K W (.revs a) σ H Q) : tRevA K (dR L K W a) σ H Q := by
  obtain ⟨f0, H0, f, en, m, ot⟩ := h
  have o1 := Out.bind (show Out L.cls W σ f H ((rd1 a en (L.ev a en)).bind semRev) (Ac K f H Q) from ot)
  refine ⟨f0, H0, f, en, m, o1.imp (Po.refl m.po.sub) fun d _ h1 v f1 H1 q1 hv => ?_⟩
  obtain ⟨p, e, k⟩ := h1.okk (semRev_noex _)
  cases d <;> first
    | (cases e; done)
    | skip
  case list xs =>
    cases e
    obtain ⟨b, vs, rfl, ha, ra⟩ := hv.list q1.sub
    exact ⟨b, vs, rfl, .inl ⟨ha, fun r hr => (Ac.mono q1 k).newL q1.sub ra.reverse hr⟩⟩
  case tuple xs =>
    cases e
    obtain ⟨b, vs, rfl, hfa, ha, ra⟩ := hv.tup q1.sub
    exact ⟨b, vs, rfl, .inr ⟨ha, fun r hr => (Ac.mono q1 k).newT q1.sub ra.reverse hr⟩⟩
/-! ### parts of slices -/
theorem impO_none {σ : L2.St} {H : Hp} {Q : Option Int → Hp → Prop} (h : dO L K W .none σ H Q) : tNoPart σ H Q := by
  obtain ⟨f0, H0, f, en, m, ot⟩ := h
  have ot' : ∀ f' H', Po f H f' H' → Q none H' := ot
  exact ot' f H (Po.refl m.po.sub)
theorem impO_some {e : E} {σ : L2.St} {H : Hp} {Q : Option Int → Hp → Prop} (h : dO L K W (.some e) σ H Q) : tPart (dV L K W e) σ H Q := by
  obtain ⟨f0, H0, f, en, m, ot⟩ := h
  have o1 := Out.bind (show Out L.cls W σ f H ((L.ev e en).bind fun x => (intR x.1).bind fun i => R.ok (some i)) _ from ot)
  refine ⟨f0, H0, f, en, m, o1.imp (Po.refl m.po.sub) fun p _ h1 v f1 H1 q1 hv => ?_⟩
  obtain ⟨i, e', h2⟩ := h1.bind.okk (intR_noex _)
  have hv2 := hv.read
  cases hp : p.1 with
  | int j =>
    rw [hp] at e' hv2
    cases e'
    exact ⟨_, hv2.int, h2 f1 H1 q1⟩
  | _ => rw [hp] at e'; cases e'
theorem imp_slc {a : E} {lo hi : Eo} {σ H Q} (h : dV L K W (.slc a lo hi) σ H Q) : tSl (rSl K) (dR L K W a) (dO L K W lo) (dO L K W hi) σ H Q := by
  obtain ⟨f0, H0, f, en, m, ot⟩ := h
  have o1 := Out.bind (show Out L.cls W σ f H ((rd1 a en (L.ev a en)).bind fun x => (evO L.G L.c (dflT L.T) lo en).bind fun l => (evO L.G L.c (dflT L.T) hi en).bind fun h => semSl x l h) (Ac K f H Q) from ot)
  refine ⟨f0, H0, f, en, m, o1.imp (Po.refl m.po.sub) fun dx _ h1 v f1 H1 q1 hv => ?_⟩
  refine ⟨f0, H0, f1, en, m.mono q1, h1.bind.imp q1 fun l _ h2 f2 H2 q2 => ?_⟩
  refine ⟨f0, H0, f2, en, m.mono (q1.trans q2), h2.bind.imp (q1.trans q2) fun hh _ h3 f3 H3 q3 => ?_⟩
  obtain ⟨p, e, k⟩ := h3.okk (semSl_noex _ _ _)
  exact ⟨f3, dx, p, q3.sub, (hv.mono q2).mono q3, e, k.mono ((q1.trans q2).trans q3)⟩
/-! ### calls -/
theorem imp_call {j m : Nat} {es : Es} {dvs : List V} {σ H Q} (hd : ∀ H, DpAll K H dvs (dflT L.T j m)) (h : dV L K W (.call j es m) σ H Q) : tCallSD (L.sp K j) dvs (WE W) (dAs L K W es) σ H Q := by
  obtain ⟨f0, H0, f, en, mt, ot⟩ := h
  have o1 := Out.bind (show Out L.cls W σ f H ((evAs L.G L.c (dflT L.T) es en).bind fun ss => L.c j (ss ++ (dflT L.T j m).map .va)) (Ac K f H Q) from ot)
  refine ⟨f0, H0, f, en, mt, o1.imp (Po.refl mt.po.sub) fun ss _ h1 vs f1 H1 q1 hvs => ?_⟩
  refine ⟨f1, ss ++ (dflT L.T j m).map .va, q1.sub, hvs.append (hd f1), ?_⟩
  cases e : L.c j (ss ++ (dflT L.T j m).map .va) with
  | ok p =>
    rw [e] at h1
    exact Ac.mono q1 h1
  | ex k =>
    rw [e] at h1
    exact fun f' H' q' => h1 f' H' (q1.trans q')
  | no =>
    rw [e] at h1
    exact h1
/-- a call of the def that a slot holds -/
def tCallN (L : Lk) (K : PySem.W.Frag) (i : Nat) (cs : List (Str × Nat)) (E : L2.St → XK) (t : TA) : TE := fun σ H Q => ∃ n j, cs.lookup n = some j ∧ σ[i]? = some (some (.ref (He.ga K n))) ∧ t σ H fun vs H1 => L.sp K j vs H1 Q (E σ)
theorem imp_callL {i : Nat} {cs : List (Str × Nat)} {es : Es} {σ H Q} (h : dV L K W (.callL i cs es) σ H Q) : tCallN L K i cs (WE W) (dAs L K W es) σ H Q := by
  obtain ⟨f0, H0, f, en, mt, ot⟩ := h
  have ot : Out L.cls W σ f H (match en[i]? with
    | some (.fn n) => (match cs.lookup n with
      | some j => (evAs L.G L.c (dflT L.T) es en).bind fun ss => L.c j ss
      | none => .no)
    | _ => .no) (Ac K f H Q) := ot
  cases e : en[i]? with
  | none => rw [e] at ot; exact ot.elim
  | some s =>
    rw [e] at ot
    cases s with
    | fn n =>
      have ot : Out L.cls W σ f H (match cs.lookup n with
        | some j => (evAs L.G L.c (dflT L.T) es en).bind fun ss => L.c j ss
        | none => .no) (Ac K f H Q) := ot
      cases ej : cs.lookup n with
      | none => rw [ej] at ot; exact ot.elim
      | some j =>
        rw [ej] at ot
        have o1 := Out.bind (show Out L.cls W σ f H ((evAs L.G L.c (dflT L.T) es en).bind fun ss => L.c j ss) (Ac K f H Q) from ot)
        refine ⟨n, j, ej, mt.fn e, f0, H0, f, en, mt, o1.imp (Po.refl mt.po.sub) fun ss _ h1 vs f1 H1 q1 hvs => ?_⟩
        refine ⟨f1, ss, q1.sub, hvs, ?_⟩
        cases e2 : L.c j ss with
        | ok p =>
          rw [e2] at h1
          exact Ac.mono q1 h1
        | ex k =>
          rw [e2] at h1
          exact fun f' H' q' => h1 f' H' (q1.trans q')
        | no =>
          rw [e2] at h1
          exact h1
    | un => exact ot.elim
    | va d => exact ot.elim
    | ow d => exact ot.elim
    | rd d => exact ot.elim
    | er d => exact ot.elim
    | dk d => exact ot.elim
open Classical in
/-- the lent lists b more are settled -/
noncomputable def lent (f H : Hp) (B : Addr → Prop) : Hp := fun a => if B a then H a else f a
section
variable {f H : Hp} {B : Addr → Prop}
theorem lent_same (s : Same f H) : Same f (lent f H B) := fun a o e => by
  unfold lent
  by_cases h : B a
  · rw [if_pos h]; exact s a o e
  · rw [if_neg h]; exact e
theorem lent_sub (s : Same f H) : Same (lent f H B) H := fun a o e => by
  unfold lent at e
  by_cases h : B a
  · rw [if_pos h] at e; exact e
  · rw [if_neg h] at e; exact s a o e
theorem lent_mono {B' : Addr → Prop} (s : Same f H) (h : ∀ a, B a → B' a) : Same (lent f H B) (lent f H B') := fun a o e => by
  unfold lent at *
  by_cases hb : B a
  · rw [if_pos hb] at e; rw [if_pos (h a hb)]; exact e
  · rw [if_neg hb] at e
    by_cases hb' : B' a
    · rw [if_pos hb']; exact s a o e
    · rw [if_neg hb']; exact e
end
theorem argsOk_same {K : PySem.W.Frag} {f H f' : Hp} (e : Same f f') : ∀ {vs : List V} {ss : List Sl}, ArgsOk K f H vs ss → ArgsOk K f' H vs ss
  | _, _, .nil => .nil
  | _, _, .cons h t => .cons (by
    cases h with
    | va h => exact .va (dp_same e h)
    | rd hH h => exact .rd hH (dpa_same e h)
    | er hH => exact .er hH
    | fn => exact .fn) (argsOk_same e t)
theorem args_asV {K : PySem.W.Frag} {f H : Hp} (s : Same f H) : ∀ {vs : List V} {ss : List Sl}, ArgsOk K f H vs ss → ∃ B : Addr → Prop, (∀ a, B a → ∃ xs, Rd H a (.lst xs)) ∧ ArgsOk K (lent f H B) H vs (asV ss)
  | _, _, .nil => ⟨fun _ => False, fun _ h => h.elim, .nil⟩
  | _, _, .cons (v := v) h t => by
    obtain ⟨B, hB, ht⟩ := args_asV s t
    cases h with
    | va h => exact ⟨B, hB, .cons (.va (dp_same (lent_same s) h)) ht⟩
    | er hH => exact ⟨B, hB, .cons (.er hH) ht⟩
    | fn => exact ⟨B, hB, .cons .fn ht⟩
    | rd hH h =>
      rename_i p ws ds
      let B' : Addr → Prop := fun a => B a ∨ (a = p ∧ ∃ xs, Rd H a (.lst xs))
      have hm : ∀ a, B a → B' a := fun a h => .inl h
      refine ⟨B', fun a ha => ?_, .cons (.va (.lst ?_ (dpa_same (lent_same s) h))) ?_⟩
      · rcases ha with ha | ⟨_, ha⟩
        · exact hB a ha
        · exact ha
      · rcases hH with hH | hH
        · have hp : B' p := .inr ⟨rfl, _, hH⟩
          refine .inl ?_
          have e : lent f H B' p = H p := by unfold lent; rw [if_pos hp]
          unfold Rd
          rw [e]
          exact hH
        · exact .inr hH
      · exact argsOk_same (lent_mono s hm) ht
/-- what is told without a list stands without the lent lists, too -/
theorem unlent {K : PySem.W.Frag} {f H f' H' : Hp} {B : Addr → Prop} (s : Same f H) (hB : ∀ a, B a → ∃ xs, Rd H a (.lst xs)) (q : Po (lent f H B) H f' H') : ∃ f'', Po f H f'' H' ∧ ∀ {d : D} {v : V}, noL d = true → Dp K f' v d → Dp K f'' v d := by
  let f'' : Hp := open Classical in fun a => if B a ∧ f a = none then none else f' a
  have e1 : ∀ a, ¬ (B a ∧ f a = none) → f'' a = f' a := fun a h => by show (open Classical in if B a ∧ f a = none then none else f' a) = _; rw [if_neg h]
  have e2 : ∀ a o, f'' a = some o → f' a = some o ∧ ¬ (B a ∧ f a = none) := fun a o h => by
    have h : (open Classical in if B a ∧ f a = none then none else f' a) = some o := h
    by_cases z : B a ∧ f a = none
    · rw [if_pos z] at h; cases h
    · rw [if_neg z] at h; exact ⟨h, z⟩
  refine ⟨f'', ⟨q.sH, fun a o e => ?_, fun a o e => q.sub a o (e2 a o e).1, fun a o e => ?_⟩, ?_⟩
  · rw [e1 a (fun z => by rw [z.2] at e; cases e)]
    exact q.sf a o (lent_same s a o e)
  · obtain ⟨h1, h2⟩ := e2 a o e
    rcases q.gro a o h1 with h | h
    · left
      unfold lent at h
      by_cases hb : B a
      · rw [if_pos hb] at h
        cases hf : f a with
        | none => exact absurd ⟨hb, hf⟩ h2
        | some o' => rw [s a o' hf] at h; exact h
      · rw [if_neg hb] at h; exact h
    · exact .inr h
  · have key : ∀ {a : Addr} {xs : List V}, SqT K f' a xs → SqT K f'' a xs := fun {a xs} h => by
      rcases h with h | h
      · have hn : ¬ (B a ∧ f a = none) := fun z => by
          obtain ⟨ys, hy⟩ := hB a z.1
          have hl : lent f H B a = H a := by unfold lent; rw [if_pos z.1]
          rcases hy with hy | ⟨o, hy⟩
          · have := q.sf a _ (hl.trans hy)
            rcases h with h | ⟨o', h⟩ <;> rw [this] at h <;> cases h
          · have := q.sf a _ (hl.trans hy)
            rcases h with h | ⟨o', h⟩ <;> rw [this] at h <;> cases h
        refine .inl ?_
        unfold Rd
        rw [e1 a hn]
        exact h
      · exact .inr h
    intro d v hd h
    have go : (∀ (d : D) (v : V), noL d = true → Dp K f' v d → Dp K f'' v d) := fun d => by
      refine PyData.rec (motive_1 := fun d => ∀ v, noL d = true → Dp K f' v d → Dp K f'' v d) (motive_2 := fun ds => ∀ vs, noLs ds = true → DpAll K f' vs ds → DpAll K f'' vs ds) (motive_3 := fun _ => True) (motive_4 := fun _ => True)
        ?_ ?_ ?_ ?_ ?_ ?_ ?_ ?_ ?_ ?_ ?_ ?_ d
      · intro v _ h; cases h; exact .non
      · intro b v _ h; cases h; exact .bl _
      · intro i v _ h; cases h; exact .int _
      · intro x v _ h; cases h; exact .str _
      · intro xs _ v hn; cases hn
      · intro xs ih v hn h
        cases h with
        | tup hs ha => exact .tup (key hs) (ih _ hn ha)
      · intro kvs _ v hn; cases hn
      · intro vs _ h; cases h; exact .nil
      · intro d ds i1 i2 vs hn h
        have hn : (noL d && noLs ds) = true := hn
        rw [Bool.and_eq_true] at hn
        cases h with
        | cons a b => exact .cons (i1 _ hn.1 a) (i2 _ hn.2 b)
      · trivial
      · intros; trivial
      · intros; trivial
    exact go d v hd h
theorem imp_callv {j m : Nat} {es : Es} {dvs : List V} {σ H Q} (hd : ∀ H, DpAll K H dvs (dflT L.T j m)) (h : dV L K W (.callv j es m) σ H Q) : tCallSD (L.sp K j) dvs (WE W) (dAs L K W es) σ H Q := by
  obtain ⟨f0, H0, f, en, mt, ot⟩ := h
  have o1 := Out.bind (show Out L.cls W σ f H ((evAs L.G L.c (dflT L.T) es en).bind fun ss => (L.c j (asV ss ++ (dflT L.T j m).map .va)).bind fun p => if p.2 = false ∧ noL p.1 = true then .ok p else .no) (Ac K f H Q) from ot)
  refine ⟨f0, H0, f, en, mt, o1.imp (Po.refl mt.po.sub) fun ss _ h1 vs f1 H1 q1 hvs => ?_⟩
  obtain ⟨B, hB, ha⟩ := args_asV q1.sub hvs
  refine ⟨lent f1 H1 B, asV ss ++ (dflT L.T j m).map .va, lent_sub q1.sub, ha.append (hd _), ?_⟩
  cases e : L.c j (asV ss ++ (dflT L.T j m).map .va) with
  | ok p =>
    rw [e] at h1
    have h1 : Out L.cls W σ f H (if p.2 = false ∧ noL p.1 = true then R.ok p else .no) (Ac K f H Q) := h1
    by_cases hp : p.2 = false ∧ noL p.1 = true
    · rw [if_pos hp] at h1
      have h2 := Ac.mono q1 (show Ac K f H Q p from h1)
      intro v f' H' q' hv
      obtain ⟨f'', q'', un⟩ := unlent (K := K) q1.sub hB q'
      rw [hp.1] at hv
      refine h2 v f'' H' q'' ?_
      rw [hp.1]
      exact un hp.2 hv
    · rw [if_neg hp] at h1
      exact h1.elim
  | ex k =>
    rw [e] at h1
    intro f' H' q'
    obtain ⟨f'', q'', _⟩ := unlent (K := K) q1.sub hB q'
    exact h1 f'' H' (q1.trans q'')
  | no =>
    rw [e] at h1
    exact h1
/-! ### isinstance -/
theorem tyx_of {f' H' : Hp} {v : V} {d : D} (s : Same f' H') (h : Vr K f' H' v d) : ∃ t : String, TyX K H' v (.type t) ∧ ∀ n : String, (n = "int" ∨ n = "bool" ∨ n = "str" ∨ n = "tuple" ∨ n = "list") → kitB t n = some (isTy d (.bi n)) := by
  have seq : ∀ {p : Addr} {vs : List V}, SqL K H' p vs → TyX K H' (.ref p) (.type "list") := fun {p vs} hs => by
    rcases hs with (hs | ⟨o, hs⟩) | ⟨o, its, n, hk, hc, _⟩
    · exact .base (.lst hs)
    · exact .base (.frz hs)
    · exact .kList hk hc
  have tup : ∀ {p : Addr} {vs : List V}, SqT K H' p vs → TyX K H' (.ref p) (.type "tuple") := fun {p vs} hs => by
    rcases hs with (hs | ⟨o, hs⟩) | ⟨o, its, n, hk, hc, _⟩
    · exact .base (.tup hs)
    · exact .fTuple hs
    · exact .kTuple hk hc
  cases d with
  | none => exact ⟨"NoneType", by rw [h.non]; exact .base .non, fun n hn => by rcases hn with rfl | rfl | rfl | rfl | rfl <;> first | exact (show kitB _ _ = some (_ == _) from by decide +kernel) | exact (show kitB _ _ = some (_ == _ || _ == _) from by decide +kernel)⟩
  | bool b => exact ⟨"bool", by rw [h.bool]; exact .base (.bl b), fun n hn => by rcases hn with rfl | rfl | rfl | rfl | rfl <;> cases b <;> decide +kernel⟩
  | int i => exact ⟨"int", by rw [h.int]; exact .base (.int i), fun n hn => by rcases hn with rfl | rfl | rfl | rfl | rfl <;> first | exact (show kitB _ _ = some (_ == _) from by decide +kernel) | exact (show kitB _ _ = some (_ == _ || _ == _) from by decide +kernel)⟩
  | str x => exact ⟨"str", by rw [h.str]; exact .base (.str x), fun n hn => by rcases hn with rfl | rfl | rfl | rfl | rfl <;> first | exact (show kitB _ _ = some (_ == _) from by decide +kernel) | exact (show kitB _ _ = some (_ == _ || _ == _) from by decide +kernel)⟩
  | list xs =>
    obtain ⟨p, vs, rfl, hs, _⟩ := h.list s
    exact ⟨"list", seq hs, fun n hn => by rcases hn with rfl | rfl | rfl | rfl | rfl <;> first | exact (show kitB _ _ = some (_ == _) from by decide +kernel) | exact (show kitB _ _ = some (_ == _ || _ == _) from by decide +kernel)⟩
  | tuple xs =>
    obtain ⟨p, vs, rfl, _, hs, _⟩ := h.tup s
    exact ⟨"tuple", tup hs, fun n hn => by rcases hn with rfl | rfl | rfl | rfl | rfl <;> first | exact (show kitB _ _ = some (_ == _) from by decide +kernel) | exact (show kitB _ _ = some (_ == _ || _ == _) from by decide +kernel)⟩
  | dict kvs =>
    rcases h with h | ⟨es, p, vs, e, _⟩
    · cases h with
      | emp h => exact ⟨"dict", .base (.dT (s _ _ h)), fun n hn => by rcases hn with rfl | rfl | rfl | rfl | rfl <;> first | exact (show kitB _ _ = some (_ == _) from by decide +kernel) | exact (show kitB _ _ = some (_ == _ || _ == _) from by decide +kernel)⟩
    · cases e
end
end AW

/-! AwEnum: enumerate of a tuple. -/
namespace AW
open PySem PySem.Spec PyProof.Rows L2

theorem meets_enumerate_newT (l : Addr) (items : Array Value) :
    Meets (Builtin.«enumerate.__new__» ⟨[.type "enumerate", .ref l], []⟩) (fun _ R s => s.heap.IsTuple l items ∧
      R (.ok (.ret (.ref (s.heap.push { cls := .type "tuple_iterator", data := .fields #[.ref l, .int 0 0] }).objs.size)))
        { s with heap := (s.heap.push { cls := .type "tuple_iterator", data := .fields #[.ref l, .int 0 0] }).push { cls := .type "enumerate", data := .fields #[.none, .bool false, .ref s.heap.objs.size, rawInt 0, .none, .none] } }) :=
  .of_wp fun prog w A R s h => by
    obtain ⟨hp, g, d, tk, os⟩ := s; obtain ⟨h1, h⟩ := h
    have hsub := sub_enumerate
    have q1 : ∀ {A' : Around} {E : Value → Shared → Prop} {Q : Value → Shared → Prop}, Q (.ref hp.objs.size) ⟨hp.push { cls := .type "tuple_iterator", data := .fields #[.ref l, .int 0 0] }, g, d, tk, os⟩ → wpAny (model prog w) A' (pyIter (.ref l)) Q E ⟨hp, g, d, tk, os⟩ :=
      fun q => wpAny_pyIter_tuple h1 q
    obtain ⟨o, ho, _⟩ := id h1
    wp_walk using AutoSeq1.wpAny_loadPart' ho
    refine wpAny_stack_any fun st => wpAny_pure ?_
    split
    · rename_i c _ _ _ _ _
      cases (c == Value.type "enumerate")
      · wp_walk using AutoSeq1.wpAny_loadPart' ho, q1
        exact ⟨_, rfl, h⟩
      · wp_walk using AutoSeq1.wpAny_loadPart' ho, q1
        exact ⟨_, rfl, h⟩
    · wp_walk using AutoSeq1.wpAny_loadPart' ho, q1
      exact ⟨_, rfl, h⟩
theorem call_enumerate_tuple {prog : Program} {w : World} {A : Around} {E : Value → Shared → Prop} {s : Shared} {l : Addr} {items : Array Value} {Q : Value → Shared → Prop} (hL : s.heap.IsTuple l items)
    (h : ∀ h', IsEnum h' (s.heap.objs.size + 1) s.heap.objs.size 0 .none → h'.IsTupleIter s.heap.objs.size l 0 → h'.objs.size = s.heap.objs.size + 2 →
      (∀ b o, s.heap.get? b = some o → h'.get? b = some o) → Q (.ref (s.heap.objs.size + 1)) { s with heap := h' }) :
    wpAny (model prog w) A (call (.type "enumerate") [.ref l]) Q E s := by
  refine callType_new F.called_enumerate (by decide) (F.typeCall_enumerate_1 _) (F.newCall_enumerate_1 _) (fun obj => F.args_object_init_2 obj _) F.entry_enumerate_new
    (meets_enumerate_newT l items) ⟨hL, ?_⟩
  have hz : (s.heap.push { cls := .type "tuple_iterator", data := .fields #[.ref l, .int 0 0] }).objs.size = s.heap.objs.size + 1 := Heap.size_push ..
  show _ ∧ _
  rw [hz]
  have he : IsEnum ((s.heap.push { cls := .type "tuple_iterator", data := .fields #[.ref l, .int 0 0] }).push
      { cls := .type "enumerate", data := .fields #[.none, .bool false, .ref s.heap.objs.size, rawInt 0, .none, .none] }) (s.heap.objs.size + 1) s.heap.objs.size 0 .none := by
    have := Heap.get?_push_size (s.heap.push { cls := .type "tuple_iterator", data := .fields #[.ref l, .int 0 0] })
      (o := { cls := .type "enumerate", data := .fields #[.none, .bool false, .ref s.heap.objs.size, rawInt 0, .none, .none] }) rfl
    rw [hz] at this; exact this
  refine ⟨⟨_, he, rfl⟩, h _ he ⟨_, Heap.get?_push_of_some _ (Heap.get?_push_size _ rfl), rfl, rfl⟩ (by rw [Heap.size_push, hz]) fun b o x => Heap.get?_push_of_some _ (Heap.get?_push_of_some _ x)⟩

/-- the tuple at a as it stands at each turn, each item in a new pair -/
def IteT (K : PySem.W.Frag) (a : Addr) : L2.It :=
  ⟨fun i H => ∃ (xs : List V) (x : V), SqT K H a xs ∧ xs[i]? = some x, fun i H v H' => ∃ T x, v = .ref T ∧ H T = none ∧ H' = upd H T (.tup [.int (i : Nat), x]) ∧ ∀ xs, SqT K H a xs → xs[i]? = some x, fun i H => ∃ xs : List V, SqT K H a xs ∧ xs.length = i⟩
theorem turn_enumT {P : Program} {w : World} {K : PySem.W.Frag} {elts : List Expr} {kk : Nat} {tpos : Pos} (a e it : Addr) :
    Turn P w K (.Tuple elts kk tpos) (IteT K a) [e, it] e (fun i h => (∃ old, IsEnum h e it ((i : Nat) : Int) old) ∧ h.IsTupleIter it a i ∧ e ≠ it) where
  mem := by simp
  obj := fun i h st b hb => by
    obtain ⟨⟨old, he⟩, ⟨o, ho, hc, hd⟩, _⟩ := st
    have e' : b = e ∨ b = it := by simpa using hb
    rcases e' with z | z
    · rw [z]; exact ⟨_, he, fun v q => nomatch q⟩
    · rw [z]; exact ⟨o, ho, fun v q => by rw [hd] at q; cases q⟩
  keep := fun i h h' st k => let ⟨⟨old, he⟩, hi, hne⟩ := st; ⟨⟨old, k e (by simp) _ he⟩, hi.at fun o q => k it (by simp) o q, hne⟩
  item := by
    intro X hP hw hK hc i pins s σ H E I hf st hg
    subst hP hw hK
    obtain ⟨⟨old, he⟩, hit, hne⟩ := st
    obtain ⟨xs, x, hq, hx⟩ := hg
    obtain ⟨its, rv, p, hz⟩ := I.tuple hq
    obtain ⟨u, hu, ru⟩ := rv.get hx
    have hel : e < s.heap.objs.size := Heap.lt_size he
    have hil : it < s.heap.objs.size := by obtain ⟨_, q, _⟩ := hit; exact Heap.lt_size q
    have hae : a ≠ e := fun z => by
      obtain ⟨o, ho, hcl, _⟩ := p
      rw [z, he] at ho
      cases ho
      have hcl' : Value.type "enumerate" = Value.type "tuple" := hcl
      injection hcl' with q
      exact absurd q (by decide)
    have hai : a ≠ it := fun z => by
      obtain ⟨o, ho, hcl, _⟩ := p
      obtain ⟨o', ho', hcl', _⟩ := hit
      rw [z, ho'] at ho
      cases ho
      rw [hcl] at hcl'
      exact absurd hcl' (by decide)
    have hlt : i < its.toArray.size := by
      obtain ⟨hl, _⟩ := List.getElem?_eq_some_iff.mp hu
      simpa using hl
    have D : Draws X.prog X.w X.A.in1 it [it, a] its.toArray.size (fun i v => its.toArray[i]? = some v) (fun i h => h.IsTupleIter it a i ∧ h.IsTuple a its.toArray) := Draws.tuple (A := X.A.in1) (show X.A.in1.handled = none from I.ok.hd hc) it a hai its.toArray
    refine wpAny_pyNext_enum_itemD D he ⟨hit, p⟩ hlt hne (by simp [hne, Ne.symm hae]) fun y h' tk hy ho hst' hT hsz hk => ?_
    have ey : y = u := by
      have h1 : its[i]? = some y := by simpa using hy
      rw [hu] at h1
      exact (Option.some.inj h1).symm
    subst ey
    refine ⟨_, rfl, wpAny_letOwnedTupleGo_enum (s := { s with heap := h', toks := tk + 1 }) ho fun h'' he' sb => ?_⟩
    have hT2 : h''.get? s.heap.objs.size = some { cls := .type "tuple", data := .seq #[.int i tk, y] } := (sb.2 _ (Nat.ne_of_gt hel)).trans hT
    have new : ObjOk X.prog X.w (upd H s.heap.objs.size (.tup [.int (i : Nat), x])) h'' s.heap.objs.size (.tup [.int (i : Nat), x]) :=
      ⟨by show 2 ≤ sizeLine; decide, [.int i tk, y], .cons ⟨_, rfl⟩ (.cons ru .nil), ⟨_, hT2, rfl, _, rfl⟩⟩
    have I1 : Inv X pins σ (upd H s.heap.objs.size (.tup [.int (i : Nat), x])) { s with heap := h'', toks := tk + 1 } :=
      I.turnedNew (ch := [e, it]) (fun b ob hb q => (sb.2 b (fun z => hb (by simp [z]))).trans (hk b ob (fun z => hb (by simp [z])) (fun z => hb (by simp [z])) q)) hf (Nat.le_refl _) new
    refine ⟨.ref s.heap.objs.size, _, I1, rfl, ⟨_, x, rfl, I.hok.fresh (Nat.le_refl _), rfl, fun ys hy => by rw [I.tuple_inj hy hq]; exact hx⟩, ⟨⟨y, ?_⟩, hst'.1.at fun o q => (sb.2 it (Ne.symm hne)).trans q, hne⟩, fun b hb => ?_⟩
    · have e1 : ((i + 1 : Nat) : Int) = (i : Int) + 1 := by omega
      rw [e1]; exact he'
    · have hb' : b < s.heap.objs.size := by
        have e' : b = e ∨ b = it := by simpa using hb
        rcases e' with z | z
        · rw [z]; exact hel
        · rw [z]; exact hil
      rw [upd_ne (Nat.ne_of_lt hb')]
      exact (hf b hb).1
  done := by
    intro X hP hw hK hc i pins s σ H E I hf st hg
    subst hP hw hK
    obtain ⟨⟨old, he⟩, hit, hne⟩ := st
    obtain ⟨xs, hq, hx⟩ := hg
    obtain ⟨its, rv, p, hz⟩ := I.tuple hq
    obtain ⟨f0, f1, f2, f3, f4, f5⟩ := hf it (by simp)
    have hl := rv.length
    have hai : a ≠ it := fun z => by
      obtain ⟨o, ho, hcl, _⟩ := p
      obtain ⟨o', ho', hcl', _⟩ := hit
      rw [z, ho'] at ho
      cases ho
      rw [hcl] at hcl'
      exact absurd hcl' (by decide)
    have D : Draws X.prog X.w X.A.in1 it [it, a] its.toArray.size (fun i v => its.toArray[i]? = some v) (fun i h => h.IsTupleIter it a i ∧ h.IsTuple a its.toArray) := Draws.tuple (A := X.A.in1) (show X.A.in1.handled = none from I.ok.hd hc) it a hai its.toArray
    have ei : i = its.toArray.size := by rw [List.size_toArray, ← hl, hx]
    rw [ei] at hit
    exact wpAny_pyNext_enum_endD D he ⟨hit, p⟩ fun h' eb => ⟨rfl, I.turned (t' := s.toks) (fun b o hb q => eb b o hb q) f0 f1 f3 f4 f5⟩
  self := fun A i s Q E st h => let ⟨⟨_, he⟩, _⟩ := st; wpAny_pyIter_enum he h
def iEnumT (K : PySem.W.Frag) (ta : TA) : TI := fun σ H R => ta σ H fun vs H1 => ∃ a xs, vs = [.ref a] ∧ SqT K H1 a xs ∧ R (IteT K a) H1
theorem pi_enumT {X : Cx} {e : Expr} {ta : TA} {p pos tpos : Pos} {elts : List Expr} {kk : Nat} (hg : Gl X "enumerate") (hm : X.mg "enumerate" = none) (ha : PA X [e] ta) (hs : starEach [e] X.env = [(false, eval e X.env)]) :
    PI X (.Tuple elts kk tpos) (.Call (.Name "enumerate" p) [e] [] pos) (iEnumT X.K ta) := by
  refine ⟨fun pins s σ H R I h => ?_⟩
  refine Call_ (ld_blt I hg hm boot_enumerate (PyProof.Rows.callWith_type1 (thn (ha.run pos pins s σ H _ I h) fun us s1 ⟨vs, H1, I1, r1, q1⟩ => ?_) hs rfl))
  obtain ⟨a, xs, ex, hq, q⟩ := q1
  subst ex
  cases r1 with
  | cons r rr =>
    cases rr
    cases r
    obtain ⟨its, rv, p', hz⟩ := I1.tuple hq
    refine call_enumerate_tuple (show s1.heap.IsTuple a its.toArray from p') fun h' he hit hsz hk => wpAny_pyIter_enum he ?_
    have I2 : Inv X pins σ H1 { s1 with heap := h' } := I1.kept (t' := s1.toks) hk
    refine ⟨s1.heap.objs.size + 1, [s1.heap.objs.size + 1, s1.heap.objs.size], _, _, H1, rfl, I2, turn_enumT a (s1.heap.objs.size + 1) s1.heap.objs.size, ⟨⟨.none, he⟩, hit, Nat.succ_ne_self _⟩, fun b hb => ?_, q⟩
    have e' : b = s1.heap.objs.size + 1 ∨ b = s1.heap.objs.size := by simpa using hb
    have hle : s1.heap.objs.size ≤ b := by
      rcases e' with z | z
      · rw [z]; exact Nat.le_add_right _ _
      · rw [z]; exact Nat.le_refl _
    exact I1.fpOk hle (I1.hok.fresh hle)
end AW

/-! AwSnd4: what is walked. -/
namespace AW
open PySem PySem.Spec PyProof.Rows L2

section
variable {K : PySem.W.Frag} {f : Hp} {a b : Addr} {vs us : List V} {ds es : List D}
theorem all_at (ha : DpAll K f vs ds) {i : Nat} (hi : i < ds.length) : ∃ v, vs[i]? = some v ∧ ∃ d, ds[i]? = some d ∧ Dp K f v d := by
  obtain ⟨v, hv, hd⟩ := ha.get (List.getElem?_eq_getElem hi)
  exact ⟨v, hv, _, List.getElem?_eq_getElem hi, hd⟩
theorem wk_list (hs : SqL K f a vs) (ha : DpAll K f vs ds) : Wk K f (Itl K a) ds where
  go := fun i H sm hi => let ⟨v, hv, _⟩ := all_at ha hi; ⟨vs, v, sql_same sm hs, hv⟩
  stop := fun H sm => ⟨vs, sql_same sm hs, Nat.le_of_eq ha.length⟩
  yld := fun i H x H' hi sm y => by
    obtain ⟨rfl, y⟩ := y
    obtain ⟨d, hd, hx⟩ := ha.getV (y _ (sql_same sm hs))
    exact ⟨d, hd, fun fc s1 s2 => ⟨fc, Po.refl s2, dp_same s1 hx⟩⟩
theorem wk_tup (hs : SqT K f a vs) (ha : DpAll K f vs ds) : Wk K f (Itt K a) ds where
  go := fun i H sm hi => let ⟨v, hv, _⟩ := all_at ha hi; ⟨vs, v, sqt_same sm hs, hv⟩
  stop := fun H sm => ⟨vs, sqt_same sm hs, Nat.le_of_eq ha.length⟩
  yld := fun i H x H' hi sm y => by
    obtain ⟨rfl, y⟩ := y
    obtain ⟨d, hd, hx⟩ := ha.getV (y _ (sqt_same sm hs))
    exact ⟨d, hd, fun fc s1 s2 => ⟨fc, Po.refl s2, dp_same s1 hx⟩⟩
theorem rngD_len (lo : Int) (n : Nat) : (rngD lo n).length = n := by simp [rngD]
theorem rngD_at (lo : Int) {n i : Nat} (h : i < n) : (rngD lo n)[i]? = some (.int (lo + (i : Nat))) := by simp [rngD, h]
theorem wk_rng (lo : Int) (n : Nat) : Wk K f (Itr lo n) (rngD lo n) where
  go := fun i H _ hi => by rw [rngD_len] at hi; exact hi
  stop := fun H _ => by rw [rngD_len]; exact Nat.le_refl _
  yld := fun i H x H' hi sm y => by
    rw [rngD_len] at hi
    obtain ⟨rfl, rfl⟩ := y
    exact ⟨_, rngD_at lo hi, fun fc s1 s2 => ⟨fc, Po.refl s2, .int _⟩⟩
theorem wk_revL (hs : SqL K f a vs) (ha : DpAll K f vs ds) : Wk K f (Itv K a vs.length) ds.reverse where
  go := fun i H sm hi => by
    rw [List.length_reverse, ← ha.length] at hi
    exact ⟨hi, vs, vs[vs.length - 1 - i], sql_same sm hs, List.getElem?_eq_getElem (by omega)⟩
  stop := fun H sm => by
    show vs.length ≤ _
    rw [List.length_reverse, ha.length]; exact Nat.le_refl _
  yld := fun i H x H' hi sm y => by
    obtain ⟨rfl, y⟩ := y
    rw [List.length_reverse] at hi
    obtain ⟨d, hd, hx⟩ := ha.getV (y _ (sql_same sm hs))
    refine ⟨d, ?_, fun fc s1 s2 => ⟨fc, Po.refl s2, dp_same s1 hx⟩⟩
    rw [List.getElem?_reverse hi, ← ha.length]
    exact hd
theorem wk_revT (hs : SqT K f a vs) (ha : DpAll K f vs ds) : Wk K f (RT.ItvT K a vs.length) ds.reverse where
  go := fun i H sm hi => by
    rw [List.length_reverse, ← ha.length] at hi
    exact ⟨hi, vs, vs[vs.length - 1 - i], sqt_same sm hs, List.getElem?_eq_getElem (by omega)⟩
  stop := fun H sm => by
    show vs.length ≤ _
    rw [List.length_reverse, ha.length]; exact Nat.le_refl _
  yld := fun i H x H' hi sm y => by
    obtain ⟨rfl, y⟩ := y
    rw [List.length_reverse] at hi
    obtain ⟨d, hd, hx⟩ := ha.getV (y _ (sqt_same sm hs))
    refine ⟨d, ?_, fun fc s1 s2 => ⟨fc, Po.refl s2, dp_same s1 hx⟩⟩
    rw [List.getElem?_reverse hi, ← ha.length]
    exact hd
theorem wk_revr (b : Int) : Wk K f (Itc (0 + (((b - 0).toNat : Nat) : Int) - 1) (-1) (b - 0).toNat) (rngD 0 (b - 0).toNat).reverse where
  go := fun i H _ hi => by rw [List.length_reverse, rngD_len] at hi; exact hi
  stop := fun H _ => by rw [List.length_reverse, rngD_len]; exact Nat.le_refl _
  yld := fun i H x H' hi sm y => by
    rw [List.length_reverse, rngD_len] at hi
    obtain ⟨rfl, rfl⟩ := y
    refine ⟨_, ?_, fun fc s1 s2 => ⟨fc, Po.refl s2, .int _⟩⟩
    rw [List.getElem?_reverse (by rw [rngD_len]; exact hi), rngD_len, rngD_at 0 (by omega)]
    have e : (0 : Int) + (((b - 0).toNat - 1 - i : Nat) : Int) = 0 + (((b - 0).toNat : Nat) : Int) - 1 + (i : Nat) * (-1) := by omega
    rw [e]
theorem enumD_len (ds : List D) : (enumD ds).length = ds.length := by simp [enumD]
theorem enumD_at {ds : List D} {i : Nat} {d : D} (h : ds[i]? = some d) : (enumD ds)[i]? = some (.tuple [.int (i : Nat), d]) := by
  have hi : i < ds.length := (List.getElem?_eq_some_iff.mp h).1
  unfold enumD
  rw [List.getElem?_zipWith, h, List.getElem?_range hi]
theorem pair_new {H fc : Hp} {T : Addr} {x y : V} {d e : D} (s2 : Same fc H) (hT : H T = none) (hx : Dp K fc x d) (hy : Dp K fc y e) : ∃ f', Po fc H f' (upd H T (.tup [x, y])) ∧ Dp K f' (.ref T) (.tuple [d, e]) := by
  have sm : Same fc (upd fc T (.tup [x, y])) := fun a o h => by
    rw [upd_ne (ne_of_none (s2 _ _ h) hT)]; exact h
  exact ⟨_, (Po.refl s2).new hT, .tup (.inl (.inl upd_same)) (.cons (dp_same sm hx) (.cons (dp_same sm hy) .nil))⟩
theorem wk_enumL (hs : SqL K f a vs) (ha : DpAll K f vs ds) : Wk K f (Ite K a) (enumD ds) where
  go := fun i H sm hi => by
    rw [enumD_len] at hi
    obtain ⟨v, hv, _⟩ := all_at ha hi
    exact ⟨vs, v, sql_same sm hs, hv⟩
  stop := fun H sm => ⟨vs, sql_same sm hs, by rw [enumD_len, ha.length]; exact Nat.le_refl _⟩
  yld := fun i H x H' hi sm y => by
    obtain ⟨T, x', rfl, hT, rfl, y⟩ := y
    obtain ⟨d, hd, hx⟩ := ha.getV (y _ (sql_same sm hs))
    exact ⟨_, enumD_at hd, fun fc s1 s2 => pair_new s2 hT (.int _) (dp_same s1 hx)⟩
theorem wk_enumT (hs : SqT K f a vs) (ha : DpAll K f vs ds) : Wk K f (IteT K a) (enumD ds) where
  go := fun i H sm hi => by
    rw [enumD_len] at hi
    obtain ⟨v, hv, _⟩ := all_at ha hi
    exact ⟨vs, v, sqt_same sm hs, hv⟩
  stop := fun H sm => ⟨vs, sqt_same sm hs, by rw [enumD_len, ha.length]⟩
  yld := fun i H x H' hi sm y => by
    obtain ⟨T, x', rfl, hT, rfl, y⟩ := y
    obtain ⟨d, hd, hx⟩ := ha.getV (y _ (sqt_same sm hs))
    exact ⟨_, enumD_at hd, fun fc s1 s2 => pair_new s2 hT (.int _) (dp_same s1 hx)⟩
theorem zipD_at {ds es : List D} {i : Nat} {d e : D} (h : ds[i]? = some d) (h2 : es[i]? = some e) : (zipD ds es)[i]? = some (.tuple [d, e]) := by
  unfold zipD
  rw [List.getElem?_zipWith, h, h2]
theorem zipD_len (ds es : List D) : (zipD ds es).length = min ds.length es.length := by simp [zipD]
theorem wk_zipL (hs : SqL K f a vs) (ha : DpAll K f vs ds) (ht : SqL K f b us) (hb : DpAll K f us es) : Wk K f (Itz K a b) (zipD ds es) where
  go := fun i H sm hi => by
    rw [zipD_len] at hi
    obtain ⟨v, hv, _⟩ := all_at ha (i := i) (by omega)
    obtain ⟨u, hu, _⟩ := all_at hb (i := i) (by omega)
    exact ⟨vs, us, v, u, sql_same sm hs, sql_same sm ht, hv, hu⟩
  stop := fun H sm => ⟨vs, us, sql_same sm hs, sql_same sm ht, by rw [zipD_len, ha.length, hb.length]; omega⟩
  yld := fun i H x H' hi sm y => by
    obtain ⟨T, x', y', rfl, hT, rfl, y1, y2⟩ := y
    obtain ⟨d, hd, hx⟩ := ha.getV (y1 _ (sql_same sm hs))
    obtain ⟨e, he, hy⟩ := hb.getV (y2 _ (sql_same sm ht))
    exact ⟨_, zipD_at hd he, fun fc s1 s2 => pair_new s2 hT (dp_same s1 hx) (dp_same s1 hy)⟩
theorem wk_zipT (hs : SqT K f a vs) (ha : DpAll K f vs ds) (ht : SqT K f b us) (hb : DpAll K f us es) : Wk K f (RZ.ItzT K a b) (zipD ds es) where
  go := fun i H sm hi => by
    rw [zipD_len] at hi
    obtain ⟨v, hv, _⟩ := all_at ha (i := i) (by omega)
    obtain ⟨u, hu, _⟩ := all_at hb (i := i) (by omega)
    exact ⟨vs, us, v, u, sqt_same sm hs, sqt_same sm ht, hv, hu⟩
  stop := fun H sm => ⟨vs, us, sqt_same sm hs, sqt_same sm ht, by rw [zipD_len, ha.length, hb.length]; omega⟩
  yld := fun i H x H' hi sm y => by
    obtain ⟨T, x', y', rfl, hT, rfl, y1, y2⟩ := y
    obtain ⟨d, hd, hx⟩ := ha.getV (y1 _ (sqt_same sm hs))
    obtain ⟨e, he, hy⟩ := hb.getV (y2 _ (sqt_same sm ht))
    exact ⟨_, zipD_at hd he, fun fc s1 s2 => pair_new s2 hT (dp_same s1 hx) (dp_same s1 hy)⟩
end

section
variable {L : Lk} {N : List Str} {sc : Nms} {W : WX} {X : Cx} {K : PySem.W.Frag}
theorem seqR_cases {d : D} {xs : List D} (e : seqR d = .ok xs) : d = .list xs ∨ d = .tuple xs := by
  cases d <;> first
    | (cases e; exact .inl rfl)
    | (cases e; exact .inr rfl)
    | cases e
theorem intR_cases {d : D} {i : Int} (e : intR d = .ok i) : d = .int i := by cases d <;> cases e; rfl
/-- a list or a tuple, settled -/
theorem seq_of {f' H' : Hp} {v : V} {d : D} {xs : List D} (e : seqR d = .ok xs) (h : Dp K f' v d) : ∃ a vs, v = .ref a ∧ DpAll K f' vs xs ∧ (SqL K f' a vs ∨ SqT K f' a vs) := by
  rcases seqR_cases e with rfl | rfl
  · cases h with
    | lst h a => exact ⟨_, _, rfl, a, .inl h⟩
  · cases h with
    | tup h a => exact ⟨_, _, rfl, a, .inr h⟩
theorem impI_seq {x : E} {σ H Rr} (h : dI L K W (.seq x) σ H Rr) : iList K (dV L K W x) σ H Rr ∨ iTup K (dV L K W x) σ H Rr := by
  obtain ⟨f0, H0, f, en, m, ot⟩ := h
  have o1 := Out.bind (show Out L.cls W σ f H ((L.ev x en).bind fun p => seqR p.1) _ from ot)
  cases e : L.ev x en with
  | no => rw [e] at o1; exact o1.elim
  | ex k =>
    rw [e] at o1
    exact .inl ⟨f0, H0, f, en, m, by rw [e]; exact o1⟩
  | ok p =>
    rw [e] at o1
    have o2 : Out L.cls W σ f H (seqR p.1) _ := o1
    obtain ⟨xs, e1, k⟩ := o2.okk (seqR_noex _)
    rcases seqR_cases e1 with z | z
    · refine .inl ⟨f0, H0, f, en, m, ?_⟩
      rw [e]
      intro v f' H' q hv
      obtain ⟨f2, q2, hv2⟩ := hv.settle q
      rw [z] at hv2
      cases hv2 with
      | lst hs ha => exact ⟨_, rfl, ⟨_, sql_same q2.sub hs⟩, k _ f2 H' q2 (wk_list hs ha)⟩
    · refine .inr ⟨f0, H0, f, en, m, ?_⟩
      rw [e]
      intro v f' H' q hv
      obtain ⟨f2, q2, hv2⟩ := hv.settle q
      rw [z] at hv2
      cases hv2 with
      | tup hs ha => exact ⟨_, rfl, ⟨_, sqt_same q2.sub hs⟩, k _ f2 H' q2 (wk_tup hs ha)⟩
theorem small_ok {i : Int} (h : small i = true) : -(2 ^ 62) ≤ i ∧ i < 2 ^ 62 := by
  have h1 : i.natAbs.log2 ≤ 61 := Nat.le_of_ble_eq_true h
  have p : (2 : Nat) ^ 62 = 4611686018427387904 := by decide
  have p' : (2 : Int) ^ 62 = 4611686018427387904 := by rfl
  have h2 : i.natAbs < 2 ^ 62 := by
    by_cases h0 : i.natAbs = 0
    · rw [h0]; decide
    · exact (Nat.log2_lt h0).mp (by omega)
  rw [p']
  omega
theorem rngR_ok {i j : Int} {ds : List D} (e : rngR i j = .ok ds) : small i = true ∧ small j = true ∧ ds = rngD i (j - i).toNat := by
  unfold rngR at e
  cases h1 : small i with
  | false => rw [h1] at e; cases e
  | true => cases h2 : small j with
    | false => rw [h1, h2] at e; cases e
    | true => rw [h1, h2] at e; cases e; exact ⟨rfl, rfl, rfl⟩
theorem impI_rng1 {x : E} {σ H Rr} (h : dI L K W (.rng1 x) σ H Rr) : iRng1 (tCons (dV L K W x) tNil) σ H Rr := by
  obtain ⟨f0, H0, f, en, m, ot⟩ := h
  have o1 := Out.bind (show Out L.cls W σ f H ((L.ev x en).bind fun p => (intR p.1).bind fun j => rngR 0 j) _ from ot)
  refine ⟨f0, H0, f, en, m, o1.imp (Po.refl m.po.sub) fun p _ h1 v f1 H1 q1 hv => ?_⟩
  obtain ⟨j, e, h2⟩ := h1.bind.okk (intR_noex _)
  obtain ⟨ds, e2, k⟩ := h2.okk (rngR_noex _ _)
  obtain ⟨s1, s2, rfl⟩ := rngR_ok e2
  have hr := hv.read
  rw [intR_cases e] at hr
  have hs := small_ok s2
  have ew := wk_rng (K := K) (f := f1) 0 (j - 0).toNat
  rw [show j - 0 = j by omega] at k ew
  exact ⟨j, by rw [hr.int], hs.1, hs.2, k _ f1 H1 q1 ew⟩
theorem impI_rng2 {x y : E} {σ H Rr} (h : dI L K W (.rng2 x y) σ H Rr) : iRng2 (tCons (dV L K W x) (tCons (dV L K W y) tNil)) σ H Rr := by
  obtain ⟨f0, H0, f, en, m, ot⟩ := h
  have o1 := Out.bind (show Out L.cls W σ f H ((L.ev x en).bind fun p => (L.ev y en).bind fun r => (intR p.1).bind fun i => (intR r.1).bind fun j => rngR i j) _ from ot)
  refine ⟨f0, H0, f, en, m, o1.imp (Po.refl m.po.sub) fun p _ h1 v f1 H1 q1 hv => ?_⟩
  refine ⟨f0, H0, f1, en, m.mono q1, h1.bind.imp q1 fun r _ h2 u f2 H2 q2 hu => ?_⟩
  obtain ⟨i, e, h3⟩ := h2.bind.okk (intR_noex _)
  obtain ⟨j, e', h4⟩ := h3.bind.okk (intR_noex _)
  obtain ⟨ds, e2, k⟩ := h4.okk (rngR_noex _ _)
  obtain ⟨s1, s2, rfl⟩ := rngR_ok e2
  have hr := hv.read
  rw [intR_cases e] at hr
  have hr2 := hu.read
  rw [intR_cases e'] at hr2
  have hs := small_ok s2
  have hs1 := small_ok s1
  exact ⟨i, j, by rw [hr.int, hr2.int], ⟨hs1.1, hs1.2, hs.1, hs.2⟩, k _ f2 H2 (q1.trans q2) (wk_rng i (j - i).toNat)⟩
theorem wk_rng3 {f : Hp} (lo c : Int) (n : Nat) : Wk K f (Itc lo c n) (rngD3 lo c n) := by
  have hl : (rngD3 lo c n).length = n := by unfold rngD3; simp
  refine ⟨fun i H _ h => by rw [hl] at h; exact h, fun H _ => by rw [hl]; exact Nat.le_refl _, fun i H x H' h s y => ?_⟩
  rw [hl] at h
  obtain ⟨e1, e2⟩ := y
  subst e1; subst e2
  refine ⟨.int (lo + (i : Nat) * c), by unfold rngD3; simp [h], fun fc s1 s2 => ⟨fc, Po.refl s2, .int _⟩⟩
theorem rngR3_ok {i j c : Int} {ds : List D} (e : rngR3 i j c = .ok ds) : ∃ n, RgC i j c n ∧ ds = rngD3 i c n := by
  unfold rngR3 at e
  by_cases h : c ≠ 0 ∧ c.natAbs < 1073741824 ∧ Builtin.Range.small i j c = true ∧ 0 ≤ Builtin.Range.rangeSize i j c
  · rw [if_pos h] at e
    cases e
    exact ⟨_, ⟨h.1, h.2.1, h.2.2.1, (Int.toNat_of_nonneg h.2.2.2).symm⟩, rfl⟩
  · rw [if_neg h] at e; cases e
theorem rngR3_noex (i j c : Int) (k : Nat) : rngR3 i j c ≠ .ex k := ite_noex ok_noex no_noex k
theorem impI_rng3 {x y z : E} {σ H Rr} (h : dI L K W (.rng3 x y z) σ H Rr) : iRng3 (tCons (dV L K W x) (tCons (dV L K W y) (tCons (dV L K W z) tNil))) σ H Rr := by
  obtain ⟨f0, H0, f, en, m, ot⟩ := h
  have o1 := Out.bind (show Out L.cls W σ f H ((L.ev x en).bind fun p => (L.ev y en).bind fun r => (L.ev z en).bind fun w => (intR p.1).bind fun i => (intR r.1).bind fun j => (intR w.1).bind fun k => rngR3 i j k) _ from ot)
  refine ⟨f0, H0, f, en, m, o1.imp (Po.refl m.po.sub) fun p _ h1 v f1 H1 q1 hv => ?_⟩
  refine ⟨f0, H0, f1, en, m.mono q1, h1.bind.imp q1 fun r _ h2 u f2 H2 q2 hu => ?_⟩
  refine ⟨f0, H0, f2, en, (m.mono q1).mono q2, h2.bind.imp (q1.trans q2) fun w _ h3 u3 f3 H3 q3 hu3 => ?_⟩
  obtain ⟨i, e, h4⟩ := h3.bind.okk (intR_noex _)
  obtain ⟨j, e', h5⟩ := h4.bind.okk (intR_noex _)
  obtain ⟨k, e'', h6⟩ := h5.bind.okk (intR_noex _)
  obtain ⟨ds, e2, kk⟩ := h6.okk (rngR3_noex _ _ _)
  obtain ⟨n, hn, rfl⟩ := rngR3_ok e2
  have hr := hv.read
  rw [intR_cases e] at hr
  have hr2 := hu.read
  rw [intR_cases e'] at hr2
  have hr3 := hu3.read
  rw [intR_cases e''] at hr3
  exact ⟨i, j, k, n, by rw [hr.int, hr2.int, hr3.int], hn, kk _ f3 H3 ((q1.trans q2).trans q3) (wk_rng3 i k n)⟩
theorem impI_rev {x : E} {σ H Rr} (h : dI L K W (.rev x) σ H Rr) : RT.iRevA K (dV L K W x) σ H Rr := by
  obtain ⟨f0, H0, f, en, m, ot⟩ := h
  have o1 := Out.bind (show Out L.cls W σ f H ((L.ev x en).bind fun p => (seqR p.1).bind fun xs => R.ok xs.reverse) _ from ot)
  refine ⟨f0, H0, f, en, m, o1.imp (Po.refl m.po.sub) fun p _ h1 v f1 H1 q1 hv => ?_⟩
  obtain ⟨xs, e, k⟩ := h1.bind.okk (seqR_noex _)
  obtain ⟨f2, q2, hv2⟩ := hv.settle q1
  obtain ⟨a, vs, rfl, ha, hs | hs⟩ := seq_of (H' := H1) e hv2
  · exact ⟨a, vs, rfl, .inl ⟨sql_same q2.sub hs, k _ f2 H1 q2 (wk_revL hs ha)⟩⟩
  · exact ⟨a, vs, rfl, .inr ⟨sqt_same q2.sub hs, k _ f2 H1 q2 (wk_revT hs ha)⟩⟩
theorem impI_revr {x : E} {σ H Rr} (h : dI L K W (.revr x) σ H Rr) : iRevR (tRg1 (dV L K W x)) σ H Rr := by
  obtain ⟨f0, H0, f, en, m, ot⟩ := h
  have o1 := Out.bind (show Out L.cls W σ f H ((L.ev x en).bind fun p => (intR p.1).bind fun j => (rngR 0 j).bind fun xs => R.ok xs.reverse) _ from ot)
  refine ⟨f0, H0, f, en, m, o1.imp (Po.refl m.po.sub) fun p _ h1 v f1 H1 q1 hv => ?_⟩
  obtain ⟨j, e, h2⟩ := h1.bind.okk (intR_noex _)
  obtain ⟨ds, e2, k⟩ := h2.bind.okk (rngR_noex _ _)
  obtain ⟨s1, s2, rfl⟩ := rngR_ok e2
  have hr := hv.read
  rw [intR_cases e] at hr
  have hs := small_ok s2
  exact ⟨j, hr.int, by decide, by decide, hs.1, hs.2, k _ f1 H1 q1 (wk_revr j)⟩
theorem impI_enum {x : E} {σ H Rr} (h : dI L K W (.enum x) σ H Rr) : iEnum K (tCons (dV L K W x) tNil) σ H Rr ∨ iEnumT K (tCons (dV L K W x) tNil) σ H Rr := by
  obtain ⟨f0, H0, f, en, m, ot⟩ := h
  have o1 := Out.bind (show Out L.cls W σ f H ((L.ev x en).bind fun p => (seqR p.1).bind fun xs => R.ok (enumD xs)) _ from ot)
  cases e : L.ev x en with
  | no => rw [e] at o1; exact o1.elim
  | ex k =>
    rw [e] at o1
    exact .inl ⟨f0, H0, f, en, m, by rw [e]; exact o1⟩
  | ok p =>
    rw [e] at o1
    have o2 : Out L.cls W σ f H ((seqR p.1).bind fun xs => R.ok (enumD xs)) _ := o1
    obtain ⟨xs, e1, k⟩ := o2.bind.okk (seqR_noex _)
    rcases seqR_cases e1 with z | z
    · refine .inl ⟨f0, H0, f, en, m, ?_⟩
      rw [e]
      intro v f' H' q hv
      obtain ⟨f2, q2, hv2⟩ := hv.settle q
      rw [z] at hv2
      cases hv2 with
      | lst hs ha => exact ⟨_, _, rfl, sql_same q2.sub hs, k _ f2 H' q2 (wk_enumL hs ha)⟩
    · refine .inr ⟨f0, H0, f, en, m, ?_⟩
      rw [e]
      intro v f' H' q hv
      obtain ⟨f2, q2, hv2⟩ := hv.settle q
      rw [z] at hv2
      cases hv2 with
      | tup hs ha => exact ⟨_, _, rfl, sqt_same q2.sub hs, k _ f2 H' q2 (wk_enumT hs ha)⟩
theorem zipR_ok {a b : D} {ds : List D} (e : zipR a b = .ok ds) : (∃ xs ys, a = .list xs ∧ b = .list ys ∧ ds = zipD xs ys) ∨ ∃ xs ys, a = .tuple xs ∧ b = .tuple ys ∧ ds = zipD xs ys := by
  cases a <;> cases b <;> first
    | (cases e; exact .inl ⟨_, _, rfl, rfl, rfl⟩)
    | (cases e; exact .inr ⟨_, _, rfl, rfl, rfl⟩)
    | cases e
theorem impI_zip {x y : E} {σ H Rr} (h : dI L K W (.zip x y) σ H Rr) : RZ.iZipA K (tCons (dV L K W x) (tCons (dV L K W y) tNil)) σ H Rr := by
  obtain ⟨f0, H0, f, en, m, ot⟩ := h
  have o1 := Out.bind (show Out L.cls W σ f H ((L.ev x en).bind fun p => (L.ev y en).bind fun r => zipR p.1 r.1) _ from ot)
  refine ⟨f0, H0, f, en, m, o1.imp (Po.refl m.po.sub) fun p _ h1 v f1 H1 q1 hv => ?_⟩
  obtain ⟨f2, q2, hv2⟩ := hv.settle q1
  refine ⟨f0, H0, f2, en, m.mono q2, h1.bind.imp q2 fun r _ h2 u f3 H3 q3 hu => ?_⟩
  obtain ⟨f4, q4, hu2⟩ := hu.settle q3
  obtain ⟨ds, e, k⟩ := h2.okk (zipR_noex _ _)
  have hv3 := dp_same q4.sf hv2
  rcases zipR_ok e with ⟨xs, ys, z1, z2, rfl⟩ | ⟨xs, ys, z1, z2, rfl⟩
  · rw [z1] at hv3
    rw [z2] at hu2
    cases hv3 with
    | lst hs ha => cases hu2 with
      | lst ht hb => exact ⟨_, _, _, _, rfl, .inl ⟨sql_same q4.sub hs, sql_same q4.sub ht, k _ f4 H3 (q2.trans q4) (wk_zipL hs ha ht hb)⟩⟩
  · rw [z1] at hv3
    rw [z2] at hu2
    cases hv3 with
    | tup hs ha => cases hu2 with
      | tup ht hb => exact ⟨_, _, _, _, rfl, .inr ⟨sqt_same q4.sub hs, sqt_same q4.sub ht, k _ f4 H3 (q2.trans q4) (wk_zipT hs ha ht hb)⟩⟩
end
end AW

/-! AwSnd5: comprehensions, and all expressions. -/
namespace AW
open PySem PySem.Spec PyProof.Rows L2

theorem Po.upd {f H f' H' : Hp} (q : Po f H f' H') {p : Addr} {o : HO} (h1 : H p = none) (h2 : f' p = none) : Po f H f' (L2.upd H' p o) :=
  ⟨fun a x e => by rw [upd_ne (ne_of_none e h1)]; exact q.sH _ _ e, q.sf, fun a x e => by rw [upd_ne (ne_of_none e h2)]; exact q.sub _ _ e, q.gro⟩
theorem wipe_at (σ : L2.St) : ∀ (vs : List Nat) (i : Nat), (L2.wipe σ vs)[i]? = if i ∈ vs then (σ[i]?).map (fun _ => none) else σ[i]?
  | [], i => by rw [if_neg (by simp)]; rfl
  | v :: vs, i => by
    show ((L2.wipe σ vs).set v none)[i]? = _
    by_cases h : v = i
    · subst h
      rw [if_pos (by simp)]
      by_cases hl : v < σ.length
      · rw [List.getElem?_set_self (by rw [L2.wipe_length]; exact hl), List.getElem?_eq_getElem hl]; rfl
      · rw [List.getElem?_eq_none (by rw [List.length_set, L2.wipe_length]; omega), List.getElem?_eq_none (by omega)]; rfl
    · rw [List.getElem?_set_ne h, wipe_at σ vs i]
      by_cases hi : i ∈ vs
      · rw [if_pos hi, if_pos (List.mem_cons_of_mem _ hi)]
      · rw [if_neg hi, if_neg (by simp only [List.mem_cons, not_or]; exact ⟨Ne.symm h, hi⟩)]
theorem wipe_wipe (σ : L2.St) (vs : List Nat) : L2.wipe (L2.wipe σ vs) vs = L2.wipe σ vs := by
  refine List.ext_getElem? fun i => ?_
  rw [wipe_at, wipe_at]
  by_cases hi : i ∈ vs
  · rw [if_pos hi, if_pos hi]
    cases σ[i]? <;> rfl
  · rw [if_neg hi]
mutual
theorem bindT_noex : ∀ (tg : Tg) (d : D) (en : En) (k : Nat), bindT tg d en ≠ .ex k
  | .nm i, d, en, k => ok_noex k
  | .tp ts, .tuple ds, en, k => bindTs_noex ts ds en k
  | .tp ts, .list ds, en, k => bindTs_noex ts ds en k
  | .tp ts, .none, en, k => no_noex k
  | .tp ts, .bool _, en, k => no_noex k
  | .tp ts, .int _, en, k => no_noex k
  | .tp ts, .str _, en, k => no_noex k
  | .tp ts, .dict _, en, k => no_noex k
theorem bindTs_noex : ∀ (ts : Tgs) (ds : List D) (en : En) (k : Nat), bindTs ts ds en ≠ .ex k
  | .nil, [], en, k => ok_noex k
  | .nil, _ :: _, en, k => no_noex k
  | .cons t r, [], en, k => no_noex k
  | .cons t r, d :: ds, en, k => bind_noex (bindT_noex t d en) (fun e1 => bindTs_noex r ds e1) k
end
theorem nox_noex {α : Type} {r : R α} (k : Nat) : r.nox ≠ .ex k := by cases r <;> intro h <;> cases h
theorem compL_noex {F : D → R (Option D)} (h : ∀ d k, F d ≠ .ex k) : ∀ (ds : List D) (k : Nat), compL F ds ≠ .ex k
  | [], k => ok_noex k
  | d :: ds, k => bind_noex (h d) (fun o => bind_noex (compL_noex h ds) fun _ => ok_noex) k

section
variable {L : Lk} {N : List Str} {sc : Nms} {W : WX} {X : Cx} {K : PySem.W.Frag}
def dB (L : Lk) (K : PySem.W.Frag) (W : WX) : Eo → TT
  | .none => tYes
  | .some e => dT L K W e
theorem imp_cmp {elt : E} {tg : Tg} {it : It} {ifs : Eo} {own : List (Str × Nat)} (ht : ∀ i ∈ tgSlots tg, i ∈ own.map (·.2)) {σ H Q} (h : dV L K W (.cmp elt tg it ifs own) σ H Q) :
    tLc (dI L K W it) (gD K tg) (dB L K W0 ifs) (dV L K W0 elt) (own.map (·.2)) σ H Q := by
  obtain ⟨f0, H0, f, en, m, ot⟩ := h
  generalize hvs : own.map (·.2) = vs at ht ⊢
  have ot' : Out L.cls W σ f H ((evI L.G L.c (dflT L.T) it en).bind fun ds => (compL (fun d => (bindT tg d (wipe en (own.map (·.2)))).bind fun en' => (evB L.G L.c (dflT L.T) ifs en').nox.bind fun b =>
      if b then (L.ev elt en').nox.bind fun y => R.ok (some y.1) else .ok none) ds).bind fun ys => if ds.length ≤ line then R.ok (PyData.list ys, true) else .no) (Ac K f H Q) := ot
  rw [hvs] at ot'
  generalize hF : (fun d => (bindT tg d (wipe en vs)).bind fun en' => (evB L.G L.c (dflT L.T) ifs en').nox.bind fun b => if b then (L.ev elt en').nox.bind fun y => R.ok (some y.1) else .ok none) = F at ot'
  have hFx : ∀ d k, F d ≠ .ex k := fun d k => by
    rw [← hF]
    exact bind_noex (bindT_noex _ _ _) (fun en' => bind_noex (fun k => nox_noex k) fun b => ite_noex (bind_noex (fun k => nox_noex k) fun _ => ok_noex) ok_noex) k
  refine ⟨f0, H0, f, en, m, ot'.bind.imp (Po.refl m.po.sub) fun ds _ h1 J f1 H1 q1 wk D hD => ?_⟩
  obtain ⟨ys, ey, h2⟩ := h1.bind.okk (compL_noex hFx ds)
  have hz : ds.length ≤ line := by
    refine Classical.byContradiction fun hz => ?_
    rw [if_neg hz] at h2
    exact h2
  rw [if_pos hz] at h2
  have hlen : ∀ n, n < ds.length → n < sizeLine := fun n hn => by rw [← line_eq]; omega
  let St : Nat → Hp → Prop := fun i H' => i ≤ ds.length ∧ ∃ fi acc done rest, Po f1 H1 fi H' ∧ fi D = none ∧ H' D = some (.lst acc) ∧ DpAll K fi acc done ∧ compL F (ds.drop i) = .ok rest ∧ done ++ rest = ys ∧ done.length ≤ i
  refine ⟨fun i mm H' => mm = ds.length - i ∧ St i H', ⟨ds.length, rfl, Nat.zero_le _, f1, [], [], ys, q1.sub |> fun s => (Po.refl s).newH hD, q1.sub.free hD, upd_same, .nil, ey, rfl, Nat.le_refl _⟩, ?_⟩
  rintro i mm H' ⟨rfl, hi, fi, acc, done, rest, q2, fD, HD, hacc, hcomp, hys, hdl⟩
  have sm1 : Same f1 H' := q2.sf.trans q2.sub
  by_cases hlt : i < ds.length
  · refine .inr ⟨wk.go i H' sm1 hlt, St (i + 1), fun H'' hst => ⟨_, by omega, rfl, hst⟩, fun x H2 hy => ?_⟩
    obtain ⟨d, hd, hw⟩ := wk.yld i H' x H2 hlt sm1 hy
    obtain ⟨f2, q3, hx⟩ := hw fi q2.sf q2.sub
    have hdrop : ds.drop i = d :: ds.drop (i + 1) := by
      rw [List.drop_eq_getElem_cons hlt]
      have : ds[i] = d := by
        rw [List.getElem?_eq_getElem hlt] at hd
        exact Option.some.inj hd
      rw [this]
    rw [hdrop] at hcomp
    have hcomp' : (F d).bind (fun o => (compL F (ds.drop (i + 1))).bind fun ys => R.ok (consO o ys)) = .ok rest := hcomp
    obtain ⟨o, eo, hc2⟩ := R.of_bind hcomp'
    obtain ⟨rest', er, hc3⟩ := R.of_bind hc2
    have erest : rest = consO o rest' := by cases hc3; rfl
    rw [← hF] at eo
    obtain ⟨en', eb, eo2⟩ := R.of_bind eo
    obtain ⟨b, ebb, eo3⟩ := R.of_bind eo2
    have ebb := R.of_nox ebb
    have m2 := (m.mono (q1.trans (q2.trans q3))).wipes vs
    have HD2 : H2 D = some (.lst acc) := q3.sH _ _ HD
    have fD2 : f2 D = none := q3.loose fD HD
    refine ⟨f0, H0, f2, _, d, en', m2, hx, eb, fun σ' m' hwp => ⟨(hwp vs ht).trans (wipe_wipe σ vs), ?_⟩⟩
    -- behind the tests
    have core : ∀ f3 H3, Po f2 H2 f3 H3 → (if b = true then dV L K W0 elt σ' H3 fun y H4 => ∃ acc, H4 D = some (.lst acc) ∧ acc.length < sizeLine ∧ St (i + 1) (L2.upd H4 D (.lst (acc ++ [y]))) else St (i + 1) H3) := fun f3 H3 q4 => by
      have HD3 : H3 D = some (.lst acc) := q4.sH _ _ HD2
      have fD3 : f3 D = none := q4.loose fD2 HD2
      cases b with
      | true =>
        rw [if_pos rfl] at eo3 ⊢
        obtain ⟨p, ep, eo4⟩ := R.of_bind eo3
        have ep := R.of_nox ep
        refine ⟨f0, H0, f3, en', m'.mono q4, ?_⟩
        rw [ep]
        intro v f4 H4 q5 hv
        obtain ⟨f5, q6, hv2⟩ := hv.settle q5
        have fD5 : f5 D = none := q6.loose fD3 HD3
        have hal := hacc.length
        refine ⟨acc, q6.sH _ _ HD3, hlen _ (by omega), hlt, f5, acc ++ [v], done ++ [p.1], rest', ?_, fD5, upd_same, ?_, er, ?_, by rw [List.length_append, List.length_singleton]; omega⟩
        · exact (q2.trans (q3.trans (q4.trans q6))).upd hD fD5
        · exact (dpa_same ((q3.trans (q4.trans q6)).sf) hacc).append (.cons hv2 .nil)
        · cases eo4
          rw [List.append_assoc]
          rw [erest] at hys
          exact hys
      | false =>
        rw [if_neg Bool.false_ne_true] at eo3 ⊢
        cases eo3
        refine ⟨hlt, f3, acc, done, rest', q2.trans (q3.trans q4), fD3, HD3, dpa_same (q3.trans q4).sf hacc, er, ?_, by omega⟩
        rw [erest] at hys
        exact hys
    cases ifs with
    | none =>
      have ebb' : R.ok true = R.ok b := ebb
      cases ebb'
      exact core f2 H2 (Po.refl q3.sub)
    | some e =>
      refine ⟨f0, H0, f2, en', m', ?_⟩
      have ebb' : evT L.G L.c (dflT L.T) e en' = .ok b := ebb
      rw [ebb']
      exact fun f3 H3 q4 => core f3 H3 q4
  · have ei : i = ds.length := by omega
    subst ei
    refine .inl ⟨wk.stop H' sm1, ?_⟩
    rw [List.drop_length] at hcomp
    have : rest = [] := by cases hcomp; rfl
    subst this
    rw [List.append_nil] at hys
    subst hys
    exact h2 _ fi H' (q1.trans q2) ⟨done, D, acc, rfl, rfl, q1.sH.free hD, fD, HD, hacc⟩

/-! ### a comprehension's block -/
theorem blk_ok (xc : XC L N sc W X) {scope : Scope} {own : List (Str × Nat)} (h : blkOkB N sc scope own = true) : BlkOk X.N X.env.scope scope own := by
  unfold blkOkB at h
  simp only [Bool.and_eq_true, List.all_eq_true] at h
  obtain ⟨⟨⟨⟨h1, h2⟩, h3⟩, h4⟩, h5⟩ := h
  refine ⟨eq_of_beq h1, fun y hy => eq_of_beq (h2 y hy), fun p hp => by rw [xc.N]; exact eq_of_beq (h3 p hp), fun y hy e => ?_, fun y hy e => ?_⟩
  · have q := h4 y hy
    rw [e] at q
    simp only [Bool.or_eq_true] at q
    rcases q with (q | q) | q
    · cases q
    · exact .inl (xc.nm _ _ (eq_of_beq q)).1
    · exact xc.nm _ _ (eq_of_beq q)
  · have q := h5 y hy
    simp only [Bool.or_eq_true, Bool.not_eq_true'] at q
    rcases q with (q | q) | q
    · rcases e with e | e
      · rw [e] at q; cases q
      · rw [e] at q; cases q
    · obtain ⟨p, hp, ep⟩ := List.any_eq_true.mp q
      exact .inl (by rw [← eq_of_beq ep]; exact List.mem_map_of_mem hp)
    · right
      rw [xc.N]
      intro hm
      rw [List.contains_iff_mem.mpr hm] at q
      cases q
theorem XC.blk (xc : XC L N sc W X) {scope : Scope} {own : List (Str × Nat)} (h : blkOkB N sc scope own = true) (s : Shared) (H : Hp) (C : Addr) (cl : List (Str × Addr)) (fp : List Addr) :
    XC L N scope.names W0 (X.blk s H scope (compEnvC scope cl C X.env) fp) := by
  have bk := blk_ok xc h
  refine ⟨xc.lk, xc.N, xc.nd, ?_, fun x k hk => ?_, xc.calm, xc.room, takes0, xc.py⟩
  · show (relS scope X.env.scope).kind = .function
    exact bk.kind
  · have keep : k ≠ .free → (relS scope X.env.scope).names.lookup x = some k := fun hn => lookup_relS_keep hn hk
    have scp : (compEnvC scope cl C X.env).scope = relS scope X.env.scope := rfl
    cases k with
    | «local» => exact keep (by decide)
    | cell => exact ⟨keep (by decide), by show (scope.names.lookup x == some .cell) = true; rw [hk]; rfl⟩
    | free =>
      have hm : (x, NameKind.free) ∈ scope.names := PySem.mem_of_lookup hk
      have go : ∀ (ns : List (Str × NameKind)), ns.lookup x = some .free → (ns.map fun (n, k) => if (k == NameKind.free && X.env.scope.kind == .function && X.env.scope.names.lookup n == some .cell) then (n, NameKind.cell) else (n, k)).lookup x = some .cell ∨ (ns.map fun (n, k) => if (k == NameKind.free && X.env.scope.kind == .function && X.env.scope.names.lookup n == some .cell) then (n, NameKind.cell) else (n, k)).lookup x = some .free := by
        intro ns
        induction ns with
        | nil => intro h; cases h
        | cons p r ih =>
          obtain ⟨n, k₀⟩ := p
          intro h
          cases hx : (x == n) with
          | true =>
            simp only [List.lookup_cons, hx] at h
            cases h
            by_cases hc : (NameKind.free == NameKind.free && X.env.scope.kind == .function && X.env.scope.names.lookup n == some .cell) = true
            · left
              show List.lookup x ((if (NameKind.free == NameKind.free && X.env.scope.kind == .function && X.env.scope.names.lookup n == some .cell) = true then (n, NameKind.cell) else (n, NameKind.free)) :: _) = _
              rw [if_pos hc]
              simp only [List.lookup_cons, hx]
            · right
              show List.lookup x ((if (NameKind.free == NameKind.free && X.env.scope.kind == .function && X.env.scope.names.lookup n == some .cell) = true then (n, NameKind.cell) else (n, NameKind.free)) :: _) = _
              rw [if_neg hc]
              simp only [List.lookup_cons, hx]
          | false =>
            simp only [List.lookup_cons, hx] at h
            have q := ih h
            by_cases hc : (k₀ == NameKind.free && X.env.scope.kind == .function && X.env.scope.names.lookup n == some .cell) = true
            · show List.lookup x ((if (k₀ == NameKind.free && X.env.scope.kind == .function && X.env.scope.names.lookup n == some .cell) = true then (n, NameKind.cell) else (n, k₀)) :: _) = _ ∨ List.lookup x ((if (k₀ == NameKind.free && X.env.scope.kind == .function && X.env.scope.names.lookup n == some .cell) = true then (n, NameKind.cell) else (n, k₀)) :: _) = _
              rw [if_pos hc]
              simp only [List.lookup_cons, hx]
              exact q
            · show List.lookup x ((if (k₀ == NameKind.free && X.env.scope.kind == .function && X.env.scope.names.lookup n == some .cell) = true then (n, NameKind.cell) else (n, k₀)) :: _) = _ ∨ List.lookup x ((if (k₀ == NameKind.free && X.env.scope.kind == .function && X.env.scope.names.lookup n == some .cell) = true then (n, NameKind.cell) else (n, k₀)) :: _) = _
              rw [if_neg hc]
              simp only [List.lookup_cons, hx]
              exact q
      exact go scope.names hk
    | globalImplicit => exact keep (by decide)
    | _ => trivial
end
end AW

/-! AwSnd6: all expressions. -/
namespace AW
open PySem PySem.Spec PyProof.Rows L2

theorem and2 {a b : Bool} (h : (a && b) = true) : a = true ∧ b = true := Bool.and_eq_true_iff.mp h
section
variable {L : Lk}
theorem imp_var {K : PySem.W.Frag} {W : WX} {i : Nat} {σ H Q} (h : dV L K W (.var i) σ H Q) : tVar i σ H Q := by
  obtain ⟨f0, H0, f, en, m, ot⟩ := h
  have o1 : Out L.cls W σ f H ((val en i).bind v1) (Ac K f H Q) := ot
  unfold val at o1
  cases e : en[i]? with
  | none => rw [e] at o1; exact o1.elim
  | some s =>
    rw [e] at o1
    cases s with
    | va d =>
      obtain ⟨v, hv, hd⟩ := m.va e
      exact ⟨v, hv, Ac.here m.po.sub o1 hd⟩
    | un => exact o1.elim
    | ow ds => exact o1.elim
    | rd ds => exact o1.elim
    | er ds => exact o1.elim
    | fn ds => exact o1.elim
    | dk ds => exact o1.elim
theorem imp_con {K : PySem.W.Frag} {W : WX} {d : D} {v : V} (hv : ∀ f, Dp K f v d) {σ H Q} (h : dV L K W (.con d) σ H Q) : tC v σ H Q := by
  obtain ⟨f0, H0, f, en, m, ot⟩ := h
  exact Ac.here m.po.sub ot (hv f)
theorem imp_glb {K : PySem.W.Frag} {W : WX} {j : Nat} {v : V} (hv : ∀ f, Dp K f v (L.G j)) {σ H Q} (h : dV L K W (.glb j) σ H Q) : tC v σ H Q := by
  obtain ⟨f0, H0, f, en, m, ot⟩ := h
  exact Ac.here m.po.sub ot (hv f)
theorem rO1_call {K : PySem.W.Frag} {W : WX} {o : O1} {a : E} {σ H Q} (h : dV L K W (.op1 o a) σ H Q) : tCB (rB1 K o) (tCons (dR L K W a) tNil) σ H Q := by
  obtain ⟨f0, H0, f, en, m, ot⟩ := imp_op1 h
  exact ⟨f0, H0, f, en, m, ot.imp (Po.refl m.po.sub) fun d _ k v f' H' q hv => ⟨v, rfl, k v f' H' q hv⟩⟩
theorem rO2_call {K : PySem.W.Frag} {W : WX} {o : O2} {a b : E} {σ H Q} (h : dV L K W (.op2 o a b) σ H Q) : tCB (rB2 K o) (tCons (dR L K W a) (tCons (dR L K W b) tNil)) σ H Q := by
  obtain ⟨f0, H0, f, en, m, ot⟩ := imp_op2 h
  refine ⟨f0, H0, f, en, m, ot.imp (Po.refl m.po.sub) fun d _ k v f' H' q hv => ?_⟩
  obtain ⟨g0, G0, g, gen, gm, got⟩ := k v f' H' q hv
  exact ⟨g0, G0, g, gen, gm, got.imp (Po.refl gm.po.sub) fun d _ k u f'' H'' q' hu => ⟨v, u, rfl, k u f'' H'' q' hu⟩⟩
theorem plain_ix {r : Expr} (h : plainE r = true) : PlainIx r := by
  intro o i
  cases r <;> first
    | rfl
    | cases h
theorem call1_blt {N : List Str} {sc : Nms} {W : WX} {X : Cx} (xc : XC L N sc W X) {f : Str} {b : Expr} {p pos : Pos} {a : E} {o : O1} (hf : (o1Fn o == some f) = true) (hg : glOk sc f = true) (hc : ckE L.T L.cons L.clsN N sc a b = true) (ih : PE X b (dV L X.K W a)) :
    PE X (.Call (.Name f p) [b] [] pos) (dV L X.K W (.op1 o a)) := by
  have e := eq_of_beq hf
  obtain ⟨g1, g2, g3⟩ := gl_of xc hg
  have pa : PA X [b] (tCons (dR L X.K W a) tNil) := pa_cons (sR_of xc hc ih) pa_nil (star_of hc [])
  have pl : (backTo pos (starEach [] X.env)).any (·.1) = false := rfl
  cases o <;> cases e
  case abs => exact PE.imp (pe_callB cr_abs g1 (blt_of xc (by decide +kernel)) (by decide +kernel) pa g3 g2 (star_of hc []) pl) fun σ H Q q => rO1_call q
  case len => exact PE.imp (pe_callB cr_len g1 (blt_of xc (by decide +kernel)) PySem.boot_len pa g3 g2 (star_of hc []) pl) fun σ H Q q => rO1_call q
  case all => exact PE.imp (pe_callB (cr_allA xc.calm) g1 (blt_of xc (by decide +kernel)) (by decide +kernel) pa g3 g2 (star_of hc []) pl) fun σ H Q q => rO1_call q
  case list => exact PE.imp (pe_callTy cr_listA g1 (blt_of xc (by decide +kernel)) (by decide +kernel) pa g3 g2 (star_of hc []) pl) fun σ H Q q => rO1_call q
  case tuple => exact PE.imp (pe_callTy cr_tupleA g1 (blt_of xc (by decide +kernel)) (by decide +kernel) pa g3 g2 (star_of hc []) pl) fun σ H Q q => rO1_call q
  case intB => exact PE.imp (pe_callTy cr_intB g1 (blt_of xc (by decide +kernel)) (by decide +kernel) pa g3 g2 (star_of hc []) pl) fun σ H Q q => rO1_call q
  case strI => exact PE.imp (pe_callTy cr_strI g1 (blt_of xc (by decide +kernel)) (by decide +kernel) pa g3 g2 (star_of hc []) pl) fun σ H Q q => rO1_call q
theorem call2_blt {N : List Str} {sc : Nms} {W : WX} {X : Cx} (xc : XC L N sc W X) {f : Str} {l r : Expr} {p pos : Pos} {a b : E} {o : O2} (hf : (o2Fn o == some f) = true) (hg : glOk sc f = true) (h1 : ckE L.T L.cons L.clsN N sc a l = true) (h2 : ckE L.T L.cons L.clsN N sc b r = true)
    (i1 : PE X l (dV L X.K W a)) (i2 : PE X r (dV L X.K W b)) : PE X (.Call (.Name f p) [l, r] [] pos) (dV L X.K W (.op2 o a b)) := by
  have e := eq_of_beq hf
  obtain ⟨g1, g2, g3⟩ := gl_of xc hg
  have pa : PA X [l, r] (tCons (dR L X.K W a) (tCons (dR L X.K W b) tNil)) := pa_cons (sR_of xc h1 i1) (pa_cons (sR_of xc h2 i2) pa_nil (star_of h2 [])) (star_of h1 [r])
  have pl : (backTo pos (starEach [r] X.env)).any (·.1) = false := by rw [star_of h2 []]; rfl
  cases o <;> cases e
  case max2 => exact PE.imp (pe_callB (cr_max2 xc.calm) g1 (blt_of xc (by decide +kernel)) (by decide +kernel) pa g3 g2 (star_of h1 [r]) pl) fun σ H Q q => rO2_call q
  case min2 => exact PE.imp (pe_callB (cr_min2 xc.calm) g1 (blt_of xc (by decide +kernel)) (by decide +kernel) pa g3 g2 (star_of h1 [r]) pl) fun σ H Q q => rO2_call q
theorem glb_of {N : List Str} {sc : Nms} {W : WX} {X : Cx} (xc : XC L N sc W X) {j : Nat} {x : Str} {p : Pos} (h : ((L.cons[j]?).map (·.1) == some x) = true) (hg : glOk sc x = true) : PE X (.Name x p) (dV L X.K W (.glb j)) := by
  obtain ⟨g1, g2, g3⟩ := gl_of xc hg
  have h' := eq_of_beq h
  cases e : L.cons[j]? with
  | none => rw [e] at h'; cases h'
  | some q =>
    obtain ⟨n, d⟩ := q
    rw [e] at h'
    cases h'
    obtain ⟨v, u, hm, hr, hd⟩ := xc.lk.con j _ _ e
    have eg : L.G j = d := by unfold Lk.G; rw [e]; rfl
    exact PE.imp (pe_glob g1 hm hr g2) fun σ H Q q => imp_glb (by rw [eg]; exact hd) q
theorem emp_of {W : WX} {X : Cx} {p : Pos} : PE X (.Dict [] [] p) (dV L X.K W .emp) := PE.imp pe_dnewT fun σ H Q q r hr => by
  obtain ⟨f0, H0, f, en, m, ot⟩ := q
  have o1 : Ac X.K f H Q (.dict [], false) := ot
  exact o1 _ _ _ ((Po.refl m.po.sub).new hr) (.emp upd_same)
theorem con_of {W : WX} {X : Cx} {d : D} {c : Const} {i : Nat} {p : Pos} (h : conOk d c = true) : PE X (.Constant c i p) (dV L X.K W (.con d)) := by
  cases d <;> cases c <;> first
    | (cases h; done)
    | skip
  case none.none => exact PE.imp pe_non fun σ H Q q => imp_con (fun _ => .non) q
  case bool.bool a b =>
    have e : a = b := eq_of_beq h
    subst e
    exact PE.imp pe_bl fun σ H Q q => imp_con (fun _ => .bl _) q
  case int.int a b =>
    have e : a = b := eq_of_beq h
    subst e
    exact PE.imp pe_int fun σ H Q q => imp_con (fun _ => .int _) q
  case str.str a b =>
    have e : a = b := eq_of_beq h
    subst e
    exact PE.imp pe_str fun σ H Q q => imp_con (fun _ => .str _) q
theorem call_of {N : List Str} {sc : Nms} {W : WX} {X : Cx} (xc : XC L N sc W X) {f : Str} {x : Expr} {xs : List Expr} {p pos : Pos} {j m : Nat} {es : Es} (h : (match L.T[j]? with | some g => g.name == f && decide (m ≤ g.dfl.length) | none => false) = true) (hg : glOk sc f = true)
    (hc : ckEs L.T L.cons L.clsN N sc es (x :: xs) = true) (ih : PA X (x :: xs) (dAs L X.K W es)) : PE X (.Call (.Name f p) (x :: xs) [] pos) (dV L X.K W (.call j es m)) := by
  obtain ⟨g1, g2, g3⟩ := gl_of xc hg
  cases e : L.T[j]? with
  | none => rw [e] at h; cases h
  | some g =>
    rw [e] at h
    obtain ⟨h1, h2⟩ := and2 h
    have en := str_beq h1
    subst en
    obtain ⟨fa, fd, dvs, ds, hm, hk, F, hv, hd, hb⟩ := xc.lk.fn j g e m (of_decide_eq_true h2)
    have st : starEach (x :: xs) X.env = (false, eval x X.env) :: starEach xs X.env ∧ (backTo pos (starEach xs X.env)).any (·.1) = false := by
      cases es with
      | nil => cases hc
      | cons e1 r =>
        have hc' : (ckE L.T L.cons L.clsN N sc e1 x && ckEs L.T L.cons L.clsN N sc r xs) = true := hc
        exact ⟨star_of (and2 hc').1 xs, stars_of (and2 hc').2⟩
    refine PE.imp (pe_callSD F xc.room g1 hm hk hb hv (fun σ => passAt xc.tk σ) ih g2 st.1 st.2) fun σ H Q q => imp_call (fun H => ?_) q
    have ed : dflT L.T j m = g.dv m := by unfold dflT; rw [e]; rfl
    rw [ed]
    exact hd H

theorem lookup_mem {cs : List (Str × Nat)} {n : Str} {j : Nat} (h : cs.lookup n = some j) : (n, j) ∈ cs := by
  induction cs with
  | nil => cases h
  | cons q cs ih =>
    obtain ⟨a, b⟩ := q
    rw [List.lookup_cons] at h
    by_cases e : (n == a) = true
    · rw [e] at h
      cases h
      rw [str_beq e]
      exact List.mem_cons_self
    · have e' : (n == a) = false := by simpa using e
      rw [e'] at h
      exact List.mem_cons_of_mem _ (ih h)
theorem callL_of {N : List Str} {sc : Nms} {W : WX} {X : Cx} (xc : XC L N sc W X) {f : Str} {x : Expr} {xs : List Expr} {p pos : Pos} {i : Nat} {cs : List (Str × Nat)} {es : Es} (hn : nmOk N sc i f = true) (h : cs.all (fun q => (match L.T[q.2]? with | some g => g.name == q.1 | none => false)) = true)
    (hc : ckEs L.T L.cons L.clsN N sc es (x :: xs) = true) (ih : PA X (x :: xs) (dAs L X.K W es)) : PE X (.Call (.Name f p) (x :: xs) [] pos) (dV L X.K W (.callL i cs es)) := by
  obtain ⟨h1, h2, h3, h4⟩ := vis_of xc hn
  have st : starEach (x :: xs) X.env = (false, eval x X.env) :: starEach xs X.env ∧ (backTo pos (starEach xs X.env)).any (·.1) = false := by
    cases es with
    | nil => cases hc
    | cons e1 r =>
      have hc' : (ckE L.T L.cons L.clsN N sc e1 x && ckEs L.T L.cons L.clsN N sc r xs) = true := hc
      exact ⟨star_of (and2 hc').1 xs, stars_of (and2 hc').2⟩
  refine PE.imp (t := tCallN L X.K i cs (WE W) (dAs L X.K W es)) ⟨fun pins s σ H Q I hh => ?_⟩ fun σ H Q q => imp_callL q
  obtain ⟨n, j, hl, hs, ht⟩ := hh
  have hq := List.all_eq_true.mp h _ (lookup_mem hl)
  cases e : L.T[j]? with
  | none => simp only [e] at hq; cases hq
  | some g =>
    simp only [e] at hq
    have en : g.name = n := str_beq hq
    obtain ⟨fa, fd, dvs, ds, hm, hk, F, hv, hd, hb⟩ := xc.lk.fn j g e 0 (Nat.zero_le _)
    have hfa := xc.lk.fga j g e
    rw [hm] at hfa
    cases hfa
    have hdv : dvs = [] := by
      have h0 := hd (fun _ => none)
      have : g.dv 0 = [] := by unfold Fn.dv; exact List.drop_length
      rw [this] at h0
      cases h0
      rfl
    subst hdv
    rw [← en] at hs
    refine wpAny_Call_Name_kw (thn ((pe_var (pos := p) h1 h2 h3 h4).run pins s σ H (fun v H1 => v = .ref (He.ga X.K g.name) ∧ H1 = H) I ⟨_, hs, rfl, rfl⟩) fun u s1 ⟨v, H1, I1, r1, q1⟩ => ?_)
    obtain ⟨rfl, rfl⟩ := q1
    cases r1
    refine PySem.W.callWith_K (h₀ := X.base) I.ok.mod.kin hk (thn (ih.run pos pins s1 σ _ _ I1 ht) fun us s2 ⟨vs, H2, I2, r, q⟩ => ⟨I2.kIn, ?_⟩) st.1 st.2
    exact run_fnSD F xc.room hb hv (passAt xc.tk σ) I2 r (by rw [List.append_nil]; exact q)
theorem callv_of {N : List Str} {sc : Nms} {W : WX} {X : Cx} (xc : XC L N sc W X) {f : Str} {x : Expr} {xs : List Expr} {p pos : Pos} {j m : Nat} {es : Es} (h : (match L.T[j]? with | some g => g.name == f && decide (m ≤ g.dfl.length) | none => false) = true) (hg : glOk sc f = true)
    (hc : ckEs L.T L.cons L.clsN N sc es (x :: xs) = true) (ih : PA X (x :: xs) (dAs L X.K W es)) : PE X (.Call (.Name f p) (x :: xs) [] pos) (dV L X.K W (.callv j es m)) := by
  obtain ⟨g1, g2, g3⟩ := gl_of xc hg
  cases e : L.T[j]? with
  | none => rw [e] at h; cases h
  | some g =>
    rw [e] at h
    obtain ⟨h1, h2⟩ := and2 h
    have en := str_beq h1
    subst en
    obtain ⟨fa, fd, dvs, ds, hm, hk, F, hv, hd, hb⟩ := xc.lk.fn j g e m (of_decide_eq_true h2)
    have st : starEach (x :: xs) X.env = (false, eval x X.env) :: starEach xs X.env ∧ (backTo pos (starEach xs X.env)).any (·.1) = false := by
      cases es with
      | nil => cases hc
      | cons e1 r =>
        have hc' : (ckE L.T L.cons L.clsN N sc e1 x && ckEs L.T L.cons L.clsN N sc r xs) = true := hc
        exact ⟨star_of (and2 hc').1 xs, stars_of (and2 hc').2⟩
    refine PE.imp (pe_callSD F xc.room g1 hm hk hb hv (fun σ => passAt xc.tk σ) ih g2 st.1 st.2) fun σ H Q q => imp_callv (fun H => ?_) q
    have ed : dflT L.T j m = g.dv m := by unfold dflT; rw [e]; rfl
    rw [ed]
    exact hd H

/-! ### isinstance -/
theorem ty_boot {n : String} (h : n = "int" ∨ n = "bool" ∨ n = "str" ∨ n = "tuple" ∨ n = "list") : bootBuiltins (Str.ofString n) = some (.type n) ∧ Str.ofString n ∈ blts := by
  rcases h with rfl | rfl | rfl | rfl | rfl <;> exact ⟨by decide +kernel, by decide +kernel⟩
theorem tyName_ok {t : Ty} {e : Expr} (h : tyName t e = true) : ∃ n p, t = .bi n ∧ e = .Name (Str.ofString n) p ∧ (n = "int" ∨ n = "bool" ∨ n = "str" ∨ n = "tuple" ∨ n = "list") := by
  cases t with
  | ow c => cases e <;> cases h
  | bi n =>
    cases e with
    | Name x p =>
      obtain ⟨h1, h2⟩ := and2 (show (x == Str.ofString n && (n == "int" || n == "bool" || n == "str" || n == "tuple" || n == "list")) = true from h)
      have e1 := str_beq h1
      subst e1
      simp only [Bool.or_eq_true, beq_iff_eq] at h2
      refine ⟨n, p, rfl, rfl, ?_⟩
      rcases h2 with (((h2 | h2) | h2) | h2) | h2
      · exact .inl h2
      · exact .inr (.inl h2)
      · exact .inr (.inr (.inl h2))
      · exact .inr (.inr (.inr (.inl h2)))
      · exact .inr (.inr (.inr (.inr h2)))
    | _ => cases h
theorem pe_ty {N : List Str} {sc : Nms} {W : WX} {X : Cx} (xc : XC L N sc W X) {n : String} {p : Pos} (hn : n = "int" ∨ n = "bool" ∨ n = "str" ∨ n = "tuple" ∨ n = "list") (hg : glOk sc (Str.ofString n) = true) : PE X (.Name (Str.ofString n) p) (tC (.ty n)) := by
  obtain ⟨g1, g2, g3⟩ := gl_of xc hg
  exact pe_bltn g1 (blt_of xc (ty_boot hn).2) (ty_boot hn).1 rfl g3 g2
theorem any_ty {K : PySem.W.Frag} {d : D} {t : String} (h : ∀ n : String, (n = "int" ∨ n = "bool" ∨ n = "str" ∨ n = "tuple" ∨ n = "list") → kitB t n = some (isTy d (.bi n))) : ∀ (ts : List Ty) (es : List Expr) (sc : Nms), tysOk sc ts es = true →
    ∃ ns : List String, ts = ns.map .bi ∧ es.length = ns.length ∧ (∀ n ∈ ns, n = "int" ∨ n = "bool" ∨ n = "str" ∨ n = "tuple" ∨ n = "list") ∧ PySem.W.kitAny K (.type t) (ns.map Value.type) = some (ts.any fun t => isTy d t)
  | [], [], sc, _ => ⟨[], rfl, rfl, fun _ z => (List.not_mem_nil z).elim, rfl⟩
  | [], _ :: _, sc, z => by cases z
  | _ :: _, [], sc, z => by cases z
  | t1 :: ts, e :: es, sc, z => by
    obtain ⟨z1, z2⟩ := and2 (show (tyName t1 e && tyGl sc t1 && tysOk sc ts es) = true from z)
    obtain ⟨z3, z4⟩ := and2 z1
    obtain ⟨n, p, rfl, rfl, hn⟩ := tyName_ok z3
    obtain ⟨ns, rfl, hl, hns, hk⟩ := any_ty h ts es sc z2
    refine ⟨n :: ns, rfl, by rw [List.length_cons, List.length_cons, hl], fun m hm => ?_, ?_⟩
    · rcases List.mem_cons.mp hm with rfl | hm
      · exact hn
      · exact hns m hm
    · refine kitAny_cons (kit_ty (h n hn)) (fun e => ?_) (fun e => ?_)
      · rw [hk]
        show some _ = some (isTy d (.bi n) || _)
        rw [e]; rfl
      · show (isTy d (.bi n) || _) = true
        rw [e]; rfl
theorem pa_tys {N : List Str} {sc : Nms} {W : WX} {X : Cx} (xc : XC L N sc W X) : ∀ {ts : List Ty} {es : List Expr} {ns : List String}, tysOk sc ts es = true → ts = ns.map .bi → PA X es (fun σ H Q => Q (ns.map V.ty) H)
  | [], [], [], _, _ => pa_nil
  | [], [], _ :: _, _, e => by cases e
  | [], _ :: _, _, z, _ => by cases z
  | _ :: _, [], _, z, _ => by cases z
  | t :: ts, e :: es, [], z, q => by cases q
  | t :: ts, e :: es, n :: ns, z, q => by
    cases q
    obtain ⟨z1, z2⟩ := and2 (show (tyName (.bi n) e && tyGl sc (.bi n) && tysOk sc (ns.map .bi) es) = true from z)
    obtain ⟨z3, z4⟩ := and2 z1
    obtain ⟨n', p, en, rfl, hn⟩ := tyName_ok z3
    cases en
    exact PA.imp (pa_cons (pe_ty xc hn z4) (pa_tys xc z2 rfl) rfl) fun σ H Q q => q
theorem isi_of {N : List Str} {sc : Nms} {W : WX} {X : Cx} (xc : XC L N sc W X) {f : Str} {b : Expr} {xs : List Expr} {k : Nat} {p p2 pos : Pos} {a : E} {ts : List Ty} (hf : (f == "isinstance") = true) (hlen : ts.length ≤ 100) (hg : glOk sc f = true) (hc : ckE L.T L.cons L.clsN N sc a b = true) (ht : tysOk sc ts xs = true) (ih : PE X b (dV L X.K W a)) :
    PE X (.Call (.Name f p) [b, .Tuple xs k p2] [] pos) (dV L X.K W (.isi a ts)) := by
  have e := str_beq hf
  subst e
  obtain ⟨g1, g2, g3⟩ := gl_of xc hg
  obtain ⟨ns, ets, hl, hns, _⟩ := any_ty (K := X.K) (d := .none) (t := "NoneType") (fun n hn => by rcases hn with rfl | rfl | rfl | rfl | rfl <;> decide +kernel) ts xs sc ht
  have pt : PE X (.Tuple xs k p2) (tTup fun σ H Q => Q (ns.map V.ty) H) := pe_tup (pa_tys xc ht ets)
  refine PE.imp (pe_callB call_isiT g1 (blt_of xc (by decide +kernel)) (by decide +kernel) (pa_cons (sR_of xc hc ih) (pa_cons pt pa_nil rfl) (star_of hc _)) g3 g2 (star_of hc _) rfl) fun σ H Q q => ?_
  obtain ⟨f0, H0, f, en, m, ot⟩ := q
  have o1 := Out.bind (show Out L.cls W σ f H ((rd1 a en (L.ev a en)).bind fun x => v1 (.bool (ts.any fun t => isTy x t))) (Ac X.K f H Q) from ot)
  refine ⟨f0, H0, f, en, m, o1.imp (Po.refl m.po.sub) fun d _ h1 v f1 H1 q1 hv => ?_⟩
  have hz : ns.length ≤ 1000 := by
    rw [ets, List.length_map] at hlen
    omega
  · refine ⟨by rw [List.length_map]; exact Nat.le_of_lt (small1000 hz), fun tp htp => ?_⟩
    obtain ⟨t, ty, hk⟩ := tyx_of q1.sub hv
    obtain ⟨ns', ets', _, _, hka⟩ := any_ty (K := X.K) hk ts xs sc ht
    have ens : ns' = ns := by
      have : ns'.map Ty.bi = ns.map Ty.bi := by rw [← ets', ets]
      exact List.map_inj_right (fun a b h => by cases h; rfl) |>.mp this
    subst ens
    have sm : Same H1 (L2.upd H1 tp (.tup (ns'.map V.ty))) := fun a o e => by rw [upd_ne (ne_of_none e htp)]; exact e
    have q2 := q1.newH (o := .tup (ns'.map V.ty)) htp
    have hv2 := hv.mono (f' := f1) (H' := L2.upd H1 tp (.tup (ns'.map V.ty))) ⟨sm, fun _ _ h => h, q2.sub, fun _ _ h => .inl h⟩
    obtain ⟨t2, ty2, hk2⟩ := tyx_of q2.sub hv2
    obtain ⟨ns2, ets2, _, _, hka2⟩ := any_ty (K := X.K) hk2 ts xs sc ht
    have ens2 : ns2 = ns' := by
      have : ns2.map Ty.bi = ns'.map Ty.bi := by rw [← ets2, ets]
      exact List.map_inj_right (fun a b h => by cases h; rfl) |>.mp this
    subst ens2
    refine ⟨v, tp, ns2.map V.ty, .type t2, ns2.map Value.type, _, rfl, upd_same, ?_, ty2, hka2, ?_⟩
    · have go : ∀ l : List String, Paired ClsV (l.map V.ty) (l.map Value.type) := by
        intro l
        induction l with
        | nil => exact .nil
        | cons n l ih => exact .cons (.ty n) ih
      exact go ns2
    · exact h1 _ f1 _ q2 (.bl _)
theorem isi1_of {N : List Str} {sc : Nms} {W : WX} {X : Cx} (xc : XC L N sc W X) {f x : Str} {b : Expr} {p p2 pos : Pos} {a : E} {ts : List Ty} (hf : (f == "isinstance") = true) (hg : glOk sc f = true) (hc : ckE L.T L.cons L.clsN N sc a b = true) (ht : tysOk sc ts [.Name x p2] = true) (ih : PE X b (dV L X.K W a)) :
    PE X (.Call (.Name f p) [b, .Name x p2] [] pos) (dV L X.K W (.isi a ts)) := by
  have e := str_beq hf
  subst e
  obtain ⟨g1, g2, g3⟩ := gl_of xc hg
  obtain ⟨ns, ets, hl, hns, _⟩ := any_ty (K := X.K) (d := .none) (t := "NoneType") (fun n hn => by rcases hn with rfl | rfl | rfl | rfl | rfl <;> decide +kernel) ts [.Name x p2] sc ht
  obtain ⟨n, rfl⟩ : ∃ n, ns = [n] := by
    cases ns with
    | nil => cases hl
    | cons n r => cases r with
      | nil => exact ⟨n, rfl⟩
      | cons _ _ => cases hl
  subst ets
  obtain ⟨z1, z2⟩ := and2 (show (tyName (.bi n) (.Name x p2) && tyGl sc (.bi n) && tysOk sc [] []) = true from ht)
  obtain ⟨z3, z4⟩ := and2 z1
  obtain ⟨n', p', en, ex, hn⟩ := tyName_ok z3
  cases en
  cases ex
  refine PE.imp (pe_callB call_isi g1 (blt_of xc (by decide +kernel)) (by decide +kernel) (pa_cons (sR_of xc hc ih) (pa_cons (pe_ty xc hn z4) pa_nil rfl) (star_of hc _)) g3 g2 (star_of hc _) rfl) fun σ H Q q => ?_
  obtain ⟨f0, H0, f, en, m, ot⟩ := q
  have o1 := Out.bind (show Out L.cls W σ f H ((rd1 a en (L.ev a en)).bind fun x => v1 (.bool (([n].map Ty.bi).any fun t => isTy x t))) (Ac X.K f H Q) from ot)
  refine ⟨f0, H0, f, en, m, o1.imp (Po.refl m.po.sub) fun d _ h1 v f1 H1 q1 hv => ?_⟩
  obtain ⟨t, ty, hk⟩ := tyx_of q1.sub hv
  refine ⟨v, .ty n, .type t, .type n, _, rfl, .ty n, ty, kit_ty (hk n hn), ?_⟩
  have h2 : Ac X.K f H Q (.bool (isTy d (.bi n) || false), false) := h1
  rw [Bool.or_false] at h2
  exact h2 _ f1 _ q1 (.bl _)
end
end AW

/-! AwErr: caught errors asked: isinstance, is None. -/
namespace AW
open PySem PySem.Spec PyProof.Rows L2

/-! ### isinstance of a caught error -/
/-- isinstance(e, c) -/
def rEr1 (K : PySem.W.Frag) : List V → Hp → VK → Prop := fun xs H Q => ∃ (a : Addr) (k : Nat) (D : Addr) (c : V) (u : Value) (b : Bool), xs = [.ref a, c] ∧ H a = some (erO K k a) ∧ erC K k = .ref D ∧ ExcC K D ∧ ClsV c u ∧ PySem.W.kitOne K (.ref D) u = some b ∧ Q (.bl b) H
/-- isinstance(e, (c, ..)) -/
def rErT (K : PySem.W.Frag) : List V → Hp → VK → Prop := fun xs H Q => ∃ (a : Addr) (k : Nat) (D : Addr) (tp : Addr) (cs : List V) (us : List Value) (b : Bool), xs = [.ref a, .ref tp] ∧ H a = some (erO K k a) ∧ erC K k = .ref D ∧ ExcC K D ∧ H tp = some (.tup cs) ∧ Paired ClsV cs us ∧ PySem.W.kitAny K (.ref D) us = some b ∧ Q (.bl b) H
section
variable {X : Cx} {pins : List (Addr × Obj)} {σ : L2.St} {H : Hp} {s : Shared}
theorem er_inst (I : Inv X pins σ H s) {a D : Addr} {k : Nat} (h : H a = some (erO X.K k a)) (e : erC X.K k = .ref D) : ∃ oe, PySem.W.InstAt s.heap a oe D none := by
  obtain ⟨⟨oe, vs, hg, hz, hd⟩, _⟩ := (show ObjOk X.prog X.w H s.heap a (erO X.K k a) from I.hok a _ h)
  rw [e] at hz
  obtain ⟨oc, od, oda, osl⟩ := oe
  obtain ⟨h1, h2⟩ := hz
  dsimp only at h1 h2 hd
  subst h1 h2 hd
  exact ⟨_, hg, rfl, rfl, trivial⟩
theorem call_er1 : CallR X (.builtin "isinstance") (fun xs H Q => rIsi X.K xs H Q ∨ rEr1 X.K xs H Q) := by
  intro pins s σ H xs us Q I r h
  rcases h with h | ⟨a, k, D, c, u, b, rfl, ha, hk, C, kc, e, q⟩
  · exact call_isi pins s σ H xs us Q I r h
  · obtain ⟨u1, u2, rfl, r1, r2⟩ := vals2 r
    cases (show u1 = Value.ref a from r1)
    have e2 := kc.eq r2
    subst e2
    obtain ⟨oe, J⟩ := er_inst I ha hk
    exact PySem.W.kia_one (PySem.W.handS_kitx_exc C.hg C.hk C.hs C.hd C.ha C.hn C.ht C.hm) I.kIn J e (fun z => nomatch z) fun tk => ⟨.bl b, H, I.tok tk, rfl, q⟩
theorem call_erT : CallR X (.builtin "isinstance") (fun xs H Q => rIsiT X.K xs H Q ∨ rErT X.K xs H Q) := by
  intro pins s σ H xs us Q I r h
  rcases h with h | ⟨a, k, D, tp, cs, ws, b, rfl, ha, hk, C, hT, kc, e, q⟩
  · exact call_isiT pins s σ H xs us Q I r h
  · obtain ⟨u1, u2, rfl, r1, r2⟩ := vals2 r
    cases (show u1 = Value.ref a from r1)
    cases (show u2 = Value.ref tp from r2)
    obtain ⟨oe, J⟩ := er_inst I ha hk
    obtain ⟨_, its, rv, o, h1, h2, n, h3⟩ := (show ObjOk X.prog X.w H s.heap tp (.tup cs) from I.hok tp _ hT)
    have e3 := ClsV.all kc rv
    subst e3
    obtain ⟨oc, od, dt, sl⟩ := o
    simp only at h2 h3
    subst h2 h3
    exact PySem.W.kia_tup (PySem.W.handS_kitx_exc C.hg C.hk C.hs C.hd C.ha C.hn C.ht C.hm) I.kIn J h1 e (fun z => nomatch z) fun tk => ⟨.bl b, H, I.tok tk, rfl, q⟩
end

/-! ### the classes asked about -/
/-- the value and the object of a class -/
def teV (K : PySem.W.Frag) : Te → V
  | .ow c => (match erC K c with
    | .ref C => .ref C
    | _ => .non)
  | .top => .ref (He.ga K "AreaError")
  | .ve => .ty "ValueError"
def teU (K : PySem.W.Frag) : Te → Value
  | .ow c => erC K c
  | .top => .ref (He.ga K "AreaError")
  | .ve => .type "ValueError"
theorem teV_ow {K : PySem.W.Frag} {k : Nat} {C : Addr} (h : erC K k = .ref C) : teV K (.ow k) = .ref C := by
  show (match erC K k with | .ref C => V.ref C | _ => V.non) = _
  rw [h]
theorem teU_ow {K : PySem.W.Frag} {k : Nat} {C : Addr} (h : erC K k = .ref C) : teU K (.ow k) = .ref C := h
section
variable {L : Lk} {N : List Str} {sc : Nms} {W : WX} {X : Cx} {K : PySem.W.Frag}
theorem erB_ne {ns : List Str} (h : erB K ns = true) (hc : ns.contains "AreaError" = true) {n : Str} (hn : n ∈ ns) (h0 : n ≠ "") : ExcC K (He.ga K n) ∧ PySem.W.kitOne K (.ref (He.ga K n)) (.type "ValueError") = some true ∧ PySem.W.kitOne K (.type "NoneType") (.ref (He.ga K n)) = some false ∧
    PySem.W.exmOne K (.ref (He.ga K n)) (.ref (He.ga K "AreaError")) = some true ∧ ∀ m ∈ ns, m ≠ "" → PySem.W.kitOne K (.ref (He.ga K n)) (.ref (He.ga K m)) = some (n == m || m == "AreaError") := by
  unfold erB at h
  rw [hc] at h
  have h : ns.all (erB1 K ns) = true := h
  have z := List.all_eq_true.mp h n hn
  unfold erB1 at z
  rcases Bool.or_eq_true_iff.mp z with z | z
  · exact absurd (eq_of_beq z) h0
  · simp only [Bool.and_eq_true, decide_eq_true_eq] at z
    obtain ⟨⟨⟨⟨z1, z2⟩, z3⟩, z4⟩, z5⟩ := z
    refine ⟨ecB_ok z1, z2, z3, z4, fun m hm h0 => ?_⟩
    have y := List.all_eq_true.mp z5 m hm
    rcases Bool.or_eq_true_iff.mp y with y | y
    · exact absurd (eq_of_beq y) h0
    · exact of_decide_eq_true y
theorem mem_of_at {ns : List Str} {k : Nat} {n : Str} (h : ns[k]? = some n) : n ∈ ns := List.mem_of_getElem? h
/-- an own class, by its number -/
theorem cls_at (lk : LkOk L X.prog X.w X.K X.mg X.base) {k : Nat} {n : Str} (h : L.clsN[k]? = some n) (h0 : n ≠ "") : erC X.K k = .ref (He.ga X.K n) ∧ L.cls k = .ref (He.ga X.K n) ∧ X.mg n = some (.ref (He.ga X.K n)) := by
  obtain ⟨g1, g2⟩ := lk.ga k n h h0
  obtain ⟨C, e1, e2, _⟩ := lk.exc k n h h0
  rw [g1] at e1
  refine ⟨?_, g1, ?_⟩
  · unfold erC
    rw [g2]
  · rw [e2, ← e1]
theorem area_ne : ("AreaError" : Str) ≠ "" := by decide +kernel
theorem errN_inj : ∀ (j k : Nat) (n : Str), errN[j]? = some n → errN[k]? = some n → j = k := by
  intro j k n h1 h2
  have nd : errN.Nodup := by decide +kernel
  exact L2.nodup_ix nd h1 h2
/-- what an own class answers -/
theorem te_one (lk : LkOk L X.prog X.w X.K X.mg X.base) (hA : L.clsN.contains "AreaError" = true) {c : Nat} {n : Str} (hc : L.clsN[c]? = some n) (h0 : n ≠ "") {t : Te} {e : Expr} (ht : teOk L.clsN sc t e = true) :
    ClsV (teV X.K t) (teU X.K t) ∧ PySem.W.kitOne X.K (.ref (He.ga X.K n)) (teU X.K t) = some (erTy c t) ∧ PySem.W.kitOne X.K (.type "NoneType") (teU X.K t) = some false := by
  obtain ⟨b1, b2, b3, b4, b5⟩ := erB_ne lk.er hA (mem_of_at hc) h0
  obtain ⟨g1, g2⟩ := lk.ga c n hc h0
  cases t with
  | ow k =>
    cases e <;> first
      | (cases ht; done)
      | skip
    case Name x p =>
      obtain ⟨ht, t4⟩ := and2 (show (L.clsN[k]? == some x && x != "" && x != "AreaError" && glOk sc x) = true from ht)
      obtain ⟨ht, t3⟩ := and2 ht
      obtain ⟨t1, t2⟩ := and2 ht
      have t1 := eq_of_beq t1
      have t2 := bne_ne t2
      have t3 := bne_ne t3
      obtain ⟨k1, k2, k3⟩ := cls_at lk t1 t2
      obtain ⟨d1, d2, d3, d4, d5⟩ := erB_ne lk.er hA (mem_of_at t1) t2
      have y := b5 x (mem_of_at t1) t2
      have e1 : (x == ("AreaError" : Str)) = false := by
        cases q : (x == ("AreaError" : Str)) with
        | true => exact absurd (eq_of_beq q) t3
        | false => rfl
      have e2 : (n == x) = (c == k) := by
        obtain ⟨g3, g4⟩ := lk.ga k x t1 t2
        by_cases q : c = k
        · subst q
          rw [hc] at t1
          cases t1
          simp
        · have : n ≠ x := fun z => by
            subst z
            exact q (errN_inj _ _ _ g2 g4)
          have q1 : (n == x) = false := by
            cases w : (n == x) with
            | true => exact absurd (eq_of_beq w) this
            | false => rfl
          rw [q1]
          simp [q]
      rw [e1, Bool.or_false, e2] at y
      rw [teV_ow k1, teU_ow k1]
      exact ⟨.own _, y, d3⟩
  | top =>
    cases e <;> first
      | (cases ht; done)
      | skip
    case Name x p =>
      have hm : ("AreaError" : Str) ∈ L.clsN := List.contains_iff_mem.mp hA
      have y := b5 _ hm area_ne
      obtain ⟨d1, d2, d3, d4, d5⟩ := erB_ne lk.er hA hm area_ne
      rw [show (("AreaError" : Str) == "AreaError") = true from beq_self_eq_true _, Bool.or_true] at y
      exact ⟨.own _, y, d3⟩
  | ve =>
    exact ⟨.ty _, b2, by show PySem.W.kitOne X.K (.type "NoneType") (.type "ValueError") = some false; exact kit_ty (by decide +kernel)⟩
theorem te_none (lk : LkOk L X.prog X.w X.K X.mg X.base) (hA : L.clsN.contains "AreaError" = true) {t : Te} {e : Expr} (ht : teOk L.clsN sc t e = true) : ClsV (teV X.K t) (teU X.K t) ∧ PySem.W.kitOne X.K (.type "NoneType") (teU X.K t) = some false := by
  obtain ⟨k, hk⟩ := List.mem_iff_getElem?.mp (List.contains_iff_mem.mp hA)
  obtain ⟨h1, _, h3⟩ := te_one (sc := sc) lk hA hk area_ne ht
  exact ⟨h1, h3⟩
theorem pe_te (xc : XC L N sc W X) {t : Te} {e : Expr} (ht : teOk L.clsN sc t e = true) : PE X e (tC (teV X.K t)) := by
  cases t with
  | ow k =>
    cases e <;> first
      | (cases ht; done)
      | skip
    case Name x p =>
      obtain ⟨ht, t4⟩ := and2 (show (L.clsN[k]? == some x && x != "" && x != "AreaError" && glOk sc x) = true from ht)
      obtain ⟨ht, t3⟩ := and2 ht
      obtain ⟨t1, t2⟩ := and2 ht
      obtain ⟨k1, k2, k3⟩ := cls_at xc.lk (eq_of_beq t1) (bne_ne t2)
      obtain ⟨g1, g2, g3⟩ := gl_of xc t4
      rw [teV_ow k1]
      exact pe_glob g1 k3 rfl g2
  | top =>
    cases e <;> first
      | (cases ht; done)
      | skip
    case Name x p =>
      obtain ⟨ht, t3⟩ := and2 (show (x == "AreaError" && L.clsN.contains x && glOk sc x) = true from ht)
      obtain ⟨t1, t2⟩ := and2 ht
      have t1 := str_beq t1
      subst t1
      obtain ⟨k, hk⟩ := List.mem_iff_getElem?.mp (List.contains_iff_mem.mp t2)
      obtain ⟨k1, k2, k3⟩ := cls_at xc.lk hk area_ne
      obtain ⟨g1, g2, g3⟩ := gl_of xc t3
      exact pe_glob g1 k3 rfl g2
  | ve =>
    cases e <;> first
      | (cases ht; done)
      | skip
    case Name x p =>
      obtain ⟨t1, t3⟩ := and2 (show (x == "ValueError" && glOk sc x) = true from ht)
      have t1 := str_beq t1
      subst t1
      obtain ⟨g1, g2, g3⟩ := gl_of xc t3
      exact pe_bltn g1 (blt_of xc (by decide +kernel)) (by decide +kernel) rfl g3 g2
theorem star_te {cl : List Str} {t : Te} {e : Expr} (ht : teOk cl sc t e = true) (es : List Expr) (env : Env) : starEach (e :: es) env = (false, eval e env) :: starEach es env := by
  cases t <;> cases e <;> first
    | (cases ht; done)
    | rfl
theorem pa_tes (xc : XC L N sc W X) : ∀ {ts : List Te} {es : List Expr}, tesOk L.clsN sc ts es = true → PA X es (fun σ H Q => Q (ts.map (teV X.K)) H)
  | [], [], _ => pa_nil
  | [], _ :: _, z => by cases z
  | _ :: _, [], z => by cases z
  | t :: ts, e :: es, z => by
    obtain ⟨z1, z2⟩ := and2 (show (teOk L.clsN sc t e && tesOk L.clsN sc ts es) = true from z)
    exact PA.imp (pa_cons (pe_te xc z1) (pa_tes xc z2) (star_te z1 _ _)) fun σ H Q q => q
theorem tes_any (lk : LkOk L X.prog X.w X.K X.mg X.base) (hA : L.clsN.contains "AreaError" = true) {c : Nat} {n : Str} (hc : L.clsN[c]? = some n) (h0 : n ≠ "") : ∀ {ts : List Te} {es : List Expr}, tesOk L.clsN sc ts es = true →
    Paired ClsV (ts.map (teV X.K)) (ts.map (teU X.K)) ∧ PySem.W.kitAny X.K (.ref (He.ga X.K n)) (ts.map (teU X.K)) = some (ts.any (erTy c))
  | [], [], _ => ⟨.nil, rfl⟩
  | [], _ :: _, z => by cases z
  | _ :: _, [], z => by cases z
  | t :: ts, e :: es, z => by
    obtain ⟨z1, z2⟩ := and2 (show (teOk L.clsN sc t e && tesOk L.clsN sc ts es) = true from z)
    obtain ⟨h1, h2⟩ := tes_any lk hA hc h0 z2
    obtain ⟨k1, k2, _⟩ := te_one lk hA hc h0 z1
    refine ⟨.cons k1 h1, ?_⟩
    show PySem.W.kitAny X.K _ (teU X.K t :: ts.map (teU X.K)) = some (erTy c t || ts.any (erTy c))
    refine kitAny_cons k2 (fun e => ?_) (fun e => ?_)
    · rw [e]; exact h2
    · rw [e]; rfl
theorem tes_none (lk : LkOk L X.prog X.w X.K X.mg X.base) (hA : L.clsN.contains "AreaError" = true) : ∀ {ts : List Te} {es : List Expr}, tesOk L.clsN sc ts es = true →
    Paired ClsV (ts.map (teV X.K)) (ts.map (teU X.K)) ∧ PySem.W.kitAny X.K (.type "NoneType") (ts.map (teU X.K)) = some false
  | [], [], _ => ⟨.nil, rfl⟩
  | [], _ :: _, z => by cases z
  | _ :: _, [], z => by cases z
  | t :: ts, e :: es, z => by
    obtain ⟨z1, z2⟩ := and2 (show (teOk L.clsN sc t e && tesOk L.clsN sc ts es) = true from z)
    obtain ⟨h1, h2⟩ := tes_none lk hA z2
    obtain ⟨k1, k2⟩ := te_none lk hA z1
    exact ⟨.cons k1 h1, kitAny_cons k2 (fun _ => h2) (fun e => by cases e)⟩
theorem ks_at {cl : List Str} {ks : List Nat} (h : ksOk cl ks = true) {c : Nat} (hc : ks.contains c = true) : ∃ n, cl[c]? = some n ∧ n ≠ "" := by
  have z := List.all_eq_true.mp (show ks.all (fun k => (cl[k]?).any fun (y : Str) => y != "") = true from h) c (List.contains_iff_mem.mp hc)
  cases e : cl[c]? with
  | none => rw [e] at z; cases z
  | some n =>
    rw [e] at z
    exact ⟨n, rfl, bne_ne z⟩
/-- a slot that isinstance may be asked about -/
theorem er_slot {i : Nat} {ks : List Nat} {ts : List Te} {σ H Q} (h : dV L K W (.isE i ks ts) σ H Q) : ∃ f0 H0 f en, Mt K f0 H0 f H σ en ∧ ((en[i]? = some (.va .none) ∧ Ac K f H Q (.bool false, false)) ∨ ∃ c, ks.contains c = true ∧ en[i]? = some (.er c) ∧ Ac K f H Q (.bool (ts.any (erTy c)), false)) := by
  obtain ⟨f0, H0, f, en, m, o⟩ := h
  have o' : Out L.cls W σ f H (match en[i]? with | some (.va .none) => v1 (.bool false) | some (.er c) => (if ks.contains c then v1 (.bool (ts.any (erTy c))) else .no) | _ => R.no) (Ac K f H Q) := o
  refine ⟨f0, H0, f, en, m, ?_⟩
  cases e : en[i]? with
  | none => rw [e] at o'; exact o'.elim
  | some s =>
    rw [e] at o'
    cases s with
    | er c =>
      have o' : Out L.cls W σ f H (if ks.contains c then v1 (.bool (ts.any (erTy c))) else .no) (Ac K f H Q) := o'
      by_cases hk : ks.contains c = true
      · rw [if_pos hk] at o'
        exact .inr ⟨c, hk, rfl, o'⟩
      · rw [if_neg hk] at o'
        exact o'.elim
    | va d =>
      cases d with
      | none => exact .inl ⟨rfl, o'⟩
      | _ => exact o'.elim
    | un => exact o'.elim
    | ow d => exact o'.elim
    | rd d => exact o'.elim
    | fn d => exact o'.elim
    | dk d => exact o'.elim
theorem isE1_of (xc : XC L N sc W X) {f y x : Str} {p p1 p2 pos : Pos} {i : Nat} {ks : List Nat} {ts : List Te} (hf : (f == "isinstance") = true) (hg : glOk sc f = true) (hy : nmOk N sc i y = true) (hA : L.clsN.contains "AreaError" = true) (hk : ksOk L.clsN ks = true) (ht : tesOk L.clsN sc ts [.Name x p2] = true) :
    PE X (.Call (.Name f p) [.Name y p1, .Name x p2] [] pos) (dV L X.K W (.isE i ks ts)) := by
  have e := str_beq hf
  subst e
  obtain ⟨g1, g2, g3⟩ := gl_of xc hg
  obtain ⟨h1, h2, h3, h4⟩ := vis_of xc hy
  obtain ⟨t, rfl⟩ : ∃ t, ts = [t] := by
    cases ts with
    | nil => cases ht
    | cons t r => cases r with
      | nil => exact ⟨t, rfl⟩
      | cons _ _ =>
        obtain ⟨_, z⟩ := and2 ht
        cases z
  obtain ⟨t1, _⟩ := and2 (show (teOk L.clsN sc t (.Name x p2) && tesOk L.clsN sc [] []) = true from ht)
  refine PE.imp (pe_callB call_er1 g1 (blt_of xc (by decide +kernel)) (by decide +kernel) (pa_cons (pe_var h1 h2 h3 h4) (pa_cons (pe_te xc t1) pa_nil rfl) rfl) g3 g2 rfl rfl) fun σ H Q q => ?_
  obtain ⟨f0, H0, f, en, m, o⟩ := er_slot q
  rcases o with ⟨e, o⟩ | ⟨c, hc, e, o⟩
  · obtain ⟨v, e1, hv⟩ := m.va e
    cases hv
    obtain ⟨k1, k2⟩ := te_none (sc := sc) xc.lk hA t1
    exact ⟨_, e1, .inl ⟨_, _, .type "NoneType", _, false, rfl, k1, .base .non, k2, o _ f H (Po.refl m.po.sub) (.bl _)⟩⟩
  · obtain ⟨v, e1, hv⟩ := m.er e
    obtain ⟨n, n1, n2⟩ := ks_at hk hc
    obtain ⟨k1, k2, _⟩ := te_one (sc := sc) xc.lk hA n1 n2 t1
    obtain ⟨c1, _, _⟩ := cls_at xc.lk n1 n2
    obtain ⟨b1, _⟩ := erB_ne xc.lk.er hA (mem_of_at n1) n2
    have o : Ac X.K f H Q (.bool (erTy c t || false), false) := o
    rw [Bool.or_false] at o
    exact ⟨_, e1, .inr ⟨_, c, _, _, _, _, rfl, hv, c1, b1, k1, k2, o _ f H (Po.refl m.po.sub) (.bl _)⟩⟩
theorem isET_of (xc : XC L N sc W X) {f y : Str} {xs : List Expr} {k : Nat} {p p1 p2 pos : Pos} {i : Nat} {ks : List Nat} {ts : List Te} (hf : (f == "isinstance") = true) (hlen : ts.length ≤ 100) (hg : glOk sc f = true) (hy : nmOk N sc i y = true) (hA : L.clsN.contains "AreaError" = true) (hk : ksOk L.clsN ks = true) (ht : tesOk L.clsN sc ts xs = true) :
    PE X (.Call (.Name f p) [.Name y p1, .Tuple xs k p2] [] pos) (dV L X.K W (.isE i ks ts)) := by
  have e := str_beq hf
  subst e
  obtain ⟨g1, g2, g3⟩ := gl_of xc hg
  obtain ⟨h1, h2, h3, h4⟩ := vis_of xc hy
  have pt : PE X (.Tuple xs k p2) (tTup fun σ H Q => Q (ts.map (teV X.K)) H) := pe_tup (pa_tes xc ht)
  refine PE.imp (pe_callB call_erT g1 (blt_of xc (by decide +kernel)) (by decide +kernel) (pa_cons (pe_var h1 h2 h3 h4) (pa_cons pt pa_nil rfl) rfl) g3 g2 rfl rfl) fun σ H Q q => ?_
  obtain ⟨f0, H0, f, en, m, o⟩ := er_slot q
  have lz : (ts.map (teV X.K)).length ≤ sizeLine := by
    rw [List.length_map]
    exact Nat.le_of_lt (small1000 (by omega))
  have go : ∀ tp, H tp = none → Po f H f (L2.upd H tp (.tup (ts.map (teV X.K)))) := fun tp htp => (Po.refl m.po.sub).newH htp
  rcases o with ⟨e, o⟩ | ⟨c, hc, e, o⟩
  · obtain ⟨v, e1, hv⟩ := m.va e
    cases hv
    obtain ⟨k1, k2⟩ := tes_none (sc := sc) xc.lk hA ht
    exact ⟨_, e1, lz, fun tp htp => .inl ⟨_, tp, _, .type "NoneType", _, false, rfl, upd_same, k1, .base .non, k2, o _ f _ (go tp htp) (.bl _)⟩⟩
  · obtain ⟨v, e1, hv⟩ := m.er e
    obtain ⟨n, n1, n2⟩ := ks_at hk hc
    obtain ⟨k1, k2⟩ := tes_any (sc := sc) xc.lk hA n1 n2 ht
    obtain ⟨c1, _, _⟩ := cls_at xc.lk n1 n2
    obtain ⟨b1, _⟩ := erB_ne xc.lk.er hA (mem_of_at n1) n2
    exact ⟨_, e1, lz, fun tp htp => .inr ⟨_, c, _, tp, _, _, _, rfl, (go tp htp).sH _ _ hv, c1, b1, upd_same, k1, k2, o _ f _ (go tp htp) (.bl _)⟩⟩
/-! ### is None -/
theorem isN_slot {i : Nat} {g : Bool} {σ H Q} (h : dV L K W (.isN i g) σ H Q) : ∃ v, σ[i]? = some (some v) ∧ Q (.bl (decide (v = .non) != g)) H := by
  obtain ⟨f0, H0, f, en, m, o⟩ := h
  have o' : Out L.cls W σ f H (match en[i]? with | some (.va d) => (isD d .none).bind fun b => v1 (.bool (b != g)) | some (.er _) => v1 (.bool g) | _ => R.no) (Ac K f H Q) := o
  cases e : en[i]? with
  | none => rw [e] at o'; exact o'.elim
  | some s =>
    rw [e] at o'
    cases s with
    | er c =>
      obtain ⟨p, e1, _⟩ := m.er e
      refine ⟨_, e1, ?_⟩
      have z := (show Ac K f H Q (.bool g, false) from o') (.bl g) f H (Po.refl m.po.sub) (.bl g)
      have : (decide (V.ref p = V.non) != g) = g := by simp
      rw [this]
      exact z
    | va d =>
      obtain ⟨v, e1, hv⟩ := m.va e
      have e2 : isD d .none = .ok (decide (v = .non)) := by
        rw [(show Vr K f H v d from .inl hv).isN]
        cases d <;> rfl
      have o' : Out L.cls W σ f H ((isD d .none).bind fun b => v1 (.bool (b != g))) (Ac K f H Q) := o'
      rw [e2] at o'
      exact ⟨v, e1, (show Ac K f H Q (.bool (decide (v = .non) != g), false) from o') _ f H (Po.refl m.po.sub) (.bl _)⟩
    | un => exact o'.elim
    | ow d => exact o'.elim
    | rd d => exact o'.elim
    | fn d => exact o'.elim
    | dk d => exact o'.elim
theorem isN_of (xc : XC L N sc W X) {y : Str} {op : CmpOp} {i k : Nat} {g : Bool} {p p1 pos : Pos} (hop : (match op with | .Is => !g | .IsNot => g | _ => false) = true) (hy : nmOk N sc i y = true) :
    PE X (.Compare (.Name y p) [op] [.Constant .none k p1] pos) (dV L X.K W (.isN i g)) := by
  obtain ⟨h1, h2, h3, h4⟩ := vis_of xc hy
  cases op <;> first
    | (cases hop; done)
    | skip
  · cases g with
    | true => cases hop
    | false =>
      refine PE.imp (pe_cmpR op_isN (pe_var h1 h2 h3 h4) pe_non rfl) fun σ H Q q => ?_
      obtain ⟨v, e1, z⟩ := isN_slot q
      rw [Bool.bne_false] at z
      exact ⟨v, e1, rfl, z⟩
  · cases g with
    | false => cases hop
    | true =>
      refine PE.imp (pe_cmpR op_notN (pe_var h1 h2 h3 h4) pe_non rfl) fun σ H Q q => ?_
      obtain ⟨v, e1, z⟩ := isN_slot q
      rw [Bool.bne_true] at z
      exact ⟨v, e1, rfl, z⟩
theorem isN_b {i : Nat} {g : Bool} {en : En} {p : D × Bool} (h : L.ev (.isN i g) en = .ok p) : ∃ k, p = (.bool k, false) := by
  have h : (match en[i]? with | some (.va d) => (isD d .none).bind fun b => v1 (.bool (b != g)) | some (.er _) => v1 (.bool g) | _ => R.no) = .ok p := h
  split at h
  · obtain ⟨b, _, h2⟩ := R.of_bind h
    cases h2
    exact ⟨_, rfl⟩
  · cases h
    exact ⟨_, rfl⟩
  · cases h
theorem isN_t (xc : XC L N sc W X) {y : Str} {op : CmpOp} {i k : Nat} {g : Bool} {p p1 pos : Pos} (hop : (match op with | .Is => !g | .IsNot => g | _ => false) = true) (hy : nmOk N sc i y = true) :
    PT X (.Compare (.Name y p) [op] [.Constant .none k p1] pos) (dT L X.K W (.isN i g)) := by
  obtain ⟨h1, h2, h3, h4⟩ := vis_of xc hy
  cases op <;> first
    | (cases hop; done)
    | skip
  · cases g with
    | true => cases hop
    | false =>
      refine PT.imp (pt_cmpR op_isN (pe_var h1 h2 h3 h4) pe_non rfl) fun σ H Q q => ?_
      obtain ⟨v, e1, z⟩ := isN_slot (dT_dV (fun _ z => by cases z) (fun en p ep => isN_b ep) q)
      rw [Bool.bne_false] at z
      exact ⟨v, e1, rfl, z⟩
  · cases g with
    | false => cases hop
    | true =>
      refine PT.imp (pt_cmpR op_notN (pe_var h1 h2 h3 h4) pe_non rfl) fun σ H Q q => ?_
      obtain ⟨v, e1, z⟩ := isN_slot (dT_dV (fun _ z => by cases z) (fun en p ep => isN_b ep) q)
      rw [Bool.bne_true] at z
      exact ⟨v, e1, rfl, z⟩
end
end AW

/-! AwMth: l.count(x), l.index(x), l.extend(tuple). -/
namespace PySem.AutoSeq1
open PySem PySem.Spec PyProof.Rows
theorem ext_tup (l : Addr) (items : Array Value) (n : Nat) (b : Addr) (items2 : Array Value) (n2 : Nat) (dd : Option Addr) (sl : Array (Option Value)) (hs0 : ¬(!items.isEmpty && Builtin.List.listTooLong (items.size + items2.size)) = true) (hs1 : items.size ≤ sizeLine) (hs2 : items.size + items2.size ≤ sizeLine + 1) :
    Meets (Builtin.«list.extend» ⟨[.ref l, .ref b], []⟩) (fun _ R s => s.heap.get? l = some { cls := .type "list", dict := none, data := .seq items n, slots := #[] } ∧ s.heap.get? b = some ⟨.type "tuple", dd, .seq items2 n2, sl⟩ ∧ R (.ok (.ret Value.none)) { s with heap := s.heap.update l (Obj.mapSeq fun x => x ++ items2), toks := s.toks }) :=
  .of_wp fun prog w A R s h => by
    obtain ⟨hp, g, d, tk, os⟩ := s; obtain ⟨hl, hb, h⟩ := h; have f1 := idx_int; have f2 := sub_tuple_tuple; have f3 := sub_list_list; have f4 := sub_tuple_list; have f5 := sub_list_tuple;
    have hz' : (items ++ items2).size ≤ sizeLine + 1 := by rw [Array.size_append]; exact hs2
    wp_walk using (wpAny_updateSeq hl rfl (hz := hs1) (_hz' := hz')), wpAny_loadPart' hl, wpAny_loadPart' hb; exact ⟨_, rfl, h⟩
end PySem.AutoSeq1
namespace AW
open PySem PySem.Spec PyProof.Rows L2
section
variable {X : Cx}
/-- l.count(x) -/
def rCntD (K : PySem.W.Frag) : V → List V → Hp → VK → Prop := fun x xs H Q => ∃ (a : Addr) (y : V) (d : PyData) (ds : List PyData), x = V.ref a ∧ xs = [y] ∧ L2.Dp K H (V.ref a) (.list ds) ∧ L2.Dp K H y d ∧
  SeqAt.shaped (.list ds) = true ∧ SeqAt.shaped d = true ∧ Q (.int (ds.countP fun z => PyData.eqv z d : Nat)) H
theorem mt_countD (hu : X.A.units + 65 < cLine) : MtR X "list.count" (rCntD X.K) := by
  intro pins s σ H x xs v us Q I rx rxs h
  obtain ⟨a, y, d, ds, rfl, rfl, hl, hy, sl, sd, q⟩ := h
  cases rx
  cases rxs with
  | cons ry rt =>
    rename_i uy ut
    cases rt
    obtain ⟨bs, r1⟩ := L2.Dp.reads I d y uy hy ry
    have hxs : PyData.canLayAll0 ds = true := SeqAt.canLay_of_shaped sl
    have hroom : X.A.units + 1 + min (PyData.depthAll ds) d.depth < cLine := room_in_shaped sd hu
    cases hl with
    | lst hs ha =>
      obtain ⟨its, rv, ⟨⟨cls, dd, data, sls⟩, n, ho, hc, hdn, hdt⟩, hlen⟩ := I.list hs
      simp only at hc hdt
      subst hc hdt
      obtain ⟨as, h4⟩ := L2.Dp.readsAll I ds _ its ha rv
      have hmap : its.map (SeqAt.readOf s.heap) = ds := SeqAt.readsAll_map ds its as hxs h4
      refine call_meets PySem.F.slot_list_count ⟨_, ho, rfl⟩ PySem.F.entry_list_count (PySem.F.args_list_count_2 _ _)
        (SeqAt.list_countAt a its.toArray n dd sls uy (fun u => PyData.eqv (SeqAt.readOf s.heap u) d)) ⟨ho, SeqAt.items_eqAt (vs := its.toArray) (show ReadsAll s.heap its.toArray.toList ds as from h4) r1 hxs (SeqAt.canLay_of_shaped sd) hroom, ?_⟩
      have ec : its.toArray.toList.countP (fun u => PyData.eqv (SeqAt.readOf s.heap u) d) = ds.countP fun z => PyData.eqv z d := by
        rw [← hmap, List.countP_map]
        rfl
      refine ⟨.int (ds.countP fun z => PyData.eqv z d : Nat), H, I.tok _, ⟨s.toks, ?_⟩, q⟩
      rw [ec]
/-- l.extend(t) -/
def rExtT (K : PySem.W.Frag) : V → List V → Hp → VK → Prop := fun x vs H Q => ∃ l b xs zs, x = .ref l ∧ vs = [.ref b] ∧ H l = some (.lst xs) ∧ SqT K H b zs ∧ xs.length + zs.length < sizeLine ∧ Q .non (upd H l (.lst (xs ++ zs)))
theorem mt_extT : MtM X "list.extend" (rExtT X.K) := by
  intro pins s σ H x vs v us Q I rx rv h
  obtain ⟨l, b, xs, zs, rfl, rfl, hH, hB, hz, q⟩ := h
  cases rx
  obtain ⟨u, rfl, ru⟩ := rv.one
  cases ru
  obtain ⟨z, its, n, r, hl, e⟩ := I.lstM hH
  obtain ⟨its2, r2, ⟨⟨cls, dd, data, sls⟩, ho, hc, n2, hdt⟩, hl2⟩ := I.tuple hB
  simp only at hc hdt
  subst hc hdt
  have hv2 := r2.length
  have hsz : its.toArray.size + its2.toArray.size ≤ sizeLine := by rw [List.size_toArray, List.size_toArray]; omega
  have hlong : ¬ (!its.toArray.isEmpty && Builtin.List.listTooLong (its.toArray.size + its2.toArray.size)) = true := by
    rw [notLongL hsz, Bool.and_false]
    exact Bool.false_ne_true
  refine call_meets F.slot_list_extend ⟨_, e, rfl⟩ F.entry_list_extend (F.args_list_extend_2 _ _)
    (AutoSeq1.ext_tup l its.toArray n b its2.toArray n2 dd sls hlong (by rw [List.size_toArray]; omega) (by omega)) ⟨e, ho, ?_⟩
  refine ⟨.non, _, I.lset (its' := its ++ its2) hH e (by simp) (r.append r2) ?_, rfl, q⟩
  rw [List.length_append]
  omega
end
section
variable {L : Lk} {N : List Str} {sc : Nms} {W : WX} {X : Cx} {K : PySem.W.Frag}
theorem semM_noex (o : M1) (a : List D) (b : D) (k : Nat) : semM o a b ≠ .ex k := by
  cases o with
  | count => exact ite_noex ok_noex no_noex k
  | index =>
    refine ite_noex (fun k => ?_) no_noex k
    split
    · exact ok_noex k
    · exact no_noex k
theorem listR_noex (a : D) (k : Nat) : listR a ≠ .ex k := by cases a <;> first | exact no_noex k | exact ok_noex k
theorem imp_mth {o : M1} {a b : E} {r : V → List V → Hp → VK → Prop} (hr : ∀ {f H : Hp} {x y : V} {xs : List D} {dy : D} {p : D × Bool} {Q : VK}, Same f H → Vr K f H x (.list xs) → Vr K f H y dy → semM o xs dy = .ok p → Ac K f H Q p → r x [y] H Q) {σ H Q} (h : dV L K W (.mth o a b) σ H Q) :
    tBM K "list" r (dR L K W a) (tCons (dR L K W b) tNil) σ H Q := by
  obtain ⟨f0, H0, f, en, m, ot⟩ := h
  have o1 := Out.bind (show Out L.cls W σ f H ((rd1 a en (L.ev a en)).bind fun x => (listR x).bind fun xs => (rd1 b en (L.ev b en)).bind fun y => semM o xs y) (Ac K f H Q) from ot)
  refine ⟨f0, H0, f, en, m, o1.imp (Po.refl m.po.sub) fun dx _ h1 v f1 H1 q1 hv => ?_⟩
  obtain ⟨xs, ex, h2⟩ := h1.bind.okk (listR_noex _)
  have ed : dx = .list xs := by
    cases dx <;> first
      | (cases ex; done)
      | (cases ex; rfl)
  subst ed
  refine ⟨?_, f0, H0, f1, en, m.mono q1, h2.bind.imp q1 fun dy _ h3 u f2 H2 q2 hu => ?_⟩
  · obtain ⟨p, vs, rfl, hs, _⟩ := hv.list q1.sub
    exact .inl ⟨rfl, vs, hs⟩
  · obtain ⟨p, e, k⟩ := h3.okk (semM_noex _ _ _)
    exact hr q2.sub (hv.mono q2) hu e (k.mono (q1.trans q2))
theorem few_of {T : List Fn} {cs : List (Str × D)} {cl : List Str} {x : E} {e : Expr} {cp : Pos} (h : ckE T cs cl N sc x e = true) : ((backTo cp (starEach (e :: []) X.env)).all (fun x => !x.1) && (backToKw cp (keywordEach [] X.env)).all (fun x => x.1.isSome)
      && decide ((e :: []).length + ([] : List Keyword).length + (if ([] : List Keyword).isEmpty then 0 else 1) < 30)) = true := by
  rw [star_of h []]
  rfl
theorem mth_of (xc : XC L N sc W X) {o : M1} {a b : E} {x m : Str} {y : Expr} {px ap cp : Pos} (hm : (m1Fn o == m) = true) (ha : ckE L.T L.cons L.clsN N sc a (.Name x px) = true) (hb : ckE L.T L.cons L.clsN N sc b y = true) (hl : (ap.endLine == cp.line) = true) (ia : PE X (.Name x px) (dV L X.K W a)) (ib : PE X y (dV L X.K W b)) :
    PE X (.Call (.Attribute (.Name x px) m ap) [y] [] cp) (dV L X.K W (.mth o a b)) := by
  have e := str_beq hm
  subst e
  cases o with
  | count =>
    refine PE.imp (pe_bm PySem.F.plainAttrs_list PySem.F.slot_list_count PySem.F.type_list_count (mt_countD xc.units) (sR_of xc ha ia) (pa_cons (sR_of xc hb ib) pa_nil (star_of hb [])) rfl (few_of hb) hl (star_of hb []) rfl) fun σ H Q q => imp_mth (fun {f H x y xs dy p Q} sm hx hy e k => ?_) q
    have e : (if SeqAt.shaped (.list xs) = true ∧ SeqAt.shaped dy = true then v1 (.int (xs.countP fun z => z.eqv dy)) else .no) = R.ok p := e
    by_cases hz : SeqAt.shaped (.list xs) = true ∧ SeqAt.shaped dy = true
    · rw [if_pos hz] at e
      cases e
      obtain ⟨a, vs, rfl, hs, _⟩ := hx.list sm
      exact ⟨a, y, dy, xs, rfl, rfl, (hx.dp sm).shp hz.1, (hy.dp sm).shp hz.2, hz.1, hz.2, k _ f H (Po.refl sm) (.int _)⟩
    · rw [if_neg hz] at e
      cases e
  | index =>
    refine PE.imp (pe_bm PySem.F.plainAttrs_list PySem.F.slot_list_index PySem.F.type_list_index (mt_indexD xc.units) (sR_of xc ha ia) (pa_cons (sR_of xc hb ib) pa_nil (star_of hb [])) rfl (few_of hb) hl (star_of hb []) rfl) fun σ H Q q => imp_mth (fun {f H x y xs dy p Q} sm hx hy e k => ?_) q
    have e : (if SeqAt.shaped (.list xs) = true ∧ SeqAt.shaped dy = true then (match xs.findIdx? fun z => z.eqv dy with | some j => v1 (.int (j : Nat)) | none => .no) else .no) = R.ok p := e
    by_cases hz : SeqAt.shaped (.list xs) = true ∧ SeqAt.shaped dy = true
    · rw [if_pos hz] at e
      cases hj : xs.findIdx? fun z => z.eqv dy with
      | none => rw [hj] at e; cases e
      | some j =>
        rw [hj] at e
        cases e
        obtain ⟨hlt, h1, h2⟩ := List.findIdx?_eq_some_iff_getElem.mp hj
        obtain ⟨a, vs, rfl, hs, _⟩ := hx.list sm
        refine ⟨a, y, dy, xs, j, xs[j], rfl, rfl, (hx.dp sm).shp hz.1, (hy.dp sm).shp hz.2, hz.1, hz.2, List.getElem?_eq_getElem hlt, h1, fun i z' hi hz' => ?_, k _ f H (Po.refl sm) (.int _)⟩
        obtain ⟨hil, rfl⟩ := List.getElem?_eq_some_iff.mp hz'
        have := h2 i hi
        simpa using this
    · rw [if_neg hz] at e
      cases e
end
end AW

/-! AwDk: dicts whose keys are tuples of ints and such tuples. -/
namespace AW
open PySem PySem.Spec PyProof.Rows L2
/-! ### look-ups by entries -/
section
variable {K : PySem.W.Frag} {f : Hp}
theorem DkAll.len : ∀ {kvs : List (D × D)} {xs : List (NestedKey × Addr × Value)}, DkAll K f kvs xs → xs.length = kvs.length
  | _, _, .nil => rfl
  | _, _, .cons _ _ _ _ t => congrArg Nat.succ t.len
theorem dkLook_at {kd : D} : ∀ {kvs : List (D × D)} {xs : List (NestedKey × Addr × Value)}, DkAll K f kvs xs →
    (dlook kvs kd = none ∧ atKey xs (nk kd) = none) ∨ ∃ d a v u, dlook kvs kd = some d ∧ atKey xs (nk kd) = some (a, u) ∧ RelV v u ∧ Dp K f v d
  | _, _, .nil => .inl ⟨rfl, rfl⟩
  | _, _, .cons (k := k) (d := d) (a := a) (v := v) (u := u) (r := r) (xs := xs) hk ha hu hd t => by
    by_cases e : nk k = nk kd
    · refine .inr ⟨d, a, v, u, ?_, ?_, hu, hd⟩
      · unfold dlook
        rw [List.find?_cons]
        simp [e]
      · unfold atKey
        rw [List.find?_cons]
        simp [e]
    · have e1 : dlook ((k, d) :: r) kd = dlook r kd := by
        unfold dlook
        rw [List.find?_cons]
        simp [e]
      have e2 : atKey ((nk k, a, u) :: xs) (nk kd) = atKey xs (nk kd) := by
        unfold atKey
        rw [List.find?_cons]
        simp [e]
      rw [e1, e2]
      exact dkLook_at t
theorem dkLook_some {kd : D} {kvs : List (D × D)} {xs : List (NestedKey × Addr × Value)} (h : DkAll K f kvs xs) : (atKey xs (nk kd)).isSome = (dlook kvs kd).isSome := by
  rcases dkLook_at (kd := kd) h with ⟨a, b⟩ | ⟨d, a, v, u, b, c, _⟩
  · rw [a, b]; rfl
  · rw [b, c]; rfl
theorem put_map {kd d : D} {b : Addr} {v : V} {u : Value} (hu : RelV v u) (hd : Dp K f v d) : ∀ {kvs : List (D × D)} {xs : List (NestedKey × Addr × Value)}, DkAll K f kvs xs →
    DkAll K f (kvs.map fun x => if nk x.1 = nk kd then (x.1, d) else x) (xs.map (putAt (nk kd) u))
  | _, _, .nil => .nil
  | _, _, .cons (k := k) (d := d0) (a := a) (u := u0) hk ha hu0 hd0 t => by
    rw [List.map_cons, List.map_cons]
    by_cases e : nk k = nk kd
    · rw [if_pos e]
      have : putAt (nk kd) u (nk k, a, u0) = (nk k, a, u) := by unfold putAt; rw [if_pos e]
      rw [this]
      exact .cons hk ha hu hd (put_map (b := b) hu hd t)
    · rw [if_neg e]
      have : putAt (nk kd) u (nk k, a, u0) = (nk k, a, u0) := by unfold putAt; rw [if_neg e]
      rw [this]
      exact .cons hk ha hu0 hd0 (put_map (b := b) hu hd t)
theorem dk_snoc {kd d : D} {b : Addr} {v : V} {u : Value} (hk : keyOk kd = true) (hb : Dp K f (.ref b) kd) (hu : RelV v u) (hd : Dp K f v d) : ∀ {kvs : List (D × D)} {xs : List (NestedKey × Addr × Value)}, DkAll K f kvs xs →
    DkAll K f (kvs ++ [(kd, d)]) (xs ++ [(nk kd, b, u)])
  | _, _, .nil => .cons hk hb hu hd .nil
  | _, _, .cons h1 h2 h3 h4 t => .cons h1 h2 h3 h4 (dk_snoc hk hb hu hd t)
theorem put_at {kd d : D} {b : Addr} {v : V} {u : Value} (hk : keyOk kd = true) (hb : Dp K f (.ref b) kd) (hu : RelV v u) (hd : Dp K f v d) {kvs : List (D × D)} {xs : List (NestedKey × Addr × Value)} (h : DkAll K f kvs xs) :
    DkAll K f (dput kvs kd d) (storedH xs (nk kd) b u) := by
  have e := dkLook_some (kd := kd) h
  unfold dput storedH
  cases hs : (dlook kvs kd).isSome with
  | true =>
    rw [hs] at e
    rw [if_pos rfl, if_pos e]
    exact put_map (b := b) hu hd h
  | false =>
    rw [hs] at e
    rw [if_neg (by simp), if_neg (by rw [e]; simp)]
    exact dk_snoc hk hb hu hd h
theorem put_len (xs : List (NestedKey × Addr × Value)) (k : NestedKey) (b : Addr) (u : Value) : (storedH xs k b u).length ≤ xs.length + 1 := by
  unfold storedH
  split
  · rw [List.length_map]; omega
  · rw [List.length_append]; simp
end
/-! ### on the heap -/
section
variable {X : Cx} {pins : List (Addr × Obj)} {σ : L2.St} {H : Hp} {s : Shared}
mutual
theorem nested_at (I : Inv X pins σ H s) : ∀ (d : D) (v : V) (u : Value), keyB d = true → Dp X.K H v d → RelV v u → NestedIs s.heap (nk d) u
  | .int i, _, _, _, h, r => by
    cases h
    obtain ⟨t, rfl⟩ := r
    exact .int i t
  | .tuple ds, _, _, hk, h, r => by
    cases h with
    | tup hs ha =>
      cases r
      obtain ⟨its, rv, ⟨o, ho, hc, n, hd⟩, _⟩ := I.tuple hs
      exact .tup ho hc hd (by simpa using nesteds_at I ds _ its hk ha rv)
  | .none, _, _, hk, _, _ => by cases hk
  | .bool _, _, _, hk, _, _ => by cases hk
  | .str _, _, _, hk, _, _ => by cases hk
  | .list _, _, _, hk, _, _ => by cases hk
  | .dict _, _, _, hk, _, _ => by cases hk
theorem nesteds_at (I : Inv X pins σ H s) : ∀ (ds : List D) (vs : List V) (us : List Value), keyBs ds = true → DpAll X.K H vs ds → Vals vs us → NestedAll s.heap (nks ds) us
  | [], _, _, _, h, r => by
    cases h
    cases r
    exact .nil
  | d :: ds, _, _, hk, h, r => by
    have hk' := Bool.and_eq_true_iff.mp (show (keyB d && keyBs ds) = true from hk)
    cases h with
    | cons h1 h2 =>
      cases r with
      | cons r1 r2 => exact .cons (nested_at I d _ _ hk'.1 h1 r1) (nesteds_at I ds _ _ hk'.2 h2 r2)
end
theorem keyOk_of {d : D} (h : keyOk d = true) : keyB d = true ∧ (nk d).depth ≤ 8 := by
  unfold keyOk at h
  rw [Bool.and_eq_true, Bool.and_eq_true, decide_eq_true_eq] at h
  exact ⟨h.1.2, h.2⟩
theorem key_at (I : Inv X pins σ H s) {d : D} {b : Addr} (h : keyOk d = true) (hd : Dp X.K H (.ref b) d) : (nestedKind X.prog X.w).is s.heap (nk d) b :=
  ⟨nested_at I d _ _ (keyOk_of h).1 hd (show RelV (.ref b) (.ref b) from rfl), (keyOk_of h).2⟩
theorem keys_at (I : Inv X pins σ H s) : ∀ {kvs : List (D × D)} {xs : List (NestedKey × Addr × Value)}, DkAll X.K H kvs xs → ∀ x ∈ xs, (nestedKind X.prog X.w).is s.heap x.1 x.2.1
  | _, _, .nil, x, hx => nomatch hx
  | _, _, .cons hk ha _ _ t, x, hx => by
    rcases List.mem_cons.mp hx with rfl | hx
    · exact key_at I hk ha
    · exact keys_at I t x hx
theorem ents_at {K : PySem.W.Frag} {f : Hp} {P : Program} {w : World} : ∀ {kvs : List (D × D)} {xs : List (NestedKey × Addr × Value)}, DkAll K f kvs xs → xs.map (entryOfKey (nestedKind P w)) = xs.map fun x => (⟨kh x.1, .ref x.2.1, x.2.2⟩ : DictEntry)
  | _, _, .nil => rfl
  | _, _, .cons (k := k) hk _ _ _ t => by
    rw [List.map_cons, List.map_cons, ents_at t]
    congr 1
    show (⟨(nk k).hash w, _, _⟩ : DictEntry) = ⟨kh (nk k), _, _⟩
    rw [kh_hash w k (keyOk_of hk).1]
theorem dicO_at (I : Inv X pins σ H s) {p : Addr} {kvs : List (D × D)} {xs : List (NestedKey × Addr × Value)} (hH : H p = some (dicO xs p)) (hn : (xs.map (·.1)).Nodup) (h : DkAll X.K H kvs xs) : s.heap.DictOfH (nestedKind X.prog X.w) p xs := by
  obtain ⟨⟨o, es, ep, h1, h2, h3, h4⟩, _, _⟩ := (show ObjOk X.prog X.w H s.heap p (dicO xs p) from I.hok p _ hH)
  exact ⟨o, es, ep, h1, h2, h3, by rw [h4, ents_at h], keys_at I h, hn⟩
theorem dicO_new {P : Program} {w : World} {K : PySem.W.Frag} {f H : Hp} {h : Heap} {p : Addr} {kvs : List (D × D)} {xs : List (NestedKey × Addr × Value)} (d : DkAll K f kvs xs) (hd : h.DictOfH (nestedKind P w) p xs) : ObjOk P w H h p (dicO xs p) := by
  obtain ⟨o, es, ep, h1, h2, h3, h4, _⟩ := hd
  exact ⟨⟨o, es, ep, h1, h2, h3, by rw [h4, ents_at d]⟩, ⟨o, h1⟩, fun g1 g2 ⟨o', es', ep', a1, a2⟩ k => ⟨o', es', ep', k o' a1, a2⟩⟩
theorem room_n {A : Around} (h : A.units + 65 < cLine) : (nestedKind X.prog X.w).room A.in1 := by
  show A.in1.units + 8 < cLine
  rw [Around.in1_units]
  omega
/-! ### the rules -/
/-- {} that is filled later -/
def tDNewN : TE := fun _ H Q => ∀ p, (p == sysModules) = false → H p = none → Q (.ref p) (upd H p (dicO [] p))
theorem pe_dnewN {pos : Pos} : PE X (.Dict [] [] pos) tDNewN := ⟨fun pins s σ H Q I h =>
  wpAny_Dict_empty ⟨.ref s.heap.objs.size, _, I.laid (a := s.heap.objs.size) (o := dicO [] s.heap.objs.size) (t' := s.toks) (fun _ _ q => Heap.get?_push_of_some _ q) (Nat.le_refl _)
    (dicO_new (K := X.K) (f := H) .nil (Heap.DictOfH.new s.heap)), rfl, h _ (beq_eq_false_iff_ne.mpr (Ne.symm (Nat.ne_of_lt I.big))) (I.hok.fresh (Nat.le_refl _))⟩⟩
/-- d.get(k, x) -/
def rGetN (K : PySem.W.Frag) : V → List V → Hp → VK → Prop := fun x vs H Q => ∃ (p b : Addr) (z : V) (xs : List (NestedKey × Addr × Value)) (kvs : List (D × D)) (kd : D) (f : Hp), x = .ref p ∧ vs = [.ref b, z] ∧ (p == sysModules) = false ∧ H p = some (dicO xs p) ∧ (xs.map (·.1)).Nodup ∧
  DkAll K f kvs xs ∧ Same f H ∧ keyOk kd = true ∧ Dp K f (.ref b) kd ∧ (dlook kvs kd = none → Q z H) ∧ ∀ d, dlook kvs kd = some d → ∀ v, Dp K f v d → Q v H
theorem mt_getN (hu : X.A.units + 65 < cLine) : MtR X "dict.get" (rGetN X.K) := by
  intro pins s σ H x vs v us Q I rx rxs h
  obtain ⟨p, b, z, xs, kvs, kd, f, rfl, rfl, hp, hH, hn, hk, sm, ko, hb, q1, q2⟩ := h
  obtain rfl : v = Value.ref p := rx
  cases rxs with
  | cons ry rt =>
    rename_i uy ut
    cases rt with
    | cons rz rt2 =>
      rename_i uz ut2
      cases rt2
      obtain rfl : uy = Value.ref b := ry
      have dd := dicO_at I hH hn (hk.same sm)
      refine call_meetsIn PySem.F.slot_dict_get dd.typeIs PySem.F.entry_dict_get (PySem.F.args_dict_get_3 _ _ _) (meetsH_dict_get_default (nestedKind X.prog X.w) p b hp uz) ⟨room_n (X := X) hu, nk kd, xs, key_at I ko (dp_same sm hb), dd, ?_⟩
      rcases dkLook_at (kd := kd) hk with ⟨e1, e2⟩ | ⟨d, a, v', u', e1, e2, r', d'⟩
      · rw [e2]
        exact ⟨z, H, I.tok _, rz, q1 e1⟩
      · rw [e2]
        exact ⟨v', H, I.tok _, r', q2 d e1 v' d'⟩
/-- d[k] = v -/
def rSetN (K : PySem.W.Frag) : V → V → V → Hp → (Hp → Prop) → Prop := fun o i v H Q => ∃ (p b : Addr) (xs : List (NestedKey × Addr × Value)) (kvs : List (D × D)) (kd d : D) (f : Hp), o = .ref p ∧ i = .ref b ∧ H p = some (dicO xs p) ∧ (xs.map (·.1)).Nodup ∧ xs.length ≤ sizeLine ∧
  DkAll K f kvs xs ∧ Same f H ∧ keyOk kd = true ∧ Dp K f (.ref b) kd ∧ Dp K f v d ∧ ∀ u, RelV v u → ((storedH xs (nk kd) b u).map (·.1)).Nodup → Q (upd H p (dicO (storedH xs (nk kd) b u) p))
theorem set_dk (hu : X.A.units + 65 < cLine) : PSet X (rSetN X.K) := by
  intro pins s σ H o i v ov iv u Q I ro ri rv h
  obtain ⟨p, b, xs, kvs, kd, d, f, rfl, rfl, hH, hn, hl, hk, sm, ko, hb, hd, q⟩ := h
  obtain rfl : ov = Value.ref p := ro
  obtain rfl : iv = Value.ref b := ri
  have dd := dicO_at I hH hn (hk.same sm)
  refine wpAny_setItem_heap (hsz := hl) (room_n (X := X) hu) (key_at I ko (dp_same sm hb)) dd fun h' dd' hs => ?_
  have he : ∃ q, h'.get? p = some q := let ⟨q, _, _, hq, _⟩ := dd'; ⟨q, hq⟩
  have hn' : ((storedH xs (nk kd) b u).map (·.1)).Nodup := let ⟨_, _, _, _, _, _, _, _, h5⟩ := dd'; h5
  exact ⟨_, d_write I (by rw [hH]; exact True.intro) hs he (dicO_new (put_at ko hb rv hd hk) dd'), q u rv hn'⟩
/-- a list's place, or a dict's -/
def rSetLN (K : PySem.W.Frag) : V → V → V → Hp → (Hp → Prop) → Prop := fun o i v H Q => rSetL o i v H Q ∨ rSetN K o i v H Q
theorem set_ln (hu : X.A.units + 65 < cLine) : PSet X (rSetLN X.K) := by
  intro pins s σ H o i v ov iv u Q I ro ri rv h
  rcases h with h | h
  · exact set_list pins s σ H o i v ov iv u Q I ro ri rv h
  · exact set_dk hu pins s σ H o i v ov iv u Q I ro ri rv h
/-- a method of the dict in a slot -/
def tBMN (i : Nat) (r : V → List V → Hp → VK → Prop) (t : TA) : TE := fun σ H Q => ∃ p xs, σ[i]? = some (some (.ref p)) ∧ H p = some (dicO xs p) ∧ t σ H fun vs H2 => r (.ref p) vs H2 Q
theorem pe_getN {y : Str} {py apos cpos : Pos} {e : Expr} {es : List Expr} {i : Nat} {t : TA} (hu : X.A.units + 65 < cLine) (hN : X.N[i]? = some y) (hv : Vis X.env.scope y) (hdb : (y == ("__debug__" : Str)) = false) (hcd : (y == ("__classdict__" : Str)) = false) (ha : PA X (e :: es) t)
    (hfew : ((backTo cpos (starEach (e :: es) X.env)).all (fun x => !x.1) && (backToKw cpos (keywordEach [] X.env)).all (fun x => x.1.isSome)
      && decide ((e :: es).length + ([] : List Keyword).length + (if ([] : List Keyword).isEmpty then 0 else 1) < 30)) = true)
    (hline : (apos.endLine == cpos.line) = true) (hs : starEach (e :: es) X.env = (false, eval e X.env) :: starEach es X.env) (hplain : (backTo cpos (starEach es X.env)).any (·.1) = false) :
    PE X (.Call (.Attribute (.Name y py) "get" apos) (e :: es) [] cpos) (tBMN i (rGetN X.K) t) := by
  refine ⟨fun pins s σ H Q I h => ?_⟩
  obtain ⟨p, xs, hsl, hH, ht⟩ := h
  refine wpAny_Call_method_late rfl hfew hline rfl (thn ((pe_var (pos := py) hN hv hdb hcd).run pins s σ H (fun v H1 => v = .ref p ∧ H1 = H) I ⟨.ref p, hsl, rfl, rfl⟩) fun v s1 ⟨x, H1, I1, r1, q1⟩ => ?_)
  obtain ⟨rfl, rfl⟩ := q1
  obtain rfl : v = Value.ref p := r1
  obtain ⟨⟨o, es', ep, h1, h2, h3, h4⟩, _, _⟩ := (show ObjOk X.prog X.w H1 s1.heap p (dicO xs p) from I1.hok p _ hH)
  refine ⟨"dict", "dict.get", PySem.F.plainAttrs_dict, PySem.F.slot_dict_get, PySem.F.type_dict_get, ⟨o, h1, h2.1⟩, fun a q => ?_, ?_⟩
  · cases q
    exact ⟨o, h1, h2.2.1⟩
  have hA := ha.run cpos pins s1 σ H1 _ I1 ht
  rw [hs] at hA ⊢
  refine Calls.callWith_builtin (by show (false || (backTo cpos (starEach es X.env)).any (·.1)) = false; rw [hplain] <;> rfl) (Calls.evalArgs_plain ?_)
  exact thn hA fun us s2 ⟨vs, H2, I2, r2, q2⟩ => mt_getN hu pins s2 σ H2 (.ref p) vs (.ref p) us Q I2 rfl r2 q2
end
section
variable {L : Lk} {N : List Str} {sc : Nms} {W : WX} {X : Cx} {K : PySem.W.Frag}
theorem key_ref {f : Hp} {d : D} {v : V} (hk : keyOk d = true) (h : Dp K f v d) : ∃ b, v = .ref b := by
  unfold keyOk at hk
  rw [Bool.and_eq_true, Bool.and_eq_true] at hk
  cases h with
  | tup h a => exact ⟨_, rfl⟩
  | lst h a => exact ⟨_, rfl⟩
  | emp h => exact ⟨_, rfl⟩
  | non => cases hk.1.1
  | bl => cases hk.1.1
  | int => cases hk.1.1
  | str => cases hk.1.1
theorem imp_dget {i : Nat} {k x : E} {σ H Q} (h : dV L K W (.dget i k x) σ H Q) : tBMN i (rGetN K) (tCons (dV L K W k) (tCons (dV L K W x) tNil)) σ H Q := by
  obtain ⟨f0, H0, f, en, m, ot⟩ := h
  have ot : Out L.cls W σ f H (match en[i]? with
    | some (.dk kvs) => (L.ev k en).bind fun kd => (L.ev x en).bind fun xd => if keyOk kd.1 = true then (match dlook kvs kd.1 with
      | some d => v1 d
      | none => v1 xd.1) else .no
    | _ => .no) (Ac K f H Q) := ot
  cases e : en[i]? with
  | none => rw [e] at ot; exact ot.elim
  | some s =>
    rw [e] at ot
    cases s with
    | dk kvs =>
      obtain ⟨p, xs, e1, hp, h0, hf, hH, hn, hl, hk⟩ := m.dk e
      have o1 := Out.bind (show Out L.cls W σ f H ((L.ev k en).bind fun kd => (L.ev x en).bind fun xd => if keyOk kd.1 = true then (match dlook kvs kd.1 with
        | some d => v1 d
        | none => v1 xd.1) else .no) (Ac K f H Q) from ot)
      refine ⟨p, xs, e1, hH, f0, H0, f, en, m, o1.imp (Po.refl m.po.sub) fun kd _ h1 v f1 H1 q1 hv => ?_⟩
      obtain ⟨f2, q2, hv2⟩ := hv.settle q1
      refine ⟨f0, H0, f2, en, m.mono q2, h1.bind.imp q2 fun xd _ h3 w f3 H3 q3 hw => ?_⟩
      obtain ⟨f4, q4, hw2⟩ := hw.settle q3
      by_cases ko : keyOk kd.1 = true
      · rw [if_pos ko] at h3
        have hv4 := dp_same q4.sf hv2
        obtain ⟨b, rfl⟩ := key_ref ko hv4
        obtain ⟨p', xs', e1', hp', h0', hf', hH', hn', hl', hk'⟩ := (m.mono (q2.trans q4)).dk e
        rw [e1] at e1'
        cases e1'
        refine ⟨p, b, w, xs', kvs, kd.1, f4, rfl, rfl, hp', hH', hn', hk', q4.sub, ko, hv4, fun en' => ?_, fun d ed v' hd' => ?_⟩
        · rw [en'] at h3
          exact (show Ac K f H Q (xd.1, false) from h3) w f4 H3 (q2.trans q4) hw2
        · rw [ed] at h3
          exact (show Ac K f H Q (d, false) from h3) v' f4 H3 (q2.trans q4) hd'
      · rw [if_neg ko] at h3
        exact h3.elim
    | un => exact ot.elim
    | va d => exact ot.elim
    | ow d => exact ot.elim
    | rd d => exact ot.elim
    | er d => exact ot.elim
    | fn d => exact ot.elim
theorem dget_of (xc : XC L N sc W X) {i : Nat} {k x : E} {y m : Str} {a b : Expr} {py ap cp : Pos} (hy : nmOk N sc i y = true) (hm : (m == ("get" : Str)) = true) (ha : ckE L.T L.cons L.clsN N sc k a = true) (hb : ckE L.T L.cons L.clsN N sc x b = true) (hl : (ap.endLine == cp.line) = true) (ia : PE X a (dV L X.K W k)) (ib : PE X b (dV L X.K W x)) :
    PE X (.Call (.Attribute (.Name y py) m ap) [a, b] [] cp) (dV L X.K W (.dget i k x)) := by
  have e := str_beq hm
  subst e
  obtain ⟨h1, h2, h3, h4⟩ := vis_of xc hy
  refine PE.imp (pe_getN xc.units h1 h2 h3 h4 (pa_cons ia (pa_cons ib pa_nil (star_of hb [])) (star_of ha [b])) ?_ hl (star_of ha [b]) ?_) fun σ H Q q => imp_dget q
  · rw [star_of ha [b], star_of hb []]
    rfl
  · rw [star_of hb []]
    rfl
end
end AW

/-! AwDl: list(d.values()). -/
namespace AW
open PySem PySem.Spec PyProof.Rows L2
/-- a view of the values of the dict at p -/
def viewV (p v : Addr) : HO := .ext fun h => h.IsValuesView v p
theorem dk_vals {K : PySem.W.Frag} {f : Hp} : ∀ {kvs : List (D × D)} {xs : List (NestedKey × Addr × Value)}, DkAll K f kvs xs → ∃ vs, Vals vs (xs.map fun x => x.2.2) ∧ DpAll K f vs (kvs.map (·.2))
  | _, _, .nil => ⟨[], .nil, .nil⟩
  | _, _, .cons hk ha hu hd t =>
    let ⟨vs, h1, h2⟩ := dk_vals t
    ⟨_ :: vs, .cons hu h1, .cons hd h2⟩
section
variable {prog : Program} {w : World} {r d : Addr} {es : Array DictEntry} {ep : Nat}
theorem kdl_valsRaw : PySem.W.KdlSrc prog w "dict_values" r d es.size (fun i v => ∃ hi : i < es.size, v = es[i].val) (fun h => h.IsValuesView r d ∧ h.DictRaw d es ep) where
  type := fun _ hm => hm.1.typeIs
  there := fun _ hm => ⟨let ⟨_, ho, _⟩ := hm.1; Heap.lt_size ho, let ⟨_, ho, _⟩ := hm.2; Heap.lt_size ho⟩
  keep := fun _ _ hm hk => ⟨let ⟨o, ho, x⟩ := hm.1; ⟨o, hk r (.inl rfl) o ho, x⟩, hm.2.at fun o e => hk d (.inr rfl) o e⟩
  notList := by decide
  notTuple := by decide
  hint := fun _ _ _ _ hm hq => PySem.W.kdl_hint_values hm.1.typeIs hq
  iter := fun _ s hh hm => ⟨_, _, (fun _ _ hq => wpAny_pyIter_values_raw hm.1 hm.2 hq), Walks.rawValues hh _ d (Nat.ne_of_lt (let ⟨_, ho, _⟩ := hm.2; Heap.lt_size ho)) es ep,
    ⟨⟨_, Heap.get?_push_size _ rfl, rfl, rfl⟩, hm.2.at fun o e => Heap.get?_push_of_some _ e⟩⟩
end
section
variable {X : Cx}
theorem raw_at {P : Program} {w : World} {H : Hp} {h : Heap} {p : Addr} {xs : List (NestedKey × Addr × Value)} (ok : HOk P w H h) (hH : H p = some (dicO xs p)) : ∃ es ep, h.DictRaw p es ep ∧ es.toList = xs.map fun x => (⟨kh x.1, .ref x.2.1, x.2.2⟩ : DictEntry) := by
  obtain ⟨⟨o, es, ep, h1, h2, h3, h4⟩, _, _⟩ := (show ObjOk P w H h p (dicO xs p) from ok p _ hH)
  exact ⟨es, ep, ⟨o, h1, h2, h3⟩, h4⟩
def rValsN : V → List V → Hp → VK → Prop := fun x vs H Q => ∃ (p : Addr) (xs : List (NestedKey × Addr × Value)), x = .ref p ∧ vs = [] ∧ (p == sysModules) = false ∧ H p = some (dicO xs p) ∧ ∀ v, H v = none → Q (.ref v) (upd H v (viewV p v))
theorem mt_valsN : MtR X "dict.values" rValsN := by
  intro pins s σ H x vs v us Q I rx rxs h
  obtain ⟨p, xs, rfl, rfl, hp, hH, q⟩ := h
  obtain rfl : v = Value.ref p := rx
  cases rxs
  obtain ⟨es, ep, raw, he⟩ := raw_at I.hok hH
  refine call_meetsIn PySem.F.slot_dict_values raw.typeIs PySem.F.entry_dict_values (PySem.F.args_dict_values_1 _) (meets_dict_values_raw p hp) ⟨⟨es, ep, raw⟩, ?_⟩
  refine ⟨.ref s.heap.objs.size, _, I.laid (a := s.heap.objs.size) (o := viewV p s.heap.objs.size) (t' := s.toks) (fun _ _ q => Heap.get?_push_of_some _ q) (Nat.le_refl _) ?_, rfl, q _ (I.hok.fresh (Nat.le_refl _))⟩
  exact ⟨⟨_, Heap.get?_push_size _ rfl, rfl, rfl⟩, ⟨_, Heap.get?_push_size _ rfl⟩, fun g1 g2 ⟨o, a1, a2⟩ k => ⟨o, k o a1, a2⟩⟩
def rListV (K : PySem.W.Frag) : List V → Hp → VK → Prop := fun xs H Q => ∃ (v p : Addr) (es : List (NestedKey × Addr × Value)) (kvs : List (D × D)) (f : Hp), xs = [.ref v] ∧ H v = some (viewV p v) ∧ H p = some (dicO es p) ∧ es.length ≤ sizeLine ∧ DkAll K f kvs es ∧
  ∀ l vs, H l = none → DpAll K f vs (kvs.map (·.2)) → Q (.ref l) (upd H l (.lst vs))
theorem cr_listV (hc : X.calm = true) : CallR X (.type "list") (rListV X.K) := by
  intro pins s σ H xs us Q I r h
  obtain ⟨v, p, ks, kvs, f, rfl, hv, hH, hl, hk, q⟩ := h
  obtain ⟨u, rfl, rx⟩ := r.one
  obtain rfl : u = Value.ref v := rx
  obtain ⟨es, ep, raw, he⟩ := raw_at I.hok hH
  obtain ⟨view, _, _⟩ := (show ObjOk X.prog X.w H s.heap v (viewV p v) from I.hok v _ hv)
  obtain ⟨vs, rv, dv⟩ := dk_vals hk
  have l1 : es.size = ks.length := by rw [← Array.length_toList, he, List.length_map]
  refine PySem.W.kdl_call (kdl_valsRaw (r := v) (d := p) (es := es) (ep := ep)) (I.ok.hd hc) ⟨view, raw⟩ (by rw [l1]; exact hl) fun h' tk acc' c' kp e it => ?_
  have ea : acc'.toList = ks.map fun x => x.2.2 := by
    have hla : acc'.toList.length = ks.length := by rw [Array.length_toList, it.1]; exact l1
    apply List.ext_getElem?
    intro j
    rw [List.getElem?_map]
    cases hj : acc'.toList[j]? with
    | none =>
      have h1 := List.getElem?_eq_none_iff.mp hj
      rw [List.getElem?_eq_none (by omega)]
      rfl
    | some z =>
      obtain ⟨hi, hz⟩ := it.2 j z (by rw [← Array.getElem?_toList]; exact hj)
      have h2 : es[j]? = some es[j] := Array.getElem?_eq_getElem hi
      have h3 : es.toList[j]? = some es[j] := by rw [Array.getElem?_toList]; exact h2
      rw [he, List.getElem?_map] at h3
      cases hb : ks[j]? with
      | none => rw [hb] at h3; cases h3
      | some b =>
        rw [hb] at h3
        have h4 := Option.some.inj h3
        rw [hz, ← h4]
        rfl
  rw [← ea] at rv
  have hz : vs.length ≤ sizeLine := by
    have := rv.length
    rw [this, Array.length_toList, it.1, l1]
    exact hl
  refine ⟨.ref s.heap.objs.size, _, I.laid (t' := tk) (o := .lst vs) kp (Nat.le_refl _) ?_, rfl, q _ _ (I.hok.fresh (Nat.le_refl _)) dv⟩
  exact ⟨hz, acc'.toList, c', rv, by rw [Array.toArray_toList]; exact e⟩
end
section
variable {L : Lk} {N : List Str} {sc : Nms} {W : WX} {X : Cx} {K : PySem.W.Frag}
def tValsN (i : Nat) : TE := fun σ H Q => ∃ p xs, σ[i]? = some (some (.ref p)) ∧ (p == sysModules) = false ∧ H p = some (dicO xs p) ∧ ∀ v, H v = none → Q (.ref v) (upd H v (viewV p v))
theorem pe_valsN {y : Str} {py apos cpos : Pos} {i : Nat} (hN : X.N[i]? = some y) (hv : Vis X.env.scope y) (hdb : (y == ("__debug__" : Str)) = false) (hcd : (y == ("__classdict__" : Str)) = false) (hline : (apos.endLine == cpos.line) = true) :
    PE X (.Call (.Attribute (.Name y py) "values" apos) [] [] cpos) (tValsN i) := by
  refine ⟨fun pins s σ H Q I h => ?_⟩
  obtain ⟨p, xs, hsl, hp, hH, q⟩ := h
  refine wpAny_Call_method0_late rfl hline (thn ((pe_var (pos := py) hN hv hdb hcd).run pins s σ H (fun v H1 => v = .ref p ∧ H1 = H) I ⟨.ref p, hsl, rfl, rfl⟩) fun v s1 ⟨x, H1, I1, r1, q1⟩ => ?_)
  obtain ⟨rfl, rfl⟩ := q1
  obtain rfl : v = Value.ref p := r1
  obtain ⟨⟨o, es', ep, h1, h2, h3, h4⟩, _, _⟩ := (show ObjOk X.prog X.w H1 s1.heap p (dicO xs p) from I1.hok p _ hH)
  refine ⟨"dict", "dict.values", PySem.F.plainAttrs_dict, PySem.F.slot_dict_values, PySem.F.type_dict_values, ⟨o, h1, h2.1⟩, fun a q => ?_, ?_⟩
  · cases q
    exact ⟨o, h1, h2.2.1⟩
  exact Calls.callWith_builtin rfl (PySem.evalArgs_none (mt_valsN pins s1 σ H1 (.ref p) [] (.ref p) [] Q I1 rfl .nil ⟨p, xs, rfl, rfl, hp, hH, q⟩))
theorem imp_dvals {i : Nat} {σ H Q} (h : dV L K W (.dvals i) σ H Q) : tCB (rListV K) (tCons (tValsN i) tNil) σ H Q := by
  obtain ⟨f0, H0, f, en, m, ot⟩ := h
  have ot : Out L.cls W σ f H (match en[i]? with
    | some (.dk kvs) => R.ok (.list (kvs.map (·.2)), true)
    | _ => .no) (Ac K f H Q) := ot
  cases e : en[i]? with
  | none => rw [e] at ot; exact ot.elim
  | some s =>
    rw [e] at ot
    cases s with
    | dk kvs =>
      have ot : Ac K f H Q (.list (kvs.map (·.2)), true) := ot
      obtain ⟨p, xs, e1, hp, h0, hf, hH, hn, hl, hk⟩ := m.dk e
      refine ⟨p, xs, e1, hp, hH, fun v hv => ?_⟩
      refine ⟨v, p, xs, kvs, f, rfl, upd_same, by rw [upd_ne (ne_of_none hH hv)]; exact hH, hl, hk, fun l vs hll hvs => ?_⟩
      have q1 : Po f H f (upd H v (viewV p v)) := (Po.refl m.po.sub).newH hv
      have q2 : Po f H f (upd (upd H v (viewV p v)) l (.lst vs)) := q1.newH hll
      exact ot _ f _ q2 ⟨_, l, vs, rfl, rfl, same_none q1.sH hll, same_none q1.sub hll, upd_same, hvs⟩
    | un => exact ot.elim
    | va d => exact ot.elim
    | ow d => exact ot.elim
    | rd d => exact ot.elim
    | er d => exact ot.elim
    | fn d => exact ot.elim
theorem dvals_of (xc : XC L N sc W X) {i : Nat} {f y m : Str} {fp py ap cp pos : Pos} (hf : (f == ("list" : Str)) = true) (hg : glOk sc f = true) (hy : nmOk N sc i y = true) (hm : (m == ("values" : Str)) = true) (hl : (ap.endLine == cp.line) = true) :
    PE X (.Call (.Name f fp) [.Call (.Attribute (.Name y py) m ap) [] [] cp] [] pos) (dV L X.K W (.dvals i)) := by
  have e := str_beq hf
  subst e
  have e := str_beq hm
  subst e
  obtain ⟨g1, g2, g3⟩ := gl_of xc hg
  obtain ⟨h1, h2, h3, h4⟩ := vis_of xc hy
  exact PE.imp (pe_callTy (cr_listV xc.calm) g1 (blt_of xc (by decide +kernel)) (by decide +kernel) (pa_cons (pe_valsN h1 h2 h3 h4 hl) pa_nil rfl) g3 g2 rfl rfl) fun σ H Q q => imp_dvals q
end
end AW

/-! AwAll: every expression that the check lets by. -/
namespace AW
open PySem PySem.Spec PyProof.Rows L2

theorem not_false {a : Bool} (h : (!a) = true) : a = false := by cases a <;> simp_all
theorem pw_of {X : Cx} {op : BoolOp} {es : List Expr} {p : Pos} {t : TT} (h : PT X (.BoolOp op es p) t) : PW X (.BoolOp op es p) t := ⟨fun _ pins s σ H Q I z => h.run pins s σ H Q I z⟩
section
variable {L : Lk}
mutual
theorem sE : ∀ (x : E) {N : List Str} {sc : Nms} {W : WX} {X : Cx} (_ : XC L N sc W X) (e : Expr), ckE L.T L.cons L.clsN N sc x e = true → PE X e (dV L X.K W x)
  | .var i, N, sc, W, X, xc, e, h => by
    unfold ckE at h
    split at h
    · obtain ⟨h1, h2, h3, h4⟩ := vis_of xc h
      exact PE.imp (pe_var h1 h2 h3 h4) fun σ H Q q => imp_var q
    · cases h
  | .peek i, N, sc, W, X, xc, e, h => by
    unfold ckE at h
    split at h
    · obtain ⟨h1, h2, h3, h4⟩ := vis_of xc h
      exact PE.imp (pe_var h1 h2 h3 h4) fun σ H Q ⟨f0, H0, f, en, m, ot⟩ => (show False from ot).elim
    · cases h
  | .con d, N, sc, W, X, xc, e, h => by
    unfold ckE at h
    split at h
    · exact con_of h
    · cases h
  | .emp, N, sc, W, X, xc, e, h => by
    unfold ckE at h
    split at h
    · exact emp_of
    · cases h
  | .glb j, N, sc, W, X, xc, e, h => by
    unfold ckE at h
    split at h
    · obtain ⟨h1, h2⟩ := and2 h
      exact glb_of xc h1 h2
    · cases h
  | .tup es, N, sc, W, X, xc, e, h => by
    unfold ckE at h
    split at h
    · exact PE.imp (pe_tup (sEs es xc _ h)) fun σ H Q q => imp_tup q
    · cases h
  | .lst es, N, sc, W, X, xc, e, h => by
    unfold ckE at h
    split at h
    · exact PE.imp (pe_lst (sEs es xc _ h)) fun σ H Q q => imp_lst q
    · cases h
  | .rep es n, N, sc, W, X, xc, e, h => by
    unfold ckE at h
    split at h
    · obtain ⟨h1, h2⟩ := and2 h
      exact PE.imp (pe_op op_rep (pe_lst (sEs es xc _ h1)) (sE n xc _ h2)) fun σ H Q q => imp_rep q
    · cases h
  | .op1 o a, N, sc, W, X, xc, e, h => by
    unfold ckE at h
    split at h
    · obtain ⟨h1, h2⟩ := and2 h
      cases o <;> first
        | (cases h1; done)
        | exact PE.imp (pe_un un_A (sR_of xc h2 (sE a xc _ h2))) fun σ H Q q => imp_op1 q
    · obtain ⟨h1, h2⟩ := and2 h
      obtain ⟨h3, h4⟩ := and2 h1
      exact call1_blt xc h3 h4 h2 (sE a xc _ h2)
    · cases h
  | .op2 o a b, N, sc, W, X, xc, e, h => by
    unfold ckE at h
    split at h
    · obtain ⟨h1, h2⟩ := and2 h
      obtain ⟨h3, h4⟩ := and2 h1
      exact PE.imp (pe_op (op_bin xc.py h3) (sR_of xc h4 (sE a xc _ h4)) (sR_of xc h2 (sE b xc _ h2))) fun σ H Q q => imp_op2 q
    · obtain ⟨h1, h2⟩ := and2 h
      obtain ⟨h3, h4⟩ := and2 h1
      obtain ⟨h5, h6⟩ := and2 h3
      exact PE.imp (pe_cmpR (op_cmp xc.units h5) (sR_of xc h4 (sE a xc _ h4)) (sR_of xc h2 (sE b xc _ h2)) (not_false h6)) fun σ H Q q => imp_op2 q
    · obtain ⟨h1, h2⟩ := and2 h
      obtain ⟨h3, h4⟩ := and2 h1
      obtain ⟨h5, h6⟩ := and2 h3
      cases o <;> first
        | (cases h5; done)
        | exact PE.imp (pe_ix ix_A (sR_of xc h6 (sE a xc _ h6)) (sR_of xc h4 (sE b xc _ h4)) (plain_ix h2)) fun σ H Q q => imp_op2 q
    · obtain ⟨h1, h2⟩ := and2 h
      obtain ⟨h3, h4⟩ := and2 h1
      obtain ⟨h5, h6⟩ := and2 h3
      exact call2_blt xc h5 h6 h4 h2 (sE a xc _ h4) (sE b xc _ h2)
    · cases h
  | .chn o p a b c, N, sc, W, X, xc, e, h => by
    unfold ckE at h
    split at h
    · obtain ⟨h, c3⟩ := and2 h
      obtain ⟨h, c2⟩ := and2 h
      obtain ⟨h, c1⟩ := and2 h
      obtain ⟨h, hm⟩ := and2 h
      obtain ⟨h1, h2⟩ := and2 h
      exact PE.imp (pe_chain (op_cmp xc.units h1) (op_cmp xc.units h2) (sR_of xc c1 (sE a xc _ c1)) (sR_of xc c2 (sE b xc _ c2)) (sR_of xc c3 (sE c xc _ c3)) (not_false hm)) fun σ H Q q => imp_chn h1 q
    · cases h
  | .and a b, N, sc, W, X, xc, e, h => by
    unfold ckE at h
    split at h
    · obtain ⟨h1, h2⟩ := and2 h
      exact PE.imp (pe_andT (sE a xc _ h1) (pe_one (sE b xc _ h2))) fun σ H Q q => imp_and q
    · obtain ⟨h1, h2⟩ := and2 h
      exact PE.imp (pe_andT (sE a xc _ h1) (sE b xc _ h2)) fun σ H Q q => imp_and q
    · cases h
  | .or a b, N, sc, W, X, xc, e, h => by
    unfold ckE at h
    split at h
    · obtain ⟨h1, h2⟩ := and2 h
      exact PE.imp (pe_orT (sE a xc _ h1) (pe_one (sE b xc _ h2))) fun σ H Q q => imp_or q
    · obtain ⟨h1, h2⟩ := and2 h
      exact PE.imp (pe_orT (sE a xc _ h1) (sE b xc _ h2)) fun σ H Q q => imp_or q
    · cases h
  | .not a, N, sc, W, X, xc, e, h => by
    unfold ckE at h
    split at h
    · exact PE.imp (pe_notT (sR_of xc h (sE a xc _ h))) fun σ H Q q => imp_not q
    · cases h
  | .ife t a b, N, sc, W, X, xc, e, h => by
    unfold ckE at h
    split at h
    · obtain ⟨h, h3⟩ := and2 h
      obtain ⟨h1, h2⟩ := and2 h
      exact PE.imp (pe_ifExp (sT t xc _ h1) (sE a xc _ h2) (sE b xc _ h3)) fun σ H Q q => imp_ife q
    · cases h
  | .slc a lo hi, N, sc, W, X, xc, e, h => by
    unfold ckE at h
    split at h
    · obtain ⟨h, h3⟩ := and2 h
      obtain ⟨h1, h2⟩ := and2 h
      exact PE.imp (pe_slice sl_A (sR_of xc h1 (sE a xc _ h1)) (sO lo xc _ h2) (sO hi xc _ h3)) fun σ H Q q => imp_slc q
    · cases h
  | .revs a, N, sc, W, X, xc, e, h => by
    unfold ckE at h
    split at h
    · exact PE.imp (pe_revA (sR_of xc h (sE a xc _ h))) fun σ H Q q => imp_revs q
    · cases h
  | .repE a n, N, sc, W, X, xc, e, h => by
    unfold ckE at h
    split at h
    · obtain ⟨h1, h2⟩ := and2 h
      exact PE.imp (pe_op op_rep (sE a xc _ h1) (sE n xc _ h2)) fun σ H Q q => imp_repE q
    · cases h
  | .call j es m, N, sc, W, X, xc, e, h => by
    unfold ckE at h
    split at h
    · obtain ⟨h, h3⟩ := and2 h
      obtain ⟨h1, h2⟩ := and2 h
      exact call_of xc h1 h2 h3 (sAs es xc _ h3)
    · cases h
  | .callv j es m, N, sc, W, X, xc, e, h => by
    unfold ckE at h
    split at h
    · obtain ⟨h, h3⟩ := and2 h
      obtain ⟨h1, h2⟩ := and2 h
      exact callv_of xc h1 h2 h3 (sAs es xc _ h3)
    · cases h
  | .dget i k x, N, sc, W, X, xc, e, h => by
    unfold ckE at h
    split at h
    · obtain ⟨h, h5⟩ := and2 h
      obtain ⟨h, h4⟩ := and2 h
      obtain ⟨h, h3⟩ := and2 h
      obtain ⟨h1, h2⟩ := and2 h
      exact dget_of xc h1 h2 h3 h4 h5 (sE k xc _ h3) (sE x xc _ h4)
    · cases h
  | .dvals i, N, sc, W, X, xc, e, h => by
    unfold ckE at h
    split at h
    · obtain ⟨h, h5⟩ := and2 h
      obtain ⟨h, h4⟩ := and2 h
      obtain ⟨h, h3⟩ := and2 h
      obtain ⟨h1, h2⟩ := and2 h
      exact dvals_of xc h1 h2 h3 h4 h5
    · cases h
  | .fnv n, N, sc, W, X, xc, e, h => by
    unfold ckE at h
    split at h
    · obtain ⟨hn, n3⟩ := and2 h
      obtain ⟨n1, n2⟩ := and2 hn
      have e := str_beq n1
      subst e
      obtain ⟨g1, g2, g3⟩ := gl_of xc n2
      exact PE.imp (pe_glob g1 (fga_of xc.lk n3) (show RelV (.ref _) (.ref _) from rfl) g2) fun σ H Q ⟨f0, H0, f, en, m, ot⟩ => (show False from ot).elim
    · cases h
  | .callL i cs es, N, sc, W, X, xc, e, h => by
    unfold ckE at h
    split at h
    · obtain ⟨h, h3⟩ := and2 h
      obtain ⟨h1, h2⟩ := and2 h
      exact callL_of xc h1 h2 h3 (sAs es xc _ h3)
    · cases h
  | .mth o a b, N, sc, W, X, xc, e, h => by
    unfold ckE at h
    split at h
    · obtain ⟨h, h4⟩ := and2 h
      obtain ⟨h, h3⟩ := and2 h
      obtain ⟨h1, h2⟩ := and2 h
      exact mth_of xc h1 h2 h3 h4 (sE a xc _ h2) (sE b xc _ h3)
    · cases h
  | .erv i, N, sc, W, X, xc, e, h => by
    unfold ckE at h
    split at h
    · obtain ⟨h1, h2, h3, h4⟩ := vis_of xc h
      exact PE.imp (pe_var h1 h2 h3 h4) fun σ H Q ⟨f0, H0, f, en, m, ot⟩ => (show False from ot).elim
    · cases h
  | .isE i ks ts, N, sc, W, X, xc, e, h => by
    unfold ckE at h
    split at h
    · obtain ⟨h, h6⟩ := and2 h
      obtain ⟨h, h5⟩ := and2 h
      obtain ⟨h, h4⟩ := and2 h
      obtain ⟨h, h3⟩ := and2 h
      obtain ⟨h, h2⟩ := and2 h
      obtain ⟨h1, hl⟩ := and2 h
      exact isET_of xc h1 (of_decide_eq_true hl) h2 h3 h4 h5 h6
    · obtain ⟨h, h6⟩ := and2 h
      obtain ⟨h, h5⟩ := and2 h
      obtain ⟨h, h4⟩ := and2 h
      obtain ⟨h, h3⟩ := and2 h
      obtain ⟨h1, h2⟩ := and2 h
      exact isE1_of xc h1 h2 h3 h4 h5 h6
    · cases h
  | .isN i g, N, sc, W, X, xc, e, h => by
    unfold ckE at h
    split at h
    · obtain ⟨h1, h2⟩ := and2 h
      exact isN_of xc h1 h2
    · cases h
  | .isi a ts, N, sc, W, X, xc, e, h => by
    unfold ckE at h
    split at h
    · obtain ⟨h, h4⟩ := and2 h
      obtain ⟨h, h3⟩ := and2 h
      obtain ⟨h, h2⟩ := and2 h
      obtain ⟨h1, hl⟩ := and2 h
      exact isi_of xc h1 (of_decide_eq_true hl) h2 h3 h4 (sE a xc _ h3)
    · obtain ⟨h, h4⟩ := and2 h
      obtain ⟨h, h3⟩ := and2 h
      obtain ⟨h1, h2⟩ := and2 h
      exact isi1_of xc h1 h2 h3 h4 (sE a xc _ h3)
    · cases h
  | .cmp elt tg it ifs own, N, sc, W, X, xc, e, h => by
    unfold ckE at h
    split at h
    · obtain ⟨h, h6⟩ := and2 h
      obtain ⟨h, h5⟩ := and2 h
      obtain ⟨h, h4⟩ := and2 h
      obtain ⟨h, h3⟩ := and2 h
      obtain ⟨h1, h2⟩ := and2 h
      rename_i elt' tg' it' ifs' scope pos
      have ht : ∀ i ∈ tgSlots tg, i ∈ own.map (·.2) := fun i hi => List.contains_iff_mem.mp (List.all_eq_true.mp h4 i hi)
      exact PE.imp (pe_lc xc.calm xc.nd (sI it xc _ _ h1) (blk_ok xc h2) (fun s H C cl fp => sTg (xc.blk h2 s H C cl fp) tg _ h3) (fun s H C cl fp => sIf ifs (xc.blk h2 s H C cl fp) _ h5) (fun s H C cl fp => sE elt (xc.blk h2 s H C cl fp) _ h6) (sFold it _ _ h1)) fun σ H Q q => imp_cmp ht q
    · cases h
theorem sT : ∀ (x : E) {N : List Str} {sc : Nms} {W : WX} {X : Cx} (_ : XC L N sc W X) (e : Expr), ckE L.T L.cons L.clsN N sc x e = true → PT X e (dT L X.K W x)
  | .var i, N, sc, W, X, xc, e, h => by
    have ih := sE (.var i) xc e h
    cases e <;> first
      | (cases h; done)
      | exact pt_plain xc h ih fun _ => rfl
  | .peek i, N, sc, W, X, xc, e, h => by
    have ih := sE (.peek i) xc e h
    cases e <;> first
      | (cases h; done)
      | exact pt_plain xc h ih fun _ => rfl
  | .con d, N, sc, W, X, xc, e, h => by
    have ih := sE (.con d) xc e h
    cases e <;> first
      | (cases h; done)
      | exact pt_plain xc h ih fun _ => rfl
  | .emp, N, sc, W, X, xc, e, h => by
    have ih := sE .emp xc e h
    cases e <;> first
      | (cases h; done)
      | exact pt_plain xc h ih fun _ => rfl
  | .glb j, N, sc, W, X, xc, e, h => by
    have ih := sE (.glb j) xc e h
    cases e <;> first
      | (cases h; done)
      | exact pt_plain xc h ih fun _ => rfl
  | .tup es, N, sc, W, X, xc, e, h => by
    have ih := sE (.tup es) xc e h
    cases e <;> first
      | (cases h; done)
      | exact pt_plain xc h ih fun _ => rfl
  | .lst es, N, sc, W, X, xc, e, h => by
    have ih := sE (.lst es) xc e h
    cases e <;> first
      | (cases h; done)
      | exact pt_plain xc h ih fun _ => rfl
  | .rep es n, N, sc, W, X, xc, e, h => by
    have ih := sE (.rep es n) xc e h
    cases e <;> first
      | (cases h; done)
      | exact pt_plain xc h ih fun _ => rfl
  | .op1 o a, N, sc, W, X, xc, e, h => by
    have ih := sE (.op1 o a) xc e h
    have h0 := h
    unfold ckE at h
    split at h
    · exact pt_plain xc h0 ih fun _ => rfl
    · exact pt_plain xc h0 ih fun _ => rfl
    · cases h
  | .op2 o a b, N, sc, W, X, xc, e, h => by
    have ih := sE (.op2 o a b) xc e h
    have h0 := h
    unfold ckE at h
    split at h
    · exact pt_plain xc h0 ih fun _ => rfl
    · obtain ⟨h1, h2⟩ := and2 h
      obtain ⟨h3, h4⟩ := and2 h1
      obtain ⟨h5, h6⟩ := and2 h3
      refine PT.imp (pt_cmpR (op_cmp xc.units h5) (sR_of xc h4 (sE a xc _ h4)) (sR_of xc h2 (sE b xc _ h2)) (not_false h6)) fun σ H Q q => imp_op2 (dT_dV (fun _ z => by cases z) (fun en p ep => ?_) q)
      have ep' : (rd1 a en (L.ev a en)).bind (fun x => (rd1 b en (L.ev b en)).bind fun y => sem2 o x y) = .ok p := ep
      obtain ⟨x, _, e2⟩ := R.of_bind ep'
      obtain ⟨y, _, e3⟩ := R.of_bind e2
      exact cmp_bool h5 e3
    · exact pt_plain xc h0 ih fun _ => rfl
    · exact pt_plain xc h0 ih fun _ => rfl
    · cases h
  | .chn o p a b c, N, sc, W, X, xc, e, h => by
    unfold ckE at h
    split at h
    · obtain ⟨h, c3⟩ := and2 h
      obtain ⟨h, c2⟩ := and2 h
      obtain ⟨h, c1⟩ := and2 h
      obtain ⟨h, hm⟩ := and2 h
      obtain ⟨h1, h2⟩ := and2 h
      refine PT.imp (pt_chain (op_cmp xc.units h1) (op_cmp xc.units h2) (sR_of xc c1 (sE a xc _ c1)) (sR_of xc c2 (sE b xc _ c2)) (sR_of xc c3 (sE c xc _ c3)) (not_false hm)) fun σ H Q q => imp_chn h1 (dT_dV (fun _ z => by cases z) (fun en q eq => ?_) q)
      have eq' : (rd1 a en (L.ev a en)).bind (fun x => (rd1 b en (L.ev b en)).bind fun y => (sem2 o x y).bind fun r => (match r.1 with
        | .bool true => (rd1 c en (L.ev c en)).bind fun w => sem2 p y w
        | .bool false => v1 (.bool false)
        | _ => .no)) = .ok q := eq
      obtain ⟨x, _, e2⟩ := R.of_bind eq'
      obtain ⟨y, _, e3⟩ := R.of_bind e2
      obtain ⟨r, e4, e5⟩ := R.of_bind e3
      obtain ⟨k, rfl⟩ := cmp_bool h1 e4
      cases k with
      | true =>
        obtain ⟨w, _, e6⟩ := R.of_bind (show (rd1 c en (L.ev c en)).bind (fun w => sem2 p y w) = .ok q from e5)
        exact cmp_bool h2 e6
      | false =>
        cases e5
        exact ⟨false, rfl⟩
    · cases h
  | .and a b, N, sc, W, X, xc, e, h => by
    unfold ckE at h
    split at h
    · obtain ⟨h1, h2⟩ := and2 h
      exact PT.imp (pw_and (sT a xc _ h1) (pw_and1 (sT b xc _ h2))).pt fun σ H Q q => impT_and q
    · obtain ⟨h1, h2⟩ := and2 h
      exact PT.imp (pw_and (sT a xc _ h1) (pw_of (sT b xc _ h2))).pt fun σ H Q q => impT_and q
    · cases h
  | .or a b, N, sc, W, X, xc, e, h => by
    unfold ckE at h
    split at h
    · obtain ⟨h1, h2⟩ := and2 h
      exact PT.imp (pw_or (sT a xc _ h1) (pw_or1 (sT b xc _ h2))).pt fun σ H Q q => impT_or q
    · obtain ⟨h1, h2⟩ := and2 h
      exact PT.imp (pw_or (sT a xc _ h1) (pw_of (sT b xc _ h2))).pt fun σ H Q q => impT_or q
    · cases h
  | .not a, N, sc, W, X, xc, e, h => by
    unfold ckE at h
    split at h
    · exact PT.imp (pt_not (sT a xc _ h)) fun σ H Q q => impT_not q
    · cases h
  | .ife t a b, N, sc, W, X, xc, e, h => by
    unfold ckE at h
    split at h
    · obtain ⟨h, h3⟩ := and2 h
      obtain ⟨h1, h2⟩ := and2 h
      have i1 := sT t xc _ h1
      have i2 := sT a xc _ h2
      have i3 := sT b xc _ h3
      refine ⟨fun pins s σ H Q I q => ?_⟩
      have z := impT_ife q
      show wpAny _ _ (do if ← PySem.isTrue _ X.env (eval _ X.env) then PySem.isTrue _ X.env (eval _ X.env) else PySem.isTrue _ X.env (eval _ X.env)) _ _ s
      refine wpAny_bind (thn (i1.run pins s σ H _ I z) fun c s1 hc => ?_)
      obtain ⟨H1, I1, q1⟩ := hc
      cases c with
      | true => exact i2.run pins s1 σ H1 Q I1 q1
      | false => exact i3.run pins s1 σ H1 Q I1 q1
    · cases h
  | .slc a lo hi, N, sc, W, X, xc, e, h => by
    have ih := sE (.slc a lo hi) xc e h
    cases e <;> first
      | (cases h; done)
      | exact pt_plain xc h ih fun _ => rfl
  | .revs a, N, sc, W, X, xc, e, h => by
    have ih := sE (.revs a) xc e h
    cases e <;> first
      | (cases h; done)
      | exact pt_plain xc h ih fun _ => rfl
  | .repE a n, N, sc, W, X, xc, e, h => by
    have ih := sE (.repE a n) xc e h
    cases e <;> first
      | (cases h; done)
      | exact pt_plain xc h ih fun _ => rfl
  | .call j es m, N, sc, W, X, xc, e, h => by
    have ih := sE (.call j es m) xc e h
    cases e <;> first
      | (cases h; done)
      | exact pt_plain xc h ih fun _ => rfl
  | .callv j es m, N, sc, W, X, xc, e, h => by
    have ih := sE (.callv j es m) xc e h
    cases e <;> first
      | (cases h; done)
      | exact pt_plain xc h ih fun _ => rfl
  | .dget i k x, N, sc, W, X, xc, e, h => by
    have ih := sE (.dget i k x) xc e h
    cases e <;> first
      | (cases h; done)
      | exact pt_plain xc h ih fun _ => rfl
  | .dvals i, N, sc, W, X, xc, e, h => by
    have ih := sE (.dvals i) xc e h
    cases e <;> first
      | (cases h; done)
      | exact pt_plain xc h ih fun _ => rfl
  | .fnv n, N, sc, W, X, xc, e, h => by
    have ih := sE (.fnv n) xc e h
    cases e <;> first
      | (cases h; done)
      | exact pt_plain xc h ih fun _ => rfl
  | .callL i cs es, N, sc, W, X, xc, e, h => by
    have ih := sE (.callL i cs es) xc e h
    cases e <;> first
      | (cases h; done)
      | exact pt_plain xc h ih fun _ => rfl
  | .mth o a b, N, sc, W, X, xc, e, h => by
    have ih := sE (.mth o a b) xc e h
    cases e <;> first
      | (cases h; done)
      | exact pt_plain xc h ih fun _ => rfl
  | .erv i, N, sc, W, X, xc, e, h => by
    have ih := sE (.erv i) xc e h
    cases e <;> first
      | (cases h; done)
      | exact pt_plain xc h ih fun _ => rfl
  | .isE i ks ts, N, sc, W, X, xc, e, h => by
    have ih := sE (.isE i ks ts) xc e h
    cases e <;> first
      | (cases h; done)
      | exact pt_plain xc h ih fun _ => rfl
  | .isN i g, N, sc, W, X, xc, e, h => by
    unfold ckE at h
    split at h
    · obtain ⟨h1, h2⟩ := and2 h
      exact isN_t xc h1 h2
    · cases h
  | .isi a ts, N, sc, W, X, xc, e, h => by
    have ih := sE (.isi a ts) xc e h
    cases e <;> first
      | (cases h; done)
      | exact pt_plain xc h ih fun _ => rfl
  | .cmp elt tg it ifs own, N, sc, W, X, xc, e, h => by
    have ih := sE (.cmp elt tg it ifs own) xc e h
    cases e <;> first
      | (cases h; done)
      | exact pt_plain xc h ih fun _ => rfl
theorem sEs : ∀ (es : Es) {N : List Str} {sc : Nms} {W : WX} {X : Cx} (_ : XC L N sc W X) (xs : List Expr), ckEs L.T L.cons L.clsN N sc es xs = true → PA X xs (dVs L X.K W es)
  | .nil, N, sc, W, X, xc, xs, h => by
    cases xs with
    | nil => exact PA.imp pa_nil fun σ H Q q => evs_nil q
    | cons x xs => cases h
  | .cons e r, N, sc, W, X, xc, xs, h => by
    cases xs with
    | nil => cases h
    | cons x xs =>
      obtain ⟨h1, h2⟩ := and2 (show (ckE L.T L.cons L.clsN N sc e x && ckEs L.T L.cons L.clsN N sc r xs) = true from h)
      exact PA.imp (pa_cons (sE e xc _ h1) (sEs r xc _ h2) (star_of h1 xs)) fun σ H Q q => evs_cons q
theorem sAs : ∀ (es : Es) {N : List Str} {sc : Nms} {W : WX} {X : Cx} (_ : XC L N sc W X) (xs : List Expr), ckEs L.T L.cons L.clsN N sc es xs = true → PA X xs (dAs L X.K W es)
  | .nil, N, sc, W, X, xc, xs, h => by
    cases xs with
    | nil => exact PA.imp pa_nil fun σ H Q q => evAs_nil q
    | cons x xs => cases h
  | .cons e r, N, sc, W, X, xc, xs, h => by
    cases xs with
    | nil => cases h
    | cons x xs =>
      obtain ⟨h1, h2⟩ := and2 (show (ckE L.T L.cons L.clsN N sc e x && ckEs L.T L.cons L.clsN N sc r xs) = true from h)
      exact PA.imp (pa_cons (sA_of xc h1 (sE e xc _ h1)) (sAs r xc _ h2) (star_of h1 xs)) fun σ H Q q => evAs_cons q
theorem sO : ∀ (x : Eo) {N : List Str} {sc : Nms} {W : WX} {X : Cx} (_ : XC L N sc W X) (e : Option Expr), ckO L.T L.cons L.clsN N sc x e = true → PO X e (dO L X.K W x)
  | .none, N, sc, W, X, xc, e, h => by
    cases e with
    | none => exact PO.imp po_none fun σ H Q q => impO_none q
    | some e => cases h
  | .some x, N, sc, W, X, xc, e, h => by
    cases e with
    | none => cases h
    | some e => exact PO.imp (po_some (sE x xc e h)) fun σ H Q q => impO_some q
theorem sIf : ∀ (x : Eo) {N : List Str} {sc : Nms} {W : WX} {X : Cx} (_ : XC L N sc W X) (es : List Expr), ckIf L.T L.cons L.clsN N sc x es = true → PTs X es (dB L X.K W x)
  | .none, N, sc, W, X, xc, es, h => by
    cases es with
    | nil => exact pts_nil
    | cons e es => cases h
  | .some x, N, sc, W, X, xc, es, h => by
    unfold ckIf at h
    split at h
    · exact pts_one (sT x xc _ h)
    · cases h
theorem sI : ∀ (x : It) {N : List Str} {sc : Nms} {W : WX} {X : Cx} (_ : XC L N sc W X) (e tg : Expr), ckI L.T L.cons L.clsN N sc x e (isTup tg) = true → PI X tg e (dI L X.K W x)
  | .seq a, N, sc, W, X, xc, e, tg, h => PI.imp (PI.or (pi_list (sE a xc e h)) (pi_tup (sE a xc e h))) fun σ H Q q => impI_seq q
  | .rng1 a, N, sc, W, X, xc, e, tg, h => by
    unfold ckI at h
    split at h
    · obtain ⟨h1, h2⟩ := and2 h
      obtain ⟨h3, h4⟩ := and2 h1
      have en := str_beq h3
      subst en
      exact PI.imp (pi_range1 (gl_of xc h4).1 (blt_of xc (by decide +kernel)) (pa_cons (sE a xc _ h2) pa_nil (star_of h2 [])) (star_of h2 [])) fun σ H Q q => impI_rng1 q
    · cases h
  | .rng2 a b, N, sc, W, X, xc, e, tg, h => by
    unfold ckI at h
    split at h
    · obtain ⟨h, h5⟩ := and2 h
      obtain ⟨h1, h2⟩ := and2 h
      obtain ⟨h3, h4⟩ := and2 h1
      have en := str_beq h3
      subst en
      exact PI.imp (pi_range2 (gl_of xc h4).1 (blt_of xc (by decide +kernel)) (pa_cons (sE a xc _ h2) (pa_cons (sE b xc _ h5) pa_nil (star_of h5 [])) (star_of h2 _)) (by rw [star_of h2 _, star_of h5 []]; rfl) (star_of h5 [])) fun σ H Q q => impI_rng2 q
    · cases h
  | .rng3 a b c, N, sc, W, X, xc, e, tg, h => by
    unfold ckI at h
    split at h
    · obtain ⟨h, h6⟩ := and2 h
      obtain ⟨h, h5⟩ := and2 h
      obtain ⟨h1, h2⟩ := and2 h
      obtain ⟨h3, h4⟩ := and2 h1
      have en := str_beq h3
      subst en
      exact PI.imp (pi_range3 (gl_of xc h4).1 (blt_of xc (by decide +kernel)) (pa_cons (sE a xc _ h2) (pa_cons (sE b xc _ h5) (pa_cons (sE c xc _ h6) pa_nil (star_of h6 [])) (star_of h5 _)) (star_of h2 _)) (star_of h2 _) (by rw [star_of h5 _, star_of h6 []]; rfl)) fun σ H Q q => impI_rng3 q
    · cases h
  | .rev a, N, sc, W, X, xc, e, tg, h => by
    unfold ckI at h
    split at h
    · obtain ⟨h1, h2⟩ := and2 h
      obtain ⟨h3, h4⟩ := and2 h1
      have en := str_beq h3
      subst en
      exact PI.imp (RT.pi_revA (gl_of xc h4).1 (blt_of xc (by decide +kernel)) (sE a xc _ h2) (star_of h2 [])) fun σ H Q q => impI_rev q
    · cases h
  | .revr a, N, sc, W, X, xc, e, tg, h => by
    unfold ckI at h
    split at h
    · obtain ⟨h, h5⟩ := and2 h
      obtain ⟨h1, h2⟩ := and2 h
      obtain ⟨h3, h4⟩ := and2 h1
      obtain ⟨h6, h7⟩ := and2 h3
      have en := str_beq h6
      subst en
      have en := str_beq h7
      subst en
      exact PI.imp (pi_revR (gl_of xc h4).1 (blt_of xc (by decide +kernel)) (prg_1 (gl_of xc h2).1 (blt_of xc (by decide +kernel)) (sE a xc _ h5) (star_of h5 [])) rfl) fun σ H Q q => impI_revr q
    · cases h
  | .enum a, N, sc, W, X, xc, e, tg, h => by
    unfold ckI at h
    split at h
    · obtain ⟨h1, h2⟩ := and2 h
      obtain ⟨h3, h4⟩ := and2 h1
      obtain ⟨h5, h6⟩ := and2 h3
      have en := str_beq h6
      subst en
      cases tg with
      | Tuple elts k p =>
        have pa : PA X [_] (tCons (dV L X.K W a) tNil) := pa_cons (sE a xc _ h2) pa_nil (star_of h2 [])
        exact PI.imp (PI.or (pi_enum (gl_of xc h4).1 (blt_of xc (by decide +kernel)) pa (star_of h2 [])) (pi_enumT (gl_of xc h4).1 (blt_of xc (by decide +kernel)) pa (star_of h2 []))) fun σ H Q q => impI_enum q
      | _ => cases h5
    · cases h
  | .zip a b, N, sc, W, X, xc, e, tg, h => by
    unfold ckI at h
    split at h
    · obtain ⟨h, h7⟩ := and2 h
      obtain ⟨h1, h2⟩ := and2 h
      obtain ⟨h3, h4⟩ := and2 h1
      obtain ⟨h5, h6⟩ := and2 h3
      have en := str_beq h6
      subst en
      cases tg with
      | Tuple elts k p =>
        exact PI.imp (RZ.pi_zipA (gl_of xc h4).1 (blt_of xc (by decide +kernel)) (pa_cons (sE a xc _ h2) (pa_cons (sE b xc _ h7) pa_nil (star_of h7 [])) (star_of h2 _)) (star_of h2 _) (by rw [star_of h7 []]; rfl)) fun σ H Q q => impI_zip q
      | _ => cases h5
    · cases h
theorem sFold : ∀ (x : It) {N : List Str} {sc : Nms} {X : Cx} (e : Expr) (b : Bool), ckI L.T L.cons L.clsN N sc x e b = true → ∀ z, foldedSetIterable e X.env z = pure z
  | .seq a, N, sc, X, e, b, h, z => by
    have h' : ckE L.T L.cons L.clsN N sc a e = true := h
    cases e <;> first
      | rfl
      | (cases a <;> cases h')
  | .rng1 a, N, sc, X, e, b, h, z => by
    cases e <;> first
      | rfl
      | cases h
  | .rng2 a _, N, sc, X, e, b, h, z => by
    cases e <;> first
      | rfl
      | cases h
  | .rng3 a _ _, N, sc, X, e, b, h, z => by
    cases e <;> first
      | rfl
      | cases h
  | .rev a, N, sc, X, e, b, h, z => by
    cases e <;> first
      | rfl
      | cases h
  | .revr a, N, sc, X, e, b, h, z => by
    cases e <;> first
      | rfl
      | cases h
  | .enum a, N, sc, X, e, b, h, z => by
    cases e <;> first
      | rfl
      | cases h
  | .zip a _, N, sc, X, e, b, h, z => by
    cases e <;> first
      | rfl
      | cases h
end
end
end AW

/-! AwStmt: statements. -/
namespace AW
open PySem PySem.Spec PyProof.Rows L2

section
variable (L : Lk) (K : PySem.W.Frag) (W : WX)
/-- what is wanted of a statement's end: f0, H0 the entry's heaps, f what was settled -/
def EndOk (f0 H0 f : Hp) : Fl → Ends → Prop
  | .nx en', Dn => ∀ σ' f' H', Same f f' → Mt K f0 H0 f' H' σ' en' → Dn.nx σ' H'
  | .bk en', Dn => ∀ σ' f' H', Same f f' → Mt K f0 H0 f' H' σ' en' → Dn.bk σ' H'
  | .ct en', Dn => ∀ σ' f' H', Same f f' → Mt K f0 H0 f' H' σ' en' → Dn.ct σ' H'
  | .rt d fr, Dn => ∀ v f' H', Po f0 H0 f' H' → Vf K H0 f' H' v d fr → Dn.rt v H'
  | .ex k en', Dn => ∀ σ' f' H', Same f f' → Mt K f0 H0 f' H' σ' en' → W (L.cls k) none σ' H'
def OutS (f0 H0 f : Hp) (r : R Fl) (Dn : Ends) : Prop := match r with
  | .ok fl => EndOk L K W f0 H0 f fl Dn
  | _ => False
noncomputable abbrev Lk.es (s : S) (en : En) : R Fl := evS L.G L.c (dflT L.T) s en
noncomputable abbrev Lk.ess (s : Ss) (en : En) : R Fl := evSs L.G L.c (dflT L.T) s en
def dS (s : S) : TS := fun Dn σ H => ∃ f0 H0 f en, Mt K f0 H0 f H σ en ∧ OutS L K W f0 H0 f (L.es s en) Dn
def dSs (s : Ss) : TS := fun Dn σ H => ∃ f0 H0 f en, Mt K f0 H0 f H σ en ∧ OutS L K W f0 H0 f (L.ess s en) Dn
end
section
variable {L : Lk} {K : PySem.W.Frag} {W : WX} {f0 H0 f H f1 H1 : Hp} {σ : L2.St} {en : En} {Dn : Ends} {α : Type}
theorem EndOk.mono {fl : Fl} (s : Same f f1) (h : EndOk L K W f0 H0 f fl Dn) : EndOk L K W f0 H0 f1 fl Dn := by
  cases fl with
  | nx e => exact fun σ' f' H' s' m => h σ' f' H' (s.trans s') m
  | bk e => exact fun σ' f' H' s' m => h σ' f' H' (s.trans s') m
  | ct e => exact fun σ' f' H' s' m => h σ' f' H' (s.trans s') m
  | rt d fr => exact h
  | ex k e => exact fun σ' f' H' s' m => h σ' f' H' (s.trans s') m
theorem OutS.mono {r : R Fl} (s : Same f f1) (h : OutS L K W f0 H0 f r Dn) : OutS L K W f0 H0 f1 r Dn := by
  cases r with
  | ok fl => exact EndOk.mono s h
  | ex k => exact h
  | no => exact h
/-- an expression ahead of a statement's rest -/
theorem OutS.lf {r : R α} {g : α → R Fl} (m : Mt K f0 H0 f H σ en) (h : OutS L K W f0 H0 f (lf en r g) Dn) : Out L.cls W σ f H r fun a => OutS L K W f0 H0 f (g a) Dn := by
  cases r with
  | ok a => exact h
  | ex k => exact fun f' H' q => (show EndOk L K W f0 H0 f (.ex k en) Dn from h) σ f' H' q.sf (m.mono q)
  | no => exact h
theorem OutS.bind {r : R α} {g : α → R Fl} (h : OutS L K W f0 H0 f (r.bind g) Dn) : ∃ a, r = .ok a ∧ OutS L K W f0 H0 f (g a) Dn := by
  cases r with
  | ok a => exact ⟨a, rfl, h⟩
  | ex k => exact h.elim
  | no => exact h.elim
end

/-! ### the text's statements against the small language's -/
def plainV : Expr → Bool
  | .ListComp .. => false
  | .SetComp .. => false
  | .DictComp .. => false
  | .Tuple .. => false
  | _ => true
/-- a value that is stored in a place of a list -/
def plainS : Expr → Bool
  | .ListComp .. => false
  | .SetComp .. => false
  | .DictComp .. => false
  | _ => true
def cellName (sc : Nms) : Expr → Bool
  | .Name id _ => sc.lookup id == some .cell
  | _ => true
def noSwap (sc : Nms) (ts : List Expr) (vs : List Expr) : Bool := !(ts.length == 2 || ts.length == 3) || ts.any (cellName sc)
/-- a plain store: neither a comprehension stored at once nor swapped stores -/
def stOk (sc : Nms) : Expr → Expr → Bool
  | .Name x p, .ListComp _ _ scope q => sc.lookup x == some .cell || p.line != q.line || scope.names.any fun (n, k) => n == x && (k == .local || k == .cell)
  | .Tuple _ _ _, .ListComp .. => true
  | .Name _ _, .Tuple .. => true
  | .Tuple ts _ _, .Tuple vs _ _ => noSwap sc ts vs
  | _, e => plainV e
def compNow (sc : Nms) (x : Str) (p : Pos) : Expr → Bool
  | .ListComp _ [_] scope q => sc.lookup x == some .local && p.line == q.line && !(scope.names.any fun (n, k) => n == x && (k == .local || k == .cell))
  | _ => false
def isCmp : E → Bool
  | .cmp .. => true
  | _ => false
def parOk (N : List Str) (sc : Nms) : List Nat → List Expr → Bool
  | [], [] => true
  | i :: is, .Name x _ :: es => N[i]? == some x && sc.lookup x == some .local && parOk N sc is es
  | _, _ => false
def sameLine : List Expr → Bool
  | [] => true
  | e :: es => es.all fun e' => e'.pos.line == e.pos.line
def augOf : O2 → Operator → Bool
  | .add, .Add => true
  | .sub, .Sub => true
  | .mul, .Mult => true
  | .fdiv, .FloorDiv => true
  | .mod, .Mod => true
  | _, _ => false
mutual
def ckS (T : List Fn) (cs : List (Str × D)) (cl : List Str) (N : List Str) (sc : Nms) : S → Stmt → Bool
  | .pass, s => (match s with
    | .Pass _ => true
    | _ => false)
  | .asg tg e, s => (match s with
    | .Assign [tg'] e' _ => ckT N sc tg tg' && ckE T cs cl N sc e e' && stOk sc tg' e'
    | _ => false)
  | .asgO i e, s => (match s with
    | .Assign [.Name x p] e' _ => locOk N sc i x && ckE T cs cl N sc e e' && stOk sc (.Name x p) e'
    | _ => false)
  | .dnew i, s => (match s with
    | .Assign [.Name x p] (.Dict [] [] _) _ => locOk N sc i x
    | _ => false)
  | .asgC i o e, s => (match s with
    | .Assign [.Name x p] e' _ => N[i]? == some x && ckE T cs cl N sc e e' && compNow sc x p e' && isCmp e
    | _ => false)
  | .par is es, s => (match s with
    | .Assign [.Tuple ts _ _] (.Tuple vs _ _) _ => parOk N sc is ts && ckEs T cs cl N sc es vs && decide (is.length = 2 ∨ is.length = 3) && decide is.Nodup && vs.length == is.length && sameLine ts && !(vs.all (foldedForSure 8)) && !(vs.all (constantsAlone 8))
    | _ => false)
  | .setI i k e, s => (match s with
    | .Assign [.Subscript (.Name x _) k' _] e' _ => nmOk N sc i x && ckE T cs cl N sc k k' && ckE T cs cl N sc e e' && plainS e' && plainE k'
    | _ => false)
  | .aug i o e, s => (match s with
    | .AugAssign (.Name x _) op e' _ => locOk N sc i x && augOf o op && ckE T cs cl N sc e e'
    | _ => false)
  | .app i e, s => (match s with
    | .Expr (.Call (.Attribute (.Name x _) m ap) [e'] [] cp) _ => nmOk N sc i x && m == "append" && ckE T cs cl N sc e e' && ap.endLine == cp.line
    | _ => false)
  | .extT i e, s => (match s with
    | .Expr (.Call (.Attribute (.Name x _) m ap) [e'] [] cp) _ => nmOk N sc i x && m == "extend" && ckE T cs cl N sc e e' && ap.endLine == cp.line
    | _ => false)
  | .pop i, s => (match s with
    | .Expr (.Call (.Attribute (.Name x _) m ap) [] [] cp) _ => nmOk N sc i x && m == "pop" && ap.endLine == cp.line
    | _ => false)
  | .popA tg i, s => (match s with
    | .Assign [tg'] (.Call (.Attribute (.Name x _) m ap) [] [] cp) _ => ckT N sc tg tg' && nmOk N sc i x && m == "pop" && ap.endLine == cp.line
    | _ => false)
  | .rvs i, s => (match s with
    | .Expr (.Call (.Attribute (.Name x _) m ap) [] [] cp) _ => nmOk N sc i x && m == "reverse" && ap.endLine == cp.line
    | _ => false)
  | .frz i, s => false
  | .ite t a b, s => (match s with
    | .If t' a' b' _ => ckE T cs cl N sc t t' && ckSs T cs cl N sc a a' && ckSs T cs cl N sc b b'
    | _ => false)
  | .whl t b, s => (match s with
    | .While t' b' [] _ => ckE T cs cl N sc t t' && ckSs T cs cl N sc b b'
    | _ => false)
  | .for_ tg it b, s => (match s with
    | .For tg' it' b' [] _ => ckT N sc tg tg' && ckI T cs cl N sc it it' (isTup tg') && ckSs T cs cl N sc b b'
    | _ => false)
  | .ret e, s => (match s with
    | .Return (some e') _ => ckE T cs cl N sc e e'
    | _ => false)
  | .retO i, s => (match s with
    | .Return (some (.Name x _)) _ => nmOk N sc i x
    | _ => false)
  | .retN, s => (match s with
    | .Return none _ => true
    | _ => false)
  | .brk, s => (match s with
    | .Break _ => true
    | _ => false)
  | .cnt, s => (match s with
    | .Continue _ => true
    | _ => false)
  | .rai k, s => (match s with
    | .Raise (some (.Call (.Name x _) [.Constant (.str _) _ _] [] _)) none _ => cl[k]? == some x && x != "" && glOk sc x
    | _ => false)
  | .exp e, s => (match s with
    | .Expr e' _ => ckE T cs cl N sc e e' && plainV e'
    | _ => false)
  | .tryA h i ks b, s => (match s with
    | .Try b' [.ExceptHandler (some (.Name x _)) (some n) [.Assign [.Name m p] (.Name n' _) pa] _] [] [] _ => x == "AreaError" && cl[9]? == some x && glOk sc x && ksOk cl ks &&
        nmOk N sc h n && N[i]? == some m && sc.lookup n == some .local && sc.lookup m == some .local && n' == n && n != m && ckSs T cs cl N sc b b'
    | _ => false)
  | .dead, s => true
def ckSs (T : List Fn) (cs : List (Str × D)) (cl : List Str) (N : List Str) (sc : Nms) : Ss → List Stmt → Bool
  | .nil, sts => sts.isEmpty
  | .cons s r, sts => (match s with
    | .frz _ => ckSs T cs cl N sc r sts
    | _ => (match sts with
      | st :: rest => ckS T cs cl N sc s st && ckSs T cs cl N sc r rest
      | [] => false))
end
end AW

/-! AwStA: stores. -/
namespace AW
open PySem PySem.Spec PyProof.Rows L2

section
variable {L : Lk} {N : List Str} {sc : Nms} {W : WX} {X : Cx}
theorem block_fn (xc : XC L N sc W X) : X.env.blockKind = .function := by
  unfold Env.blockKind
  rw [xc.kind]
  rfl
theorem kind_cell (xc : XC L N sc W X) {x : Str} (h : (sc.lookup x == some .cell) = true) : X.env.kindOf x = some .cell := (xc.nm x _ (eq_of_beq h)).1
theorem filterMap_all {α β : Type} {f : α → Option β} : ∀ {l : List α}, (l.filterMap f).length = l.length → ∀ a ∈ l, (f a).isSome = true
  | [], _, a, h => by cases h
  | b :: l, h, a, ha => by
    have hle := List.length_filterMap_le f l
    rw [List.filterMap_cons] at h
    cases hb : f b with
    | none =>
      rw [hb] at h
      simp only [List.length_cons] at h
      omega
    | some c =>
      rw [hb] at h
      simp only [List.length_cons] at h
      rcases List.mem_cons.mp ha with rfl | ha
      · rw [hb]; rfl
      · exact filterMap_all (by omega) a ha
theorem noSwap_ok (xc : XC L N sc W X) {ts vs : List Expr} {k k2 : Nat} {p p2 : Pos} (h : noSwap sc ts vs = true) : swappedStores [.Tuple ts k p] (.Tuple vs k2 p2) X.env = pure none := by
  unfold swappedStores
  dsimp only
  split
  · rfl
  · rename_i h1
    split
    · rfl
    · split
      · rfl
      · rename_i h2
        exfalso
        have hl : (ts.length == 2 || ts.length == 3) = true := by
          cases q : (ts.length == 2 || ts.length == 3) with
          | true => rfl
          | false => rw [q] at h1; simp at h1
        have h3 : ts.any (cellName sc) = true := by
          unfold noSwap at h
          rw [hl] at h
          simpa using h
        obtain ⟨e, he, hb⟩ := List.any_eq_true.mp h3
        simp only [Bool.or_eq_true, not_or] at h2
        have z := h2.1
        rw [bne_iff_ne, Classical.not_not] at z
        have q := filterMap_all z e he
        cases e with
        | Name id pos =>
          have kc := kind_cell xc hb
          have kc' : (X.env.kindOf id == some NameKind.local) = false := by rw [kc]; rfl
          simp only [kc', Bool.false_and] at q
          cases q
        | _ => cases q
theorem stOk_ok (xc : XC L N sc W X) {tg e : Expr} {l : Nat} (h : stOk sc tg e = true) (ht : ∃ t, ckT N sc t tg = true) : swapsWithSole [tg] e l X.env = pure false ∧ swappedStores [tg] e X.env = pure none ∧ (assignEach [tg] X.env).map (·.2) = [assign tg X.env] := by
  obtain ⟨t, ht⟩ := ht
  have h3 : (assignEach [tg] X.env).map (·.2) = [assign tg X.env] := ck_assign1 ht []
  refine ⟨?_, ?_, h3⟩
  · cases e <;> first
      | rfl
      | (cases tg <;> first
          | (cases h; done)
          | rfl
          | skip)
    case ListComp.Name elt gs scope q x p =>
      show swapsWith (.ListComp elt gs scope q) (some (.Name x p)) l X.env = pure false
      unfold swapsWith
      simp only [stOk, Bool.or_eq_true] at h
      have e1 : (X.env.blockKind == .function && X.env.kindOf x == some .local && p.line == (Expr.ListComp elt gs scope q).pos.line && !(scope.names.any fun (n, k) => n == x && (k == .local || k == .cell))) = false := by
        rcases h with (h | h) | h
        · rw [kind_cell xc h]
          simp
        · have : (p.line == q.line) = false := by simpa [bne] using h
          show (_ && _ && (p.line == q.line) && _) = false
          rw [this]; simp
        · rw [h]; simp
      show (pure (X.env.blockKind == .function && X.env.kindOf x == some .local && p.line == (Expr.ListComp elt gs scope q).pos.line && !(scope.names.any fun (n, k) => n == x && (k == .local || k == .cell))) : Sem Bool) = pure false
      rw [e1]
  · cases tg <;> first
      | rfl
      | (cases e <;> first
          | rfl
          | exact noSwap_ok xc h
          | (cases t <;> cases ht))
theorem compNow_ok (xc : XC L N sc W X) {x : Str} {p : Pos} {e : Expr} {l : Nat} (h : compNow sc x p e = true) : ∃ elt g scope q, e = .ListComp elt [g] scope q ∧ X.env.scope.names.lookup x = some .local ∧ swapsWith e (some (.Name x p)) l X.env = pure true := by
  unfold compNow at h
  split at h
  · rename_i elt g scope q
    simp only [Bool.and_eq_true] at h
    have hl : X.env.scope.names.lookup x = some .local := xc.nm x _ (eq_of_beq h.1.1)
    exact ⟨elt, g, scope, q, rfl, hl, sw_true xc.kind hl h.1.2 (not_false h.2)⟩
  · cases h

/-! ### parallel stores -/
theorem stars_none {T : List Fn} {cs : List (Str × D)} {cl : List Str} : ∀ {es : Es} {vs : List Expr}, ckEs T cs cl N sc es vs = true → ∀ e ∈ vs, ∀ v p, e ≠ .Starred v p
  | .nil, [], _, e, he, _, _ => by cases he
  | .nil, _ :: _, h, _, _, _, _ => by cases h
  | .cons x r, [], h, _, _, _, _ => by cases h
  | .cons x r, e :: es, h, e', he, v, p => fun z => by
    obtain ⟨h1, h2⟩ := and2 (show (ckE T cs cl N sc x e && ckEs T cs cl N sc r es) = true from h)
    rcases List.mem_cons.mp he with q | he
    · rw [← q, z] at h1
      cases x <;> cases h1
    · exact stars_none h2 e' he v p z
theorem swap2 (xc : XC L N sc W X) {x y : Str} {px py pt p2 : Pos} {a b : Expr} {kt k2 : Nat} (hx : X.env.scope.names.lookup x = some .local) (hy : X.env.scope.names.lookup y = some .local) (hxy : x ≠ y) (hl : (py.line == px.line) = true)
    (hs : ∀ e ∈ [a, b], ∀ v p, e ≠ .Starred v p) (h1 : ([a, b].all (foldedForSure 8)) = false) (h2 : ([a, b].all (constantsAlone 8)) = false) :
    swappedStores [.Tuple [.Name x px, .Name y py] kt pt] (.Tuple [a, b] k2 p2) X.env = pure (some [x, y]) := by
  have kx : (X.env.kindOf x == some .local) = true := by rw [show X.env.kindOf x = some .local from hx]; rfl
  have ky : (X.env.kindOf y == some .local) = true := by rw [show X.env.kindOf y = some .local from hy]; rfl
  have hb := block_fn xc
  have hxx : (px.line == px.line) = true := beq_self_eq_true _
  have ed : [x, y].eraseDups.length = 2 := by
    simp [List.eraseDups_cons, List.filter_cons, hxy, Ne.symm hxy]
  unfold swappedStores
  dsimp only
  refine (if_neg ?_).trans ((if_neg ?_).trans ((if_neg ?_).trans ((if_neg ?_).trans ((if_neg ?_).trans ?_))))
  · rw [hb]; simp
  · intro z
    obtain ⟨e, he, q⟩ := List.any_eq_true.mp z
    cases e with
    | Starred v p => exact hs _ he v p rfl
    | _ => cases q
  · simp only [List.filterMap_cons, List.filterMap_nil, List.head?_cons, Option.map_some, Option.getD_some, Expr.pos, kx, ky, hl, hxx, Bool.and_self, if_true, ed]
    simp
  · rw [h1]; exact Bool.false_ne_true
  · rw [h2]; exact Bool.false_ne_true
  · simp only [List.filterMap_cons, List.filterMap_nil, List.head?_cons, Option.map_some, Option.getD_some, Expr.pos, kx, ky, hl, hxx, Bool.and_self, if_true]
theorem swap3 (xc : XC L N sc W X) {x y z : Str} {px py pz pt p2 : Pos} {a b c : Expr} {kt k2 : Nat} (hx : X.env.scope.names.lookup x = some .local) (hy : X.env.scope.names.lookup y = some .local) (hz : X.env.scope.names.lookup z = some .local) (hxy : x ≠ y) (hxz : x ≠ z) (hyz : y ≠ z) (hl : (py.line == px.line) = true) (hl2 : (pz.line == px.line) = true)
    (hs : ∀ e ∈ [a, b, c], ∀ v p, e ≠ .Starred v p) (h1 : ([a, b, c].all (foldedForSure 8)) = false) (h2 : ([a, b, c].all (constantsAlone 8)) = false) :
    swappedStores [.Tuple [.Name x px, .Name y py, .Name z pz] kt pt] (.Tuple [a, b, c] k2 p2) X.env = pure (some [x, y, z]) := by
  have kx : (X.env.kindOf x == some .local) = true := by rw [show X.env.kindOf x = some .local from hx]; rfl
  have ky : (X.env.kindOf y == some .local) = true := by rw [show X.env.kindOf y = some .local from hy]; rfl
  have kz : (X.env.kindOf z == some .local) = true := by rw [show X.env.kindOf z = some .local from hz]; rfl
  have hb := block_fn xc
  have hxx : (px.line == px.line) = true := beq_self_eq_true _
  have ed : [x, y, z].eraseDups.length = 3 := by
    simp [List.eraseDups_cons, List.filter_cons, hxy, Ne.symm hxy, hxz, Ne.symm hxz, hyz, Ne.symm hyz]
  unfold swappedStores
  dsimp only
  refine (if_neg ?_).trans ((if_neg ?_).trans ((if_neg ?_).trans ((if_neg ?_).trans ((if_neg ?_).trans ?_))))
  · rw [hb]; simp
  · intro z
    obtain ⟨e, he, q⟩ := List.any_eq_true.mp z
    cases e with
    | Starred v p => exact hs _ he v p rfl
    | _ => cases q
  · simp only [List.filterMap_cons, List.filterMap_nil, List.head?_cons, Option.map_some, Option.getD_some, Expr.pos, kx, ky, kz, hl, hl2, hxx, Bool.and_self, if_true, ed]
    simp
  · rw [h1]; exact Bool.false_ne_true
  · rw [h2]; exact Bool.false_ne_true
  · simp only [List.filterMap_cons, List.filterMap_nil, List.head?_cons, Option.map_some, Option.getD_some, Expr.pos, kx, ky, kz, hl, hl2, hxx, Bool.and_self, if_true]
end
end AW

/-! AwStS: every statement that the check lets by. -/
namespace AW
open PySem PySem.Spec PyProof.Rows L2

structure XS (L : Lk) (N : List Str) (sc : Nms) (W : WX) (X : Cx) : Prop where
  xc : XC L N sc W X
  hp : PassesOwn (model X.prog X.w) X.A X.env X.xe
  st : X.stack = X.env :: X.outer
  fr : X.env.frame = some X.env.locals
  ex : X.ex = []

section
variable {L : Lk} {N : List Str} {sc : Nms} {W : WX} {X : Cx} {K : PySem.W.Frag}
/-! ### readings -/
theorem imp_asg {tg : Tg} {e : E} {Dn σ H} (h : dS L K W (.asg tg e) Dn σ H) : tAsg (dV L K W e) (gD K tg) Dn σ H := by
  obtain ⟨f0, H0, f, en, m, o⟩ := h
  have o1 := OutS.lf m (show OutS L K W f0 H0 f (lf en (L.ev e en) fun x => (bindT tg x.1 en).bind fun en' => .ok (.nx en')) Dn from o)
  refine ⟨f0, H0, f, en, m, o1.imp (Po.refl m.po.sub) fun p _ h1 v f1 H1 q1 hv => ?_⟩
  obtain ⟨en', eb, h2⟩ := h1.bind
  obtain ⟨f2, q2, hv2⟩ := hv.settle q1
  exact ⟨f0, H0, f2, en, p.1, en', m.mono q2, hv2, eb, fun σ' m' _ => h2 σ' f2 H1 q2.sf m'⟩
theorem imp_asgO {i : Nat} {e : E} {Dn σ H} (h : dS L K W (.asgO i e) Dn σ H) : tAsg (dV L K W e) (gName i) Dn σ H := by
  obtain ⟨f0, H0, f, en, m, o⟩ := h
  have o1 := OutS.lf m (show OutS L K W f0 H0 f (lf en (L.ev e en) fun x => (match x with | (.list ds, true) => .ok (.nx (en.set i (.ow ds))) | _ => .no)) Dn from o)
  refine ⟨f0, H0, f, en, m, o1.imp (Po.refl m.po.sub) fun p _ h1 v f1 H1 q1 hv => ?_⟩
  obtain ⟨d, b⟩ := p
  cases b with
  | false => cases d <;> exact h1.elim
  | true =>
    obtain ⟨ds, a, vs, rfl, rfl, z1, z2, z3, z4⟩ := hv
    exact h1 _ f1 H1 q1.sf (m.setO q1 z1 z2 z3 z4)
theorem imp_dnew {i : Nat} {Dn σ H} (h : dS L K W (.dnew i) Dn σ H) : tAsg tDNewN (gName i) Dn σ H := by
  obtain ⟨f0, H0, f, en, m, o⟩ := h
  intro p hp hH
  exact (show EndOk L K W f0 H0 f (.nx (en.set i (.dk []))) Dn from o) _ f _ (Same.refl f) (m.setD hp hH)
theorem imp_asgC {i : Nat} {b : Bool} {e : E} {Dn σ H} (h : dS L K W (.asgC i b e) Dn σ H) : tAsg (dV L K W e) (gName i) Dn σ H := by
  obtain ⟨f0, H0, f, en, m, o⟩ := h
  have o1 := OutS.lf m (show OutS L K W f0 H0 f (lf en (L.ev e en) fun x => (match x with | (.list ds, true) => .ok (.nx (en.set i (if b then .ow ds else .va (.list ds)))) | _ => .no)) Dn from o)
  refine ⟨f0, H0, f, en, m, o1.imp (Po.refl m.po.sub) fun p _ h1 v f1 H1 q1 hv => ?_⟩
  obtain ⟨d, c⟩ := p
  cases c with
  | false => cases d <;> exact h1.elim
  | true =>
    cases b with
    | true =>
      obtain ⟨ds, a, vs, rfl, rfl, z1, z2, z3, z4⟩ := hv
      exact h1 _ f1 H1 q1.sf (m.setO q1 z1 z2 z3 z4)
    | false =>
      obtain ⟨f2, q2, hv2⟩ := hv.settle q1
      obtain ⟨ds, a, vs, rfl, rfl, z1, z2, z3, z4⟩ := hv
      exact h1 _ f2 H1 q2.sf ((m.mono q2).setV hv2)
theorem imp_par2 {i j : Nat} {es : Es} {Dn σ H} (h : dS L K W (.par [i, j] es) Dn σ H) : tPar i j (dVs L K W es) Dn σ H := by
  obtain ⟨f0, H0, f, en, m, o⟩ := h
  have o1 := OutS.lf m (show OutS L K W f0 H0 f (lf en (evs L.G L.c (dflT L.T) es en) fun ds => if ds.length = [i, j].length then .ok (.nx (([i, j].zip ds).foldl (fun e p => e.set p.1 (.va p.2)) en)) else .no) Dn from o)
  refine ⟨f0, H0, f, en, m, o1.imp (Po.refl m.po.sub) fun ds _ h1 vs f1 H1 q1 hv => ?_⟩
  cases hv with
  | nil => exact h1.elim
  | cons a t => cases t with
    | nil => exact h1.elim
    | cons b t => cases t with
      | cons c t => exact absurd h1 (by rw [if_neg (by simp)]; exact fun z => z)
      | nil => exact ⟨_, _, rfl, h1 _ f1 H1 q1.sf (((m.mono q1).setV a).setV b)⟩
theorem imp_par3 {i j k : Nat} {es : Es} {Dn σ H} (h : dS L K W (.par [i, j, k] es) Dn σ H) : tPar3 i j k (dVs L K W es) Dn σ H := by
  obtain ⟨f0, H0, f, en, m, o⟩ := h
  have o1 := OutS.lf m (show OutS L K W f0 H0 f (lf en (evs L.G L.c (dflT L.T) es en) fun ds => if ds.length = [i, j, k].length then .ok (.nx (([i, j, k].zip ds).foldl (fun e p => e.set p.1 (.va p.2)) en)) else .no) Dn from o)
  refine ⟨f0, H0, f, en, m, o1.imp (Po.refl m.po.sub) fun ds _ h1 vs f1 H1 q1 hv => ?_⟩
  cases hv with
  | nil => exact h1.elim
  | cons a t => cases t with
    | nil => exact h1.elim
    | cons b t => cases t with
      | nil => exact h1.elim
      | cons c t => cases t with
        | cons d t => exact absurd h1 (by rw [if_neg (by simp)]; exact fun z => z)
        | nil => exact ⟨_, _, _, rfl, h1 _ f1 H1 q1.sf ((((m.mono q1).setV a).setV b).setV c)⟩
theorem imp_setI {i : Nat} {k e : E} {Dn σ H} (h : dS L K W (.setI i k e) Dn σ H) : tAsg (dV L K W e) (gSub (tVar i) (dV L K W k) (rSetLN K)) Dn σ H := by
  obtain ⟨f0, H0, f, en, m, o⟩ := h
  have o1 := OutS.lf m (show OutS L K W f0 H0 f (lf en (L.ev e en) fun x => (match en[i]? with
    | some (.ow ds) => lf en (L.ev k en) fun kv => (intR kv.1).bind fun j => (setD ds j x.1).bind fun ds' => .ok (.nx (en.set i (.ow ds')))
    | some (.dk kvs) => lf en (L.ev k en) fun kv => if keyOk kv.1 = true ∧ kvs.length < line then .ok (.nx (en.set i (.dk (dput kvs kv.1 x.1)))) else .no
    | _ => .no)) Dn from o)
  refine ⟨f0, H0, f, en, m, o1.imp (Po.refl m.po.sub) fun p _ h1 v f1 H1 q1 hv => ?_⟩
  obtain ⟨f2, q2, hv2⟩ := hv.settle q1
  have m2 := m.mono q2
  cases ei : en[i]? with
  | none => rw [ei] at h1; exact h1.elim
  | some s =>
    rw [ei] at h1
    cases s with
    | ow ds =>
      obtain ⟨a, vs, e1, _, _, hH, ha⟩ := m2.ow ei
      refine ⟨_, e1, f0, H0, f2, en, m2, (OutS.lf m2 (h1.mono q2.sf)).imp (Po.refl q2.sub) fun kv _ h2 kw f3 H3 q3 hkw => ?_⟩
      obtain ⟨j, ej, h3⟩ := OutS.bind h2
      have hr := hkw.read
      rw [intR_cases ej] at hr
      obtain ⟨ds', ed, h4⟩ := OutS.bind h3
      have m3 := m2.mono q3
      obtain ⟨a', vs', e1', _, _, hH', ha'⟩ := m3.ow ei
      rw [e1] at e1'
      cases e1'
      unfold setD at ed
      cases ex : ixN ds.length j with
      | none => rw [ex] at ed; cases ed
      | some n =>
        rw [ex] at ed
        cases ed
        refine .inl ⟨a, vs', j, n, rfl, hr.int, hH', by rw [ha'.length]; exact ex, ?_⟩
        exact h4 σ f3 _ q3.sf (m3.upO ei e1 (ha'.set n (dp_same q3.sf hv2)))
    | un => exact h1.elim
    | va d => exact h1.elim
    | rd d => exact h1.elim
    | er d => exact h1.elim
    | fn d => exact h1.elim
    | dk kvs =>
      obtain ⟨a, xs, e1, _⟩ := m2.dk ei
      refine ⟨_, e1, f0, H0, f2, en, m2, (OutS.lf m2 (h1.mono q2.sf)).imp (Po.refl q2.sub) fun kv _ h2 kw f3 H3 q3 hkw => ?_⟩
      obtain ⟨f4, q4, hkw2⟩ := hkw.settle q3
      by_cases hz : keyOk kv.1 = true ∧ kvs.length < line
      · rw [if_pos hz] at h2
        obtain ⟨b, rfl⟩ := key_ref hz.1 hkw2
        have m4 := m2.mono q4
        obtain ⟨a', xs', e1', hp', h0', hf', hH', hn', hl', hk'⟩ := m4.dk ei
        rw [e1] at e1'
        cases e1'
        have hv4 := dp_same q4.sf hv2
        refine .inr ⟨a, b, xs', kvs, kv.1, p.1, f4, rfl, rfl, hH', hn', hl', hk', q4.sub, hz.1, hkw2, hv4, fun u hu hnd => ?_⟩
        refine h2 σ f4 _ q4.sf (m4.upD ei e1 hnd ?_ (put_at hz.1 hkw2 hu hv4 hk'))
        have l1 := put_len xs' (nk kv.1) b u
        have l2 := hk'.len
        have l3 := hz.2
        rw [line_eq] at l3
        omega
      · rw [if_neg hz] at h2
        exact h2.elim
theorem app_core {H' : Hp} {p : Addr} {vs : List V} (hH : H' p = some (.lst vs)) : tyV K "list" (.ref p) H' := .inl ⟨rfl, vs, .inl (.inl hH)⟩
theorem imp_app {i : Nat} {e : E} {Dn σ H} (h : dS L K W (.app i e) Dn σ H) : tDrop (tBM K "list" rAppend (tVar i) (tCons (dV L K W e) tNil)) Dn σ H := by
  obtain ⟨f0, H0, f, en, m, o⟩ := h
  have o' : OutS L K W f0 H0 f (match en[i]? with
    | some (.ow ds) => lf en (L.ev e en) fun x => if ds.length < line then .ok (.nx (en.set i (.ow (ds ++ [x.1])))) else .no
    | _ => .no) Dn := o
  cases ei : en[i]? with
  | none => rw [ei] at o'; exact o'.elim
  | some s =>
    rw [ei] at o'
    cases s with
    | ow ds =>
      obtain ⟨a, vs, e1, _, _, hH, ha⟩ := m.ow ei
      refine ⟨_, e1, app_core hH, f0, H0, f, en, m, (OutS.lf m o').imp (Po.refl m.po.sub) fun p _ h1 v f1 H1 q1 hv => ?_⟩
      by_cases hz : ds.length < line
      · rw [if_pos hz] at h1
        obtain ⟨f2, q2, hv2⟩ := hv.settle q1
        have m2 := m.mono q2
        obtain ⟨a', vs', e1', _, _, hH', ha'⟩ := m2.ow ei
        rw [e1] at e1'
        cases e1'
        refine ⟨a, vs', v, rfl, rfl, hH', by rw [ha'.length, ← line_eq]; exact hz, ?_⟩
        exact h1 σ f2 _ q2.sf (m2.upO ei e1 (ha'.append (.cons hv2 .nil)))
      · rw [if_neg hz] at h1
        exact h1.elim
    | un => exact o'.elim
    | va d => exact o'.elim
    | rd d => exact o'.elim
    | er d => exact o'.elim
    | fn d => exact o'.elim
    | dk d => exact o'.elim
theorem imp_extT {i : Nat} {e : E} {Dn σ H} (h : dS L K W (.extT i e) Dn σ H) : tDrop (tBM K "list" (rExtT K) (tVar i) (tCons (dV L K W e) tNil)) Dn σ H := by
  obtain ⟨f0, H0, f, en, m, o⟩ := h
  have o' : OutS L K W f0 H0 f (match en[i]? with
    | some (.ow ds) => lf en (L.ev e en) fun x => (match x.1 with
      | .tuple xs => if ds.length + xs.length < line then .ok (.nx (en.set i (.ow (ds ++ xs)))) else .no
      | _ => .no)
    | _ => .no) Dn := o
  cases ei : en[i]? with
  | none => rw [ei] at o'; exact o'.elim
  | some s =>
    rw [ei] at o'
    cases s with
    | ow ds =>
      obtain ⟨a, vs, e1, _, _, hH, ha⟩ := m.ow ei
      refine ⟨_, e1, app_core hH, f0, H0, f, en, m, (OutS.lf m o').imp (Po.refl m.po.sub) fun p _ h1 v f1 H1 q1 hv => ?_⟩
      obtain ⟨d, b⟩ := p
      cases d with
      | tuple xs =>
        have h1 : OutS L K W f0 H0 f (if ds.length + xs.length < line then .ok (.nx (en.set i (.ow (ds ++ xs)))) else .no) Dn := h1
        by_cases hz : ds.length + xs.length < line
        · rw [if_pos hz] at h1
          obtain ⟨f2, q2, hv2⟩ := hv.settle q1
          have m2 := m.mono q2
          obtain ⟨a', vs', e1', _, _, hH', ha'⟩ := m2.ow ei
          rw [e1] at e1'
          cases e1'
          cases hv2 with
          | @tup b us _ hs hx =>
            refine ⟨a, b, vs', us, rfl, rfl, hH', sqt_same q2.sub hs, by rw [ha'.length, hx.length, ← line_eq]; exact hz, ?_⟩
            exact h1 σ f2 _ q2.sf (m2.upO ei e1 (ha'.append hx))
        · rw [if_neg hz] at h1
          exact h1.elim
      | _ => exact h1.elim
    | un => exact o'.elim
    | va d => exact o'.elim
    | rd d => exact o'.elim
    | er d => exact o'.elim
    | fn d => exact o'.elim
    | dk d => exact o'.elim
theorem imp_pop {i : Nat} {Dn σ H} (h : dS L K W (.pop i) Dn σ H) : tDrop (tBM0 K "list" rPop (tVar i)) Dn σ H := by
  obtain ⟨f0, H0, f, en, m, o⟩ := h
  have o' : OutS L K W f0 H0 f (match en[i]? with
    | some (.ow ds) => if ds = [] then .no else .ok (.nx (en.set i (.ow ds.dropLast)))
    | _ => .no) Dn := o
  cases ei : en[i]? with
  | none => rw [ei] at o'; exact o'.elim
  | some s =>
    rw [ei] at o'
    cases s with
    | ow ds =>
      obtain ⟨a, vs, e1, _, _, hH, ha⟩ := m.ow ei
      by_cases hz : ds = []
      · have : OutS L K W f0 H0 f (if ds = [] then .no else .ok (.nx (en.set i (.ow ds.dropLast)))) Dn := o'
        rw [if_pos hz] at this
        exact this.elim
      · have h1 : OutS L K W f0 H0 f (if ds = [] then .no else .ok (.nx (en.set i (.ow ds.dropLast)))) Dn := o'
        rw [if_neg hz] at h1
        have hl := ha.length
        have hlt : vs.length - 1 < vs.length := by
          cases ds with
          | nil => exact absurd rfl hz
          | cons d r => rw [hl, List.length_cons]; omega
        exact ⟨_, e1, app_core hH, a, vs, _, rfl, rfl, hH, List.getElem?_eq_getElem hlt, h1 σ f _ (Same.refl f) (m.upO ei e1 ha.dropLast)⟩
    | un => exact o'.elim
    | va d => exact o'.elim
    | rd d => exact o'.elim
    | er d => exact o'.elim
    | fn d => exact o'.elim
    | dk d => exact o'.elim
theorem imp_popA {tg : Tg} {i : Nat} {Dn σ H} (h : dS L K W (.popA tg i) Dn σ H) : tAsg (tBM0 K "list" rPop (tVar i)) (gD K tg) Dn σ H := by
  obtain ⟨f0, H0, f, en, m, o⟩ := h
  have o' : OutS L K W f0 H0 f (match en[i]? with
    | some (.ow ds) => (match ds.getLast? with
      | some d => (bindT tg d (en.set i (.ow ds.dropLast))).bind fun en' => .ok (.nx en')
      | none => .no)
    | _ => .no) Dn := o
  cases ei : en[i]? with
  | none => rw [ei] at o'; exact o'.elim
  | some s =>
    rw [ei] at o'
    cases s with
    | ow ds =>
      obtain ⟨a, vs, e1, _, _, hH, ha⟩ := m.ow ei
      have h1 : OutS L K W f0 H0 f (match ds.getLast? with
        | some d => (bindT tg d (en.set i (.ow ds.dropLast))).bind fun en' => .ok (.nx en')
        | none => .no) Dn := o'
      cases el : ds.getLast? with
      | none => rw [el] at h1; exact h1.elim
      | some d =>
        rw [el] at h1
        obtain ⟨en', eb, h2⟩ := OutS.bind h1
        rw [List.getLast?_eq_getElem?, ← ha.length] at el
        obtain ⟨v, hv, hd⟩ := ha.get el
        exact ⟨_, e1, app_core hH, a, vs, v, rfl, rfl, hH, hv, f0, H0, f, _, d, en', m.upO ei e1 ha.dropLast, hd, eb, fun σ' m' _ => h2 σ' f _ (Same.refl f) m'⟩
    | un => exact o'.elim
    | va d => exact o'.elim
    | rd d => exact o'.elim
    | er d => exact o'.elim
    | fn d => exact o'.elim
    | dk d => exact o'.elim
theorem imp_rvs {i : Nat} {Dn σ H} (h : dS L K W (.rvs i) Dn σ H) : tDrop (tBM0 K "list" rReverse (tVar i)) Dn σ H := by
  obtain ⟨f0, H0, f, en, m, o⟩ := h
  have o' : OutS L K W f0 H0 f (match en[i]? with
    | some (.ow ds) => .ok (.nx (en.set i (.ow ds.reverse)))
    | _ => .no) Dn := o
  cases ei : en[i]? with
  | none => rw [ei] at o'; exact o'.elim
  | some s =>
    rw [ei] at o'
    cases s with
    | ow ds =>
      obtain ⟨a, vs, e1, _, _, hH, ha⟩ := m.ow ei
      exact ⟨_, e1, app_core hH, a, vs, rfl, rfl, hH, (show EndOk L K W f0 H0 f (.nx (en.set i (.ow ds.reverse))) Dn from o') σ f _ (Same.refl f) (m.upO ei e1 ha.reverse)⟩
    | un => exact o'.elim
    | va d => exact o'.elim
    | rd d => exact o'.elim
    | er d => exact o'.elim
    | fn d => exact o'.elim
    | dk d => exact o'.elim
theorem imp_ite {t : E} {a b : Ss} {Dn σ H} (h : dS L K W (.ite t a b) Dn σ H) : tIfS (dT L K W t) (dSs L K W a) (dSs L K W b) Dn σ H := by
  obtain ⟨f0, H0, f, en, m, o⟩ := h
  have o1 := OutS.lf m (show OutS L K W f0 H0 f (lf en (evT L.G L.c (dflT L.T) t en) fun k => if k then L.ess a en else L.ess b en) Dn from o)
  refine ⟨f0, H0, f, en, m, o1.imp (Po.refl m.po.sub) fun k _ h1 f1 H1 q1 => ?_⟩
  cases k with
  | true => exact ⟨f0, H0, f1, en, m.mono q1, OutS.mono q1.sf h1⟩
  | false => exact ⟨f0, H0, f1, en, m.mono q1, OutS.mono q1.sf h1⟩
theorem imp_ret {e : E} {Dn σ H} (h : dS L K W (.ret e) Dn σ H) : tRet (dV L K W e) Dn σ H := by
  obtain ⟨f0, H0, f, en, m, o⟩ := h
  have o1 := OutS.lf m (show OutS L K W f0 H0 f (lf en (L.ev e en) fun x => .ok (.rt x.1 x.2)) Dn from o)
  exact ⟨f0, H0, f, en, m, o1.imp (Po.refl m.po.sub) fun p _ h1 v f1 H1 q1 hv => h1 v f1 H1 (m.po.trans q1) (hv.back m.po.sH)⟩
theorem imp_retO {i : Nat} {Dn σ H} (h : dS L K W (.retO i) Dn σ H) : tRet (tVar i) Dn σ H := by
  obtain ⟨f0, H0, f, en, m, o⟩ := h
  have o' : OutS L K W f0 H0 f (match en[i]? with
    | some (.ow ds) => .ok (.rt (.list ds) true)
    | _ => .no) Dn := o
  cases ei : en[i]? with
  | none => rw [ei] at o'; exact o'.elim
  | some s =>
    rw [ei] at o'
    cases s with
    | ow ds =>
      obtain ⟨a, vs, e1, h0, hf, hH, ha⟩ := m.ow ei
      exact ⟨_, e1, (show EndOk L K W f0 H0 f (.rt (.list ds) true) Dn from o') _ f H m.po ⟨ds, a, vs, rfl, rfl, h0, hf, hH, ha⟩⟩
    | un => exact o'.elim
    | va d => exact o'.elim
    | rd d => exact o'.elim
    | er d => exact o'.elim
    | fn d => exact o'.elim
    | dk d => exact o'.elim
theorem imp_exp {e : E} {Dn σ H} (h : dS L K W (.exp e) Dn σ H) : tDrop (dV L K W e) Dn σ H := by
  obtain ⟨f0, H0, f, en, m, o⟩ := h
  have o1 := OutS.lf m (show OutS L K W f0 H0 f (lf en (L.ev e en) fun _ => .ok (.nx en)) Dn from o)
  exact ⟨f0, H0, f, en, m, o1.imp (Po.refl m.po.sub) fun p _ h1 v f1 H1 q1 hv => h1 σ f1 H1 q1.sf (m.mono q1)⟩
/-! ### loops -/
theorem whileN_no0 {t : En → R Bool} {b : En → R Fl} {n : Nat} {en : En} (h : whileN t b n en ≠ .no) : ∃ k, n = k + 1 := by
  cases n with
  | zero => exact absurd rfl h
  | succ k => exact ⟨k, rfl⟩
theorem imp_whl {t : E} {b : Ss} {Dn σ H} (h : dS L K W (.whl t b) Dn σ H) : tWhile (dT L K W t) (dSs L K W b) Dn σ H := by
  obtain ⟨f0, H0, f, en, m, o⟩ := h
  have o' : OutS L K W f0 H0 f (whileR (evT L.G L.c (dflT L.T) t) (L.ess b) en) Dn := o
  unfold whileR at o'
  by_cases hh : ∃ n, whileN (evT L.G L.c (dflT L.T) t) (L.ess b) n en ≠ .no
  · rw [dif_pos hh] at o'
    generalize hr : whileN (evT L.G L.c (dflT L.T) t) (L.ess b) hh.choose en = r at o'
    have rno : r ≠ .no := fun z => by rw [z] at o'; exact o'
    refine ⟨fun n σ' H' => ∃ fi ei, Same f fi ∧ Mt K f0 H0 fi H' σ' ei ∧ whileN (evT L.G L.c (dflT L.T) t) (L.ess b) n ei = r, ⟨_, f, en, Same.refl f, m, hr⟩, ?_⟩
    rintro n σ' H' ⟨fi, ei, sf, mi, hw⟩
    obtain ⟨k, rfl⟩ := whileN_no0 (by rw [hw]; exact rno)
    have hw' : lf ei (evT L.G L.c (dflT L.T) t ei) (fun k' => if k' then (L.ess b ei).bind (nextFl (whileN (evT L.G L.c (dflT L.T) t) (L.ess b) k)) else .ok (.nx ei)) = r := hw
    have o2 := OutS.mono sf o'
    rw [← hw'] at o2
    have ol := OutS.lf mi o2
    cases et : evT L.G L.c (dflT L.T) t ei with
    | no => rw [et] at ol; exact ol.elim
    | ex c =>
      rw [et] at ol
      exact ⟨f0, H0, fi, ei, mi, by rw [et]; exact ol⟩
    | ok c =>
      rw [et] at ol hw'
      refine ⟨f0, H0, fi, ei, mi, ?_⟩
      rw [et]
      intro f' H'' q
      cases c with
      | false => exact (show EndOk L K W f0 H0 fi (.nx ei) Dn from ol) σ' f' H'' q.sf (mi.mono q)
      | true =>
        rw [if_pos rfl]
        have ol' : OutS L K W f0 H0 fi ((L.ess b ei).bind (nextFl (whileN (evT L.G L.c (dflT L.T) t) (L.ess b) k))) Dn := ol
        obtain ⟨fl, ef, o3⟩ := OutS.bind ol'
        have hw2 : nextFl (whileN (evT L.G L.c (dflT L.T) t) (L.ess b) k) fl = r := by
          have z : (L.ess b ei).bind _ = r := hw'
          rw [ef] at z
          exact z
        refine ⟨fun σ2 H2 => ∃ f2 e2, Same f f2 ∧ Mt K f0 H0 f2 H2 σ2 e2 ∧ whileN (evT L.G L.c (dflT L.T) t) (L.ess b) k e2 = r, fun σ2 H2 ⟨f2, e2, s2, m2, w2⟩ => ⟨k, Nat.lt_succ_self k, f2, e2, s2, m2, w2⟩, f0, H0, f', ei, mi.mono q, ?_⟩
        rw [ef]
        cases fl with
        | nx e => exact fun σ2 f2 H2 s2 m2 => ⟨f2, e, (sf.trans q.sf).trans s2, m2, hw2⟩
        | ct e => exact fun σ2 f2 H2 s2 m2 => ⟨f2, e, (sf.trans q.sf).trans s2, m2, hw2⟩
        | bk e => exact fun σ2 f2 H2 s2 m2 => (show EndOk L K W f0 H0 fi (.nx e) Dn from o3) σ2 f2 H2 (q.sf.trans s2) m2
        | rt d fr => exact o3
        | ex c e => exact fun σ2 f2 H2 s2 m2 => (show EndOk L K W f0 H0 fi (.ex c e) Dn from o3) σ2 f2 H2 (q.sf.trans s2) m2
  · rw [dif_neg hh] at o'
    exact o'.elim
theorem imp_for {tg : Tg} {it : It} {b : Ss} {Dn σ H} (h : dS L K W (.for_ tg it b) Dn σ H) : tFor (dI L K W it) (gD K tg) (dSs L K W b) Dn σ H := by
  obtain ⟨f0, H0, f, en, m, o⟩ := h
  have o1 := OutS.lf m (show OutS L K W f0 H0 f (lf en (evI L.G L.c (dflT L.T) it en) fun ds => forR (bindT tg) (L.ess b) ds en) Dn from o)
  refine ⟨f0, H0, f, en, m, o1.imp (Po.refl m.po.sub) fun ds _ h1 J f1 H1 q1 wk => ?_⟩
  have h2 := OutS.mono q1.sf h1
  generalize hr : forR (bindT tg) (L.ess b) ds en = r at h2
  refine ⟨fun i mm σ' H' => mm = ds.length - i ∧ i ≤ ds.length ∧ ∃ fi ei, Same f1 fi ∧ Mt K f0 H0 fi H' σ' ei ∧ forR (bindT tg) (L.ess b) (ds.drop i) ei = r, ⟨_, rfl, Nat.zero_le _, f1, en, Same.refl f1, m.mono q1, hr⟩, ?_⟩
  rintro i mm σ' H' ⟨rfl, hi, fi, ei, sf, mi, hf⟩
  have sm1 : Same f1 H' := sf.trans mi.po.sub
  by_cases hlt : i < ds.length
  · refine .inr ⟨wk.go i H' sm1 hlt, fun σ2 H2 => ∃ f2 e2, Same f1 f2 ∧ Mt K f0 H0 f2 H2 σ2 e2 ∧ forR (bindT tg) (L.ess b) (ds.drop (i + 1)) e2 = r, fun σ2 H2 hn => ⟨_, by omega, rfl, hlt, hn⟩, fun x H2 hy => ?_⟩
    obtain ⟨d, hd, hw⟩ := wk.yld i H' x H2 hlt sm1 hy
    obtain ⟨f2, q3, hx⟩ := hw fi sf mi.po.sub
    have hdrop : ds.drop i = d :: ds.drop (i + 1) := by
      rw [List.drop_eq_getElem_cons hlt]
      have : ds[i] = d := by
        rw [List.getElem?_eq_getElem hlt] at hd
        exact Option.some.inj hd
      rw [this]
    rw [hdrop] at hf
    have hf' : (bindT tg d ei).bind (fun e1 => (L.ess b e1).bind (nextFl (forR (bindT tg) (L.ess b) (ds.drop (i + 1))))) = r := hf
    have rno : ∀ {α : Type} {x : R α} {g : α → R Fl}, x.bind g = r → ∃ a, x = .ok a ∧ g a = r := fun {α x g} z => by
      cases x with
      | ok a => exact ⟨a, rfl, z⟩
      | ex c => rw [← z] at h2; exact h2.elim
      | no => rw [← z] at h2; exact h2.elim
    obtain ⟨e1, eb, hf2⟩ := rno hf'
    obtain ⟨fl, ef, hf3⟩ := rno hf2
    refine ⟨f0, H0, f2, ei, d, e1, mi.mono q3, hx, eb, fun σ2 m2 _ => ⟨f0, H0, f2, e1, m2, ?_⟩⟩
    rw [ef]
    have sf2 : Same f1 f2 := sf.trans q3.sf
    cases fl with
    | nx e => exact fun σ3 f3 H3 s3 m3 => ⟨f3, e, sf2.trans s3, m3, hf3⟩
    | ct e => exact fun σ3 f3 H3 s3 m3 => ⟨f3, e, sf2.trans s3, m3, hf3⟩
    | bk e =>
      rw [← hf3] at h2
      exact fun σ3 f3 H3 s3 m3 => (show EndOk L K W f0 H0 f1 (.nx e) Dn from h2) σ3 f3 H3 (sf2.trans s3) m3
    | rt d fr =>
      rw [← hf3] at h2
      exact h2
    | ex c e =>
      rw [← hf3] at h2
      exact fun σ3 f3 H3 s3 m3 => (show EndOk L K W f0 H0 f1 (.ex c e) Dn from h2) σ3 f3 H3 (sf2.trans s3) m3
  · have e : i = ds.length := by omega
    subst e
    refine .inl ⟨wk.stop H' sm1, ?_⟩
    rw [List.drop_length] at hf
    have hf' : R.ok (Fl.nx ei) = r := hf
    rw [← hf'] at h2
    exact (show EndOk L K W f0 H0 f1 (.nx ei) Dn from h2) σ' fi H' sf mi

/-! ### all -/
theorem plainS_sw {e : Expr} (h : plainS e = true) {t : Option Expr} {l : Nat} : swapsWith e t l X.env = pure false := by
  cases e <;> first
    | rfl
    | cases h
theorem plainV_sw {e : Expr} (h : plainV e = true) {t : Option Expr} {l : Nat} : swapsWith e t l X.env = pure false := by
  cases e <;> first
    | rfl
    | cases h
theorem opI_aug {o : O2} {op : Operator} (hp : PyR X) (h : augOf o op = true) : OpR X (inplaceOp op) (fun x y H Q => ∃ f dx dy p, Same f H ∧ Vr X.K f H x dx ∧ Vr X.K f H y dy ∧ ((∃ i, dx = .int i) ∨ ∃ z, dx = .str z) ∧ sem2 o dx dy = .ok p ∧ Ac X.K f H Q p) := by
  intro pins s σ H x y v u Q I rx ry hh
  obtain ⟨f, dx, dy, p, sm, hx, hy, hd, e, q⟩ := hh
  rcases hd with ⟨i, rfl⟩ | ⟨z, rfl⟩
  · cases o <;> cases op <;> first
      | (cases h; done)
      | skip
    case add.Add =>
      cases dy <;> first
        | (cases e; done)
        | skip
      case int j =>
        cases e
        exact iop_add pins s σ H x y v u Q I rx ry ⟨i, j, hx.int, hy.int, q.here sm (.int _)⟩
    case sub.Sub =>
      cases dy <;> first
        | (cases e; done)
        | skip
      case int j =>
        cases e
        exact iop_sub pins s σ H x y v u Q I rx ry ⟨i, j, hx.int, hy.int, q.here sm (.int _)⟩
    case mul.Mult =>
      cases dy <;> first
        | (cases e; done)
        | skip
      case int j =>
        have e' : (if mulOk i j = true then v1 (.int (i * j)) else .no) = R.ok p := e
        by_cases hz : mulOk i j = true
        · rw [if_pos hz] at e'
          cases e'
          have hr : OpR X (inplaceOp .Mult) (rI (fun i j => mulOk i j = true) fun i j => .int (i * j)) := opI fun _ _ _ _ _ _ _ hc q => imul_int q (mulOk_ok hc)
          exact hr pins s σ H x y v u Q I rx ry ⟨i, j, hx.int, hy.int, hz, q.here sm (.int _)⟩
        · rw [if_neg hz] at e'
          cases e'
    case fdiv.FloorDiv =>
      cases dy <;> first
        | (cases e; done)
        | skip
      case int j =>
        have e' : (if j = 0 then R.no else v1 (.int (i.fdiv j))) = R.ok p := e
        by_cases h0 : j = 0
        · rw [if_pos h0] at e'
          cases e'
        · rw [if_neg h0] at e'
          cases e'
          obtain ⟨t, rfl⟩ : RelV (.int i) v := by rw [← hx.int]; exact rx
          obtain ⟨t', rfl⟩ : RelV (.int j) u := by rw [← hy.int]; exact ry
          exact ifloordiv_int h0 ⟨.int (i.fdiv j), H, I.tok _, ⟨_, rfl⟩, q.here sm (.int _)⟩ (.inr (hp.of I))
    case mod.Mod =>
      cases dy <;> first
        | (cases e; done)
        | skip
      case int j =>
        have e' : (if j = 0 then R.no else v1 (.int (i.fmod j))) = R.ok p := e
        by_cases h0 : j = 0
        · rw [if_pos h0] at e'
          cases e'
        · rw [if_neg h0] at e'
          cases e'
          have hr : OpR X (inplaceOp .Mod) (rI (fun i j => j ≠ 0) fun i j => .int (i.fmod j)) := opI fun _ _ _ _ _ _ _ hc q => imod_int hc q
          exact hr pins s σ H x y v u Q I rx ry ⟨i, j, hx.int, hy.int, h0, q.here sm (.int _)⟩
  · cases o <;> cases op <;> first
      | (cases h; done)
      | skip
    case add.Add =>
      cases dy <;> first
        | (cases e; done)
        | skip
      case str j =>
        have e' : (if z.length + j.length ≤ line then v1 (.str (z ++ j)) else .no) = R.ok p := e
        by_cases hz : z.length + j.length ≤ line
        · rw [if_pos hz] at e'
          cases e'
          exact iop_add_str pins s σ H x y v u Q I rx ry ⟨z, j, hx.str, hy.str, by rw [← line_eq]; exact hz, q.here sm (.str _)⟩
        · rw [if_neg hz] at e'
          cases e'
    all_goals (cases dy <;> cases e)
end
end AW

/-! AwTry: try: body, except AreaError as n: m = n; the error is kept. -/
namespace AW
open PySem PySem.Spec PyProof.Rows L2
section
variable {X : Cx} {pins : List (Addr × Obj)} {σ : L2.St} {H : Hp} {s : Shared}
/-- behind the suite, the error still pinned -/
theorem inv_unsuiteK {a : Addr} {q : Addr × Obj} (I : Inv (X.suite a (q :: (X.pn ++ pins))) [] σ H s) (ok : X.Ok) : Inv X (q :: pins) σ H s :=
  ⟨ok, I.os, I.bare, I.base, I.loc, I.cell, I.free, I.freeC, fun p hp => I.pin p (by
    rw [List.append_nil]
    rcases List.mem_append.mp hp with h | h
    · exact List.mem_cons_of_mem _ (List.mem_append_left _ h)
    · rcases List.mem_cons.mp h with h | h
      · rw [h]; exact List.mem_cons_self
      · exact List.mem_cons_of_mem _ (List.mem_append_right _ h)), I.hok, I.len⟩
/-- a pinned error is tracked -/
theorem inv_track {a : Addr} {oe : Obj} {vs : Array Value} {k : Nat} {K : PySem.W.Frag} (I : Inv X ((a, oe) :: pins) σ H s) (hz : Zc (erC K k) none oe) (hd : oe.data = .fields vs) (h0 : X.s_0.heap.get? a = none) (hp : ∀ p ∈ X.pn ++ pins, p.1 ≠ a) :
    Inv X pins σ (upd H a (erO K k a)) s := by
  obtain ⟨e, n, ne, nf, d⟩ := I.pin (a, oe) (List.mem_append_right _ List.mem_cons_self)
  have e : s.heap.get? a = some oe := e
  have n : H a = none := n
  have ne : a ≠ X.env.locals := ne
  have ne0 : ∀ b o, X.s_0.heap.get? b = some o → b ≠ a := fun b o e z => by
    rw [z, h0] at e
    cases e
  refine ⟨I.ok, I.os, I.bare, ⟨I.base.keep, I.base.slot, fun b o e n hx => ?_, I.base.there, fun b xs q => ?_, fun b o u q => ?_, fun b ps q => ?_⟩, I.loc, I.cell, ?_, fun x c ex => ?_, fun p hp' => ?_, I.hok.laidN (fun _ _ q => q) n (erO_ok e hz hd), I.len⟩
  · rw [upd_ne (ne0 b o e)]
    exact I.base.free b o e n hx
  · have z := I.base.tups b xs q
    rw [upd_ne (ne_of_none z n)]
    exact z
  · have z := I.base.frzs b o u q
    rw [upd_ne (ne_of_none z n)]
    exact z
  · obtain ⟨m, z⟩ := I.base.tbls b ps q
    exact ⟨m, by rw [upd_ne (ne_of_none z n)]; exact z⟩
  · rw [upd_ne (Ne.symm ne)]
    exact I.free
  · have hc : c ≠ a := fun z => by
      obtain ⟨v, o, ho, hdc⟩ := I.cell x c ex
      rw [z, e] at ho
      cases ho
      rw [hd] at hdc
      cases hdc
    rw [upd_ne hc]
    exact I.freeC x c ex
  · have hm : p ∈ X.pn ++ (a, oe) :: pins := by
      rcases List.mem_append.mp hp' with h | h
      · exact List.mem_append_left _ h
      · exact List.mem_append_right _ (List.mem_cons_of_mem _ h)
    obtain ⟨p1, p2, p3, p4, p5⟩ := I.pin p hm
    exact ⟨p1, by rw [upd_ne (hp p hp')]; exact p2, p3, p4, p5⟩
end
/-- what the clause wishes of an error of the body: slot h is its name's, slot i the kept one's -/
def wKeep (K : PySem.W.Frag) (c : Value) (h i : Nat) (D : Ends) : WX := fun cls d σ H =>
  PySem.W.exmOne K cls c = some true ∧ d = none ∧ ∃ k, cls = erC K k ∧ ∀ a, H a = none → D.nx (((σ.set h (some (.ref a))).set i (some (.ref a))).set h none) (upd H a (erO K k a))
section
variable {X : Cx} {x n m : Str} {c : Value} {h i : Nat} {body : List Stmt} {np pn pm pa pos pos' : Pos} {tb : WX → TS}
theorem ps_try_keep (hs : X.stack = X.env :: X.outer) (hf : X.env.frame = some X.env.locals) (hex : X.ex = []) (hN : X.N.Nodup) (hh : X.N[h]? = some n) (hi : X.N[i]? = some m) (hne : h ≠ i) (hln : X.env.kindOf n = some .local) (hlm : X.env.kindOf m = some .local)
    (hd1 : (n == ("__debug__" : Str)) = false) (hd2 : (n == ("__classdict__" : Str)) = false) (hc : Names X x c)
    (hb : ∀ (W : WX) (pn : List (Addr × Obj)) (xe : Value → Shared → Prop), Takes (X.tr pn xe) W → PassesOwn (model X.prog X.w) X.A X.env xe → PSs (X.tr pn xe) body (tb W)) :
    PS X (.Try body [.ExceptHandler (some (.Name x np)) (some n) [.Assign [.Name m pm] (.Name n pn) pa] pos'] [] [] pos) (fun D σ H => tb (wKeep X.K c h i D) D σ H) := by
  refine ⟨fun pins s σ H D I hh0 => ?_⟩
  have ok := I.ok
  have hfr : X.A.frames = some (X.env :: X.outer) := by rw [ok.frames, hs]
  have hloc : Loc X.env.scope n := .inl hln
  refine wpAny_Try_except ?_
  refine wpAny_mono ((hb (wKeep X.K c h i D) (X.pn ++ pins) (fun e s₁ => wpAny (model X.prog X.w) X.A (noteFrame e X.env) (fun _ s₂ => wpAny (model X.prog X.w) X.A (setFlight e none) (fun _ s₃ =>
    wpAny (model X.prog X.w) X.A (handleBy e X.env [.ExceptHandler (some (.Name x np)) (some n) [.Assign [.Name m pm] (.Name n pn) pa] pos']) (SP X pins D) X.xe s₃) X.xe s₂) X.xe s₁) (fun u s' xx => ?_) PassesOwn.looking).run [] s σ H D (I.toTry _) hh0) (fun f s1 hsp => ?_) (fun e s1 he => he)
  · obtain ⟨a, B, sI, pins', σ', H', cls, d, rfl, J', nb, up, sky, na, os, ag, hb1, rfl, k, hcls, hw⟩ := xx
    have J : Inv X pins σ' H' sI := J'.ofTry ok
    have sky' : Sky B (X.env :: X.outer) a (Zc cls none) X.env.locals s'.heap := by rw [← hs]; exact sky
    show wpAny (model X.prog X.w) X.A (noteFrame (.ref a) X.env) _ _ _
    refine Sky.land Zc.steady hfr hf sky' fun h3 fl3 up3 => ?_
    have J3 : Inv X pins σ' H' { s' with heap := h3 } := J.landed nb fl3.1 (up.trans up3) os ag
    obtain ⟨oe3, vs3, he3, hz3, hd3⟩ := fl3.there
    have notFr : ∀ {h : Heap} {o : Obj} {vs : Array Value}, h.FunFrames B (X.env :: X.outer) → h.get? a = some o → o.data = .fields vs → a ∉ frs (X.env :: X.outer) := fun {h o vs} ff e dd hm => by
      obtain ⟨_, o', e', hnf⟩ := ff.mem hm
      rw [e] at e'; cases e'
      exact hnf _ dd
    have nfr := notFr fl3.2.2.1 he3 hd3
    have nB : B.get? a = none := fl3.2.1
    have nI : ∀ o, sI.heap.get? a ≠ some o := fun o e => by
      have z := nb a o e (by rw [hs]; exact nfr)
      rw [nB] at z
      cases z
    have n0 : X.s_0.heap.get? a = none := by
      cases e : X.s_0.heap.get? a with
      | none => rfl
      | some o =>
        obtain ⟨o', e'⟩ := J.base.there a o e (by rw [hex]; exact fun z => nomatch z)
        exact absurd e' (nI o')
    have npin : ∀ p ∈ X.pn ++ pins, p.1 ≠ a := fun p hp z => by
      obtain ⟨p1, _⟩ := J.pin p hp
      rw [z] at p1
      exact nI _ p1
    have nL : a ≠ X.env.locals := fun z => nfr (List.mem_filterMap.mpr ⟨X.env, List.mem_cons_self, by rw [hf, z]⟩)
    have nF : a ∉ X.fs := fun hm => by
      obtain ⟨e, he, q⟩ := List.mem_filterMap.mp hm
      exact nfr (List.mem_filterMap.mpr ⟨e, List.mem_cons_of_mem _ he, q⟩)
    have S3 := J3.suite he3 hd3 na nL nF
    refine wpAny_handleBy_cons (codeAny_handlers_test ?_) (by intro q; cases q)
    have LT : PySem.W.Looks (model X.prog X.w) h3 (typeOf (.ref a)) cls := fun A Q E s k q => wpAny_typeOf_ref (k _ _ he3) (by rw [hz3.1]; exact q)
    have LM := PySem.W.exm_one (M := model X.prog X.w) (J3.kIn) LT hb1
    have test : ∀ {Q : Value → Shared → Prop} {E : Value → Shared → Prop}, Q c { s' with heap := h3 } → wpAny (model X.prog X.w) (X.A.mark (some (.ref a))) (eval (.Name x np) X.env) Q E { s' with heap := h3 } := fun {Q E} q => by
      obtain ⟨hg, hdbg, hm | ⟨hm, hv, hnn⟩⟩ := hc
      · exact ld_glob (X := X.suite a ((a, oe3) :: (X.pn ++ pins))) S3 hg hm q hdbg
      · exact ld_blt (X := X.suite a ((a, oe3) :: (X.pn ++ pins))) S3 hg hm hv q hnn hdbg
    refine test (LM.here ?_)
    refine codeAny_handlers_suite_as ?_
    refine HandSPX.lands_againZ fl3 fun h4 fl4 up4 => ?_
    have J4 : Inv X pins σ' H' { s' with heap := h4 } := J.landed nb fl4.1 ((up.trans up3).trans up4) os ag
    obtain ⟨oe4, vs4, he4, hz4, hd4⟩ := fl4.there
    have S4 := J4.suite he4 hd4 na nL nF
    refine store_ok (X := X.suite a ((a, oe4) :: (X.pn ++ pins))) (v := .ref a) S4 hN hh hloc rfl (fun s5 S5 => ?_) (.inr hln)
    have hlen : h < σ'.length := by
      rw [J.len]
      exact (List.getElem?_eq_some_iff.mp hh).1
    have suite : PSs (X.suite a ((a, oe4) :: (X.pn ++ pins))) [.Assign [.Name m pm] (.Name n pn) pa] (tAsg (tVar h) (gName i)) :=
      pss_one (ps_set (X := X.suite a ((a, oe4) :: (X.pn ++ pins))) hN hi (.inl hlm) (pe_var (X := X.suite a ((a, oe4) :: (X.pn ++ pins))) hh (.inl hln) hd1 hd2) rfl (.inr hlm))
    have q5 : tAsg (tVar h) (gName i) { nx := fun σ6 H6 => σ6 = (σ'.set h (some (.ref a))).set i (some (.ref a)) ∧ H6 = H', rt := fun _ _ => False, bk := fun _ _ => False, ct := fun _ _ => False } (σ'.set h (some (.ref a))) H' :=
      ⟨.ref a, List.getElem?_set_self hlen, rfl, rfl⟩
    refine wpAny_mono (suite.run [] s5 _ H' _ S5 q5) (fun f s6 hsp => ?_) (fun _ _ z => False.elim z)
    cases f with
    | next =>
      obtain ⟨σ6, H6, S6, rfl, rfl⟩ := hsp
      refine gone_ok (inv_unsuiteK S6 ok) hN hh hln fun s7 J7 => ?_
      rw [hcls] at hz4
      exact ⟨_, _, inv_track J7 hz4 hd4 n0 npin, hw a na⟩
    | brk =>
      obtain ⟨σ6, H6, S6, q6⟩ := hsp
      exact q6.elim
    | cont =>
      obtain ⟨σ6, H6, S6, q6⟩ := hsp
      exact q6.elim
    | ret u =>
      obtain ⟨v6, σ6, H6, S6, r6, q6⟩ := hsp
      exact q6.elim
  · cases f with
    | next =>
      obtain ⟨σ', H', J', q⟩ := hsp
      exact wpAny_execs_nil ⟨σ', H', J'.ofTry ok, q⟩
    | brk =>
      obtain ⟨σ', H', J', q⟩ := hsp
      exact ⟨σ', H', J'.ofTry ok, q⟩
    | cont =>
      obtain ⟨σ', H', J', q⟩ := hsp
      exact ⟨σ', H', J'.ofTry ok, q⟩
    | ret u =>
      obtain ⟨v, σ', H', J', r, q⟩ := hsp
      exact ⟨v, σ', H', J'.ofTry ok, r, q⟩
end
section
variable {L : Lk} {N : List Str} {sc : Nms} {W : WX} {X : Cx} {K : PySem.W.Frag}
theorem imp_try {h i : Nat} {ks : List Nat} {b : Ss} {Dn σ H} {AE : Value} (hk : ∀ k, ks.contains k = true → L.cls k = erC K k ∧ PySem.W.exmOne K (L.cls k) AE = some true) (hi : h ≠ i) (q : dS L K W (.tryA h i ks b) Dn σ H) : dSs L K (wKeep K AE h i Dn) b Dn σ H := by
  obtain ⟨f0, H0, f, en, m, o⟩ := q
  have o' : OutS L K W f0 H0 f ((L.ess b en).bind fun fl => (match fl with | .ex c e => if ks.contains c then .ok (.nx ((e.set h .un).set i (.er c))) else .no | fl => .ok fl)) Dn := o
  refine ⟨f0, H0, f, en, m, ?_⟩
  cases es0 : L.ess b en with
  | no => rw [es0] at o'; exact o'.elim
  | ex c => rw [es0] at o'; exact o'.elim
  | ok fl =>
    rw [es0] at o'
    show EndOk L K (wKeep K AE h i Dn) f0 H0 f fl Dn
    cases fl with
    | nx e => exact (show EndOk L K W f0 H0 f (.nx e) Dn from o')
    | bk e => exact (show EndOk L K W f0 H0 f (.bk e) Dn from o')
    | ct e => exact (show EndOk L K W f0 H0 f (.ct e) Dn from o')
    | rt d fr => exact (show EndOk L K W f0 H0 f (.rt d fr) Dn from o')
    | ex k e =>
      have o' : OutS L K W f0 H0 f (if ks.contains k then .ok (.nx ((e.set h .un).set i (.er k))) else .no) Dn := o'
      by_cases hc : ks.contains k = true
      · rw [if_pos hc] at o'
        obtain ⟨h1, h2⟩ := hk k hc
        intro σ' f' H' s' m'
        refine ⟨h2, rfl, k, h1, fun a ha => (show EndOk L K W f0 H0 f (.nx ((e.set h .un).set i (.er k))) Dn from o') _ f' (upd H' a (erO K k a)) s' ?_⟩
        have m3 := (((m'.setU (i := h) (o := some (.ref a))).setE (i := i) (p := a) (c := k) ha).setU (i := h) (o := none))
        have ee : (((e.set h .un).set i (.er k)).set h .un) = (e.set h .un).set i (.er k) := by
          rw [List.set_comm _ _ (Ne.symm hi), List.set_set]
        rw [ee] at m3
        exact m3
      · rw [if_neg hc] at o'
        exact o'.elim
theorem XS.tr (xs : XS L N sc W X) {W' : WX} {pn : List (Addr × Obj)} {xe : Value → Shared → Prop} (tk : Takes (X.tr pn xe) W') (hp : PassesOwn (model X.prog X.w) X.A X.env xe) : XS L N sc W' (X.tr pn xe) :=
  ⟨⟨xs.xc.lk, xs.xc.N, xs.xc.nd, xs.xc.kind, fun x k h => by
    have z := xs.xc.nm x k h
    cases k with
    | globalImplicit =>
      first
        | exact z
        | exact ⟨z.1, z.2⟩
    | _ => exact z, xs.xc.calm, xs.xc.room, tk, xs.xc.py⟩, hp, xs.st, xs.fr, xs.ex⟩
end
end AW

/-! AwFin: every statement that the check lets by. -/
namespace AW
open PySem PySem.Spec PyProof.Rows L2

section
variable {L : Lk}
theorem set_self {σ : L2.St} {i : Nat} {o : Option V} (h : σ[i]? = some o) : σ.set i o = σ := by
  refine List.ext_getElem? fun j => ?_
  by_cases hj : i = j
  · subst hj
    obtain ⟨hl, _⟩ := List.getElem?_eq_some_iff.mp h
    rw [List.getElem?_set_self hl, h]
  · rw [List.getElem?_set_ne hj]
/-- x op= e: the value's case, the list's -/
def ipV (K : PySem.W.Frag) (o : O2) : R2 := fun x y H Q => ∃ f dx dy p, Same f H ∧ Vr K f H x dx ∧ Vr K f H y dy ∧ ((∃ i, dx = .int i) ∨ ∃ z, dx = .str z) ∧ sem2 o dx dy = .ok p ∧ Ac K f H Q p
def isAdd : O2 → Prop
  | .add => True
  | _ => False
def ipA (K : PySem.W.Frag) (o : O2) : R2 := fun x y H Q => ipV K o x y H Q ∨ (isAdd o ∧ rExt2 x y H Q)
theorem ip_A {X : Cx} {o : O2} {op : Operator} (hp : PyR X) (h : augOf o op = true) : PIp X op (ipA X.K o) := by
  intro pins s σ H x y v u Q I rx ry q
  rcases q with q | ⟨ha, q⟩
  · exact opI_aug hp h pins s σ H x y v u Q I rx ry q
  · cases o <;> cases op <;> first
      | (cases h; done)
      | exact ha.elim
      | exact iop_ext pins s σ H x y v u Q I rx ry q
theorem sem2_flag {o : O2} {d : D} (hd : (∃ i, d = .int i) ∨ ∃ z, d = .str z) {op : Operator} (h : augOf o op = true) {b : D} {p : D × Bool} (e : sem2 o d b = .ok p) : p.2 = false := by
  have ite_f : ∀ {c : Prop} [Decidable c] {x : D}, (if c then v1 x else .no) = R.ok p → p.2 = false := fun {c} _ {x} z => by
    by_cases hc : c
    · rw [if_pos hc] at z; cases z; rfl
    · rw [if_neg hc] at z; cases z
  have ite_g : ∀ {c c' : Prop} [Decidable c] [Decidable c'] {x : D}, (if c then R.no else if c' then v1 x else .no) = R.ok p → p.2 = false := fun {c c'} _ _ {x} z => by
    by_cases hc : c
    · rw [if_pos hc] at z; cases z
    · rw [if_neg hc] at z; exact ite_f z
  have ite_h : ∀ {c : Prop} [Decidable c] {x : D}, (if c then R.no else v1 x) = R.ok p → p.2 = false := fun {c} _ {x} z => by
    by_cases hc : c
    · rw [if_pos hc] at z; cases z
    · rw [if_neg hc] at z; cases z; rfl
  rcases hd with ⟨i, rfl⟩ | ⟨z, rfl⟩ <;> cases o <;> cases op <;> first
    | (cases h; done)
    | (cases b <;> first
        | (cases e; done)
        | (cases e; rfl)
        | exact ite_f e
        | exact ite_g e
        | exact ite_h e)
theorem imp_aug {K : PySem.W.Frag} {W : WX} {i : Nat} {o : O2} {op : Operator} (hop : augOf o op = true) {e : E} {Dn σ H} (h : dS L K W (.aug i o e) Dn σ H) : tAug i (dV L K W e) (ipA K o) Dn σ H := by
  obtain ⟨f0, H0, f, en, m, ot⟩ := h
  have ot : OutS L K W f0 H0 f (match en[i]? with
    | some (.va (.int d)) => lf en (L.ev e en) fun x => (sem2 o (.int d) x.1).bind fun z => .ok (.nx (en.set i (.va z.1)))
    | some (.va (.str d)) => lf en (L.ev e en) fun x => (sem2 o (.str d) x.1).bind fun z => .ok (.nx (en.set i (.va z.1)))
    | some (.ow ds) => lf en (L.ev e en) fun x => (extL o ds x).bind fun ds' => .ok (.nx (en.set i (.ow ds')))
    | _ => .no) Dn := ot
  have scalar : ∀ d : D, ((∃ j, d = .int j) ∨ ∃ z, d = .str z) → en[i]? = some (.va d) → OutS L K W f0 H0 f (lf en (L.ev e en) fun x => (sem2 o d x.1).bind fun z => .ok (.nx (en.set i (.va z.1)))) Dn → tAug i (dV L K W e) (ipA K o) Dn σ H := fun d hd ei od => by
    obtain ⟨v, hv, hdv⟩ := m.va ei
    refine ⟨v, hv, f0, H0, f, en, m, (OutS.lf m od).imp (Po.refl m.po.sub) fun p _ h1 u f1 H1 q1 hu => .inl ?_⟩
    obtain ⟨z, ez, h2⟩ := OutS.bind h1
    refine ⟨f1, d, p.1, z, q1.sub, .inl (dp_same q1.sf hdv), hu.read, hd, ez, fun w f2 H2 q2 hw => ?_⟩
    rw [sem2_flag hd hop ez] at hw
    exact h2 _ f2 H2 (q1.sf.trans q2.sf) (((m.mono q1).mono q2).setV hw)
  cases ei : en[i]? with
  | none => rw [ei] at ot; exact ot.elim
  | some s =>
    rw [ei] at ot
    cases s with
    | un => exact ot.elim
    | rd d => exact ot.elim
    | er d => exact ot.elim
    | fn d => exact ot.elim
    | dk d => exact ot.elim
    | va d =>
      cases d with
      | int j => exact scalar _ (.inl ⟨j, rfl⟩) ei ot
      | str j => exact scalar _ (.inr ⟨j, rfl⟩) ei ot
      | _ => exact ot.elim
    | ow ds =>
      obtain ⟨a, vs, e1, _, _, hH, ha⟩ := m.ow ei
      refine ⟨_, e1, f0, H0, f, en, m, (OutS.lf m ot).imp (Po.refl m.po.sub) fun p _ h1 u f1 H1 q1 hu => .inr ?_⟩
      obtain ⟨ds', ed, h2⟩ := OutS.bind h1
      obtain ⟨d, b⟩ := p
      cases o <;> first
        | (cases ed; done)
        | skip
      cases b with
      | false => cases d <;> cases ed
      | true =>
        obtain ⟨xs, c, ws, rfl, rfl, z1, z2, z3, z4⟩ := hu
        have m1 := m.mono q1
        obtain ⟨a', vs', e1', _, _, hH', ha'⟩ := m1.ow ei
        rw [e1] at e1'
        cases e1'
        have ed' : (if ds.length + xs.length ≤ line then R.ok (ds ++ xs) else .no) = .ok ds' := ed
        by_cases hz : ds.length + xs.length ≤ line
        · rw [if_pos hz] at ed'
          cases ed'
          refine ⟨trivial, a, c, vs', ws, rfl, rfl, hH', z3, by rw [ha'.length, z4.length, ← line_eq]; exact hz, ?_⟩
          show Dn.nx (σ.set i (some (.ref a))) _
          rw [set_self e1]
          exact (show EndOk L K W f0 H0 f (.nx (en.set i (.ow (ds ++ xs)))) Dn from h2) σ f1 _ q1.sf (m1.upO ei e1 (ha'.append z4))
        · rw [if_neg hz] at ed'
          cases ed'
theorem par_ok {N : List Str} {sc : Nms} {W : WX} {X : Cx} (xc : XC L N sc W X) : ∀ {is : List Nat} {ts : List Expr}, parOk N sc is ts = true → ts.length = is.length ∧ ∀ (k i : Nat) (t : Expr), is[k]? = some i → ts[k]? = some t → ∃ x p, t = .Name x p ∧ X.N[i]? = some x ∧ X.env.scope.names.lookup x = some .local
  | [], [], _ => ⟨rfl, fun k i t h => by simp at h⟩
  | [], _ :: _, h => by cases h
  | _ :: _, [], h => by cases h
  | i :: is, e :: es, h => by
    cases e with
    | Name x p =>
      obtain ⟨h1, h2⟩ := and2 (show (N[i]? == some x && sc.lookup x == some .local && parOk N sc is es) = true from h)
      obtain ⟨h3, h4⟩ := and2 h1
      obtain ⟨i1, i2⟩ := par_ok xc h2
      refine ⟨by rw [List.length_cons, List.length_cons, i1], fun k j t e1 e2 => ?_⟩
      cases k with
      | zero =>
        have e1 := Option.some.inj e1
        have e2 := Option.some.inj e2
        subst e1 e2
        exact ⟨x, p, rfl, by rw [xc.N]; exact eq_of_beq h3, xc.nm x _ (eq_of_beq h4)⟩
      | succ k => exact i2 k j t e1 e2
    | _ => cases h
theorem len2 {α : Type} {l : List α} (h : l.length = 2) : ∃ a b, l = [a, b] := by
  cases l with
  | nil => cases h
  | cons a l => cases l with
    | nil => cases h
    | cons b l => cases l with
      | nil => exact ⟨a, b, rfl⟩
      | cons c l => simp at h
theorem len3 {α : Type} {l : List α} (h : l.length = 3) : ∃ a b c, l = [a, b, c] := by
  cases l with
  | nil => cases h
  | cons a l =>
    obtain ⟨b, c, rfl⟩ := len2 (l := l) (by simpa using h)
    exact ⟨a, b, c, rfl⟩
theorem nd_ne {N : List Str} (h : N.Nodup) {i j : Nat} {x y : Str} (hi : N[i]? = some x) (hj : N[j]? = some y) (hij : i ≠ j) : x ≠ y := fun e => by
  subst e
  obtain ⟨h1, e1⟩ := List.getElem?_eq_some_iff.mp hi
  obtain ⟨h2, e2⟩ := List.getElem?_eq_some_iff.mp hj
  have hp := List.pairwise_iff_getElem.mp h
  rcases Nat.lt_or_gt_of_ne hij with z | z
  · exact hp i j h1 h2 z (e1.trans e2.symm)
  · exact hp j i h2 h1 z (e2.trans e1.symm)
theorem par_of {N : List Str} {sc : Nms} {W : WX} {X : Cx} (xc : XC L N sc W X) {is : List Nat} {es : Es} {ts vs : List Expr} {k k2 : Nat} {p p2 pos : Pos} (h1 : parOk N sc is ts = true) (h2 : ckEs L.T L.cons L.clsN N sc es vs = true) (hl : is.length = 2 ∨ is.length = 3) (hn : is.Nodup) (hv : vs.length = is.length) (hs : sameLine ts = true)
    (hf : vs.all (foldedForSure 8) = false) (hc : vs.all (constantsAlone 8) = false) : PS X (.Assign [.Tuple ts k p] (.Tuple vs k2 p2) pos) (dS L X.K W (.par is es)) := by
  obtain ⟨el, hp⟩ := par_ok xc h1
  have st := stars_none h2
  rcases hl with hl | hl
  · obtain ⟨i, j, rfl⟩ := len2 hl
    obtain ⟨t, u, rfl⟩ := len2 (el.trans hl)
    obtain ⟨a, b, rfl⟩ := len2 (hv.trans hl)
    obtain ⟨x, px, rfl, nx, lx⟩ := hp 0 i t rfl rfl
    obtain ⟨y, py, rfl, ny, ly⟩ := hp 1 j u rfl rfl
    have hij : i ≠ j := fun z => by subst z; simp at hn
    have hxy := nd_ne xc.nd nx ny hij
    have hline : (py.line == px.line) = true := by
      simpa [sameLine, Expr.pos] using hs
    exact PS.imp (ps_par xc.calm xc.nd nx ny hij lx ly (sEs es xc _ h2) (swap2 xc lx ly hxy hline st hf hc)) fun Dn σ H q => imp_par2 q
  · obtain ⟨i, j, l, rfl⟩ := len3 hl
    obtain ⟨t, u, w, rfl⟩ := len3 (el.trans hl)
    obtain ⟨a, b, c, rfl⟩ := len3 (hv.trans hl)
    obtain ⟨x, px, rfl, nx, lx⟩ := hp 0 i t rfl rfl
    obtain ⟨y, py, rfl, ny, ly⟩ := hp 1 j u rfl rfl
    obtain ⟨z, pz, rfl, nz, lz⟩ := hp 2 l w rfl rfl
    have hij : i ≠ j := fun z => by subst z; simp at hn
    have hil : i ≠ l := fun z => by subst z; simp at hn
    have hjl : j ≠ l := fun z => by subst z; simp at hn
    have hline : (py.line == px.line) = true ∧ (pz.line == px.line) = true := by
      simpa [sameLine, Expr.pos] using hs
    exact PS.imp (ps_par3 xc.calm xc.nd nx ny nz hij hil hjl lx ly lz (sEs es xc _ h2) (swap3 xc lx ly lz (nd_ne xc.nd nx ny hij) (nd_ne xc.nd nx nz hil) (nd_ne xc.nd ny nz hjl) hline.1 hline.2 st hf hc)) fun Dn σ H q => imp_par3 q
theorem few_ok {N : List Str} {sc : Nms} {X : Cx} {T : List Fn} {cs : List (Str × D)} {cl : List Str} {x : E} {e : Expr} {cp : Pos} (h : ckE T cs cl N sc x e = true) : ((backTo cp (starEach (e :: []) X.env)).all (fun x => !x.1) && (backToKw cp (keywordEach [] X.env)).all (fun x => x.1.isSome)
      && decide ((e :: []).length + ([] : List Keyword).length + (if ([] : List Keyword).isEmpty then 0 else 1) < 30)) = true := by
  rw [star_of h []]
  rfl
theorem rai_of {N : List Str} {sc : Nms} {W : WX} {X : Cx} (xc : XC L N sc W X) {k : Nat} {x m : Str} {i : Nat} {p p2 p3 pos : Pos} (h : (L.clsN[k]? == some x) = true) (hx : (x != "") = true) (hg : glOk sc x = true) : PS X (.Raise (some (.Call (.Name x p) [.Constant (.str m) i p2] [] p3)) none pos) (dS L X.K W (.rai k)) := by
  obtain ⟨g1, g2, g3⟩ := gl_of xc hg
  obtain ⟨C, e1, e2, e3, e4, e5, e6⟩ := xc.lk.exc k x (eq_of_beq h) (bne_ne hx)
  refine PS.imp (ps_raise xc.calm xc.tk (pmk_own PySem.F.excBase_ValueError e3 e2 e4 (raises_own e5 e6) g1 g2)) fun Dn σ H q => ?_
  obtain ⟨f0, H0, f, en, mt, ot⟩ := q
  have ot' : EndOk L X.K W f0 H0 f (.ex k en) Dn := ot
  have z := ot' σ f H (Same.refl f) mt
  rw [e1] at z
  exact z
theorem inv_cmp {T : List Fn} {cs : List (Str × D)} {cl : List Str} {N : List Str} {sc : Nms} {elt : E} {tg : Tg} {it : It} {ifs : Eo} {own : List (Str × Nat)} {elt' : Expr} {gs : List Comprehension} {scope : Scope} {q : Pos} (h : ckE T cs cl N sc (.cmp elt tg it ifs own) (.ListComp elt' gs scope q) = true) : ∃ tg' it' ifs', gs = [⟨tg', it', ifs', 0⟩] ∧ ckI T cs cl N sc it it' (isTup tg') = true ∧ blkOkB N sc scope own = true ∧ ckT N scope.names tg tg' = true ∧ (tgSlots tg).all (fun i => (own.map (·.2)).contains i) = true ∧ ckIf T cs cl N scope.names ifs ifs' = true ∧ ckE T cs cl N scope.names elt elt' = true := by
  unfold ckE at h
  split at h
  · rename_i heq
    cases heq
    obtain ⟨h, h6⟩ := and2 h
    obtain ⟨h, h5⟩ := and2 h
    obtain ⟨h, h4⟩ := and2 h
    obtain ⟨h, h3⟩ := and2 h
    obtain ⟨h1, h2⟩ := and2 h
    exact ⟨_, _, _, rfl, h1, h2, h3, h4, h5, h6⟩
  · cases h
theorem isCmp_inv {e : E} (h : isCmp e = true) : ∃ elt tg it ifs own, e = .cmp elt tg it ifs own := by
  cases e <;> first
    | (cases h; done)
    | exact ⟨_, _, _, _, _, rfl⟩
theorem inv_asgC {T : List Fn} {cs : List (Str × D)} {cl N : List Str} {sc : Nms} {i : Nat} {o : Bool} {e : E} {st : Stmt} (h : ckS T cs cl N sc (.asgC i o e) st = true) : ∃ x p e' pos, st = .Assign [.Name x p] e' pos ∧ (N[i]? == some x && ckE T cs cl N sc e e' && compNow sc x p e' && isCmp e) = true := by
  unfold ckS at h
  split at h
  · exact ⟨_, _, _, _, rfl, h⟩
  · cases h
theorem inv_asgO {T : List Fn} {cs : List (Str × D)} {cl N : List Str} {sc : Nms} {i : Nat} {e : E} {st : Stmt} (h : ckS T cs cl N sc (.asgO i e) st = true) : ∃ x p e' pos, st = .Assign [.Name x p] e' pos ∧ (locOk N sc i x && ckE T cs cl N sc e e' && stOk sc (.Name x p) e') = true := by
  unfold ckS at h
  split at h
  · exact ⟨_, _, _, _, rfl, h⟩
  · cases h
theorem inv_setI {T : List Fn} {cs : List (Str × D)} {cl N : List Str} {sc : Nms} {i : Nat} {k e : E} {st : Stmt} (h : ckS T cs cl N sc (.setI i k e) st = true) : ∃ x px k' pk e' pos, st = .Assign [.Subscript (.Name x px) k' pk] e' pos ∧ (nmOk N sc i x && ckE T cs cl N sc k k' && ckE T cs cl N sc e e' && plainS e' && plainE k') = true := by
  unfold ckS at h
  split at h
  · exact ⟨_, _, _, _, _, _, rfl, h⟩
  · cases h
theorem inv_popA {T : List Fn} {cs : List (Str × D)} {cl N : List Str} {sc : Nms} {i : Nat} {tg : Tg} {st : Stmt} (h : ckS T cs cl N sc (.popA tg i) st = true) : ∃ tg' x px m ap cp pos, st = .Assign [tg'] (.Call (.Attribute (.Name x px) m ap) [] [] cp) pos ∧ (ckT N sc tg tg' && nmOk N sc i x && m == "pop" && ap.endLine == cp.line) = true := by
  unfold ckS at h
  split at h
  · exact ⟨_, _, _, _, _, _, _, rfl, h⟩
  · cases h
mutual
theorem sS : ∀ (s : S) {N : List Str} {sc : Nms} {W : WX} {X : Cx} (_ : XS L N sc W X) (st : Stmt), ckS L.T L.cons L.clsN N sc s st = true → PS X st (dS L X.K W s)
  | .pass, N, sc, W, X, xs, st, h => by
    unfold ckS at h
    split at h
    · refine PS.imp ps_pass fun Dn σ H q => ?_
      obtain ⟨f0, H0, f, en, m, o⟩ := q
      exact (show EndOk L X.K W f0 H0 f (.nx en) Dn from o) σ f H (Same.refl f) m
    · cases h
  | .asg tg e, N, sc, W, X, xs, st, h => by
    unfold ckS at h
    split at h
    · obtain ⟨h, h3⟩ := and2 h
      obtain ⟨h1, h2⟩ := and2 h
      obtain ⟨a1, a2, a3⟩ := stOk_ok xs.xc h3 ⟨tg, h1⟩
      exact PS.imp (ps_asg (sE e xs.xc _ h2) (sTg xs.xc tg _ h1) a1 a2 a3) fun Dn σ H q => imp_asg q
    · cases h
  | .asgO i e, N, sc, W, X, xs, st, h => by
    obtain ⟨x, p, e', pos, rfl, h⟩ := inv_asgO h
    obtain ⟨h, h3⟩ := and2 h
    obtain ⟨h1, h2⟩ := and2 h
    obtain ⟨b1, b2, b3⟩ := loc_of xs.xc h1
    obtain ⟨a1, a2, a3⟩ := stOk_ok (l := pos.line) xs.xc h3 ⟨.nm i, h1⟩
    exact PS.imp (ps_set xs.xc.nd b1 b2 (sE e xs.xc _ h2) a1 b3) fun Dn σ H q => imp_asgO q
  | .dnew i, N, sc, W, X, xs, st, h => by
    unfold ckS at h
    split at h
    · obtain ⟨b1, b2, b3⟩ := loc_of xs.xc h
      exact PS.imp (ps_set xs.xc.nd b1 b2 pe_dnewN rfl b3) fun Dn σ H q => imp_dnew q
    · cases h
  | .asgC i o e, N, sc, W, X, xs, st, h => by
    obtain ⟨x, p, e', pos, rfl, h⟩ := inv_asgC h
    obtain ⟨h, h4⟩ := and2 h
    obtain ⟨h, h3⟩ := and2 h
    obtain ⟨h1, h2⟩ := and2 h
    obtain ⟨elt', g, scope, q, rfl, hl, hsw⟩ := compNow_ok (l := pos.line) xs.xc h3
    obtain ⟨elt, tg, it, ifs, own, rfl⟩ := isCmp_inv h4
    obtain ⟨tg', it', ifs', hg, c1, c2, c3, c4, c5, c6⟩ := inv_cmp h2
    cases hg
    have ht : ∀ i ∈ tgSlots tg, i ∈ own.map (·.2) := fun i hi => List.contains_iff_mem.mp (List.all_eq_true.mp c4 i hi)
    have hi : X.N[i]? = some x := by rw [xs.xc.N]; exact eq_of_beq h1
    refine PS.imp (ps_setLc (te := dV L X.K W0 elt) (g := gD X.K tg) (tt := dB L X.K W0 ifs) xs.xc.calm xs.xc.nd hi hl hsw (sI it xs.xc _ _ c1) (blk_ok xs.xc c2) (fun s H C cl fp => sTg (xs.xc.blk c2 s H C cl fp) tg _ c3) (fun s H C cl fp => sIf ifs (xs.xc.blk c2 s H C cl fp) _ c5) (fun s H C cl fp => sE elt (xs.xc.blk c2 s H C cl fp) _ c6) (sFold it _ _ c1)) fun Dn σ H q => ?_
    exact imp_cmp ht (imp_asgC q)
  | .par is es, N, sc, W, X, xs, st, h => by
    unfold ckS at h
    split at h
    · obtain ⟨h, h8⟩ := and2 h
      obtain ⟨h, h7⟩ := and2 h
      obtain ⟨h, h6⟩ := and2 h
      obtain ⟨h, h5⟩ := and2 h
      obtain ⟨h, h4⟩ := and2 h
      obtain ⟨h, h3⟩ := and2 h
      obtain ⟨h1, h2⟩ := and2 h
      exact par_of xs.xc h1 h2 (of_decide_eq_true h3) (of_decide_eq_true h4) (eq_of_beq h5) h6 (not_false h7) (not_false h8)
    · cases h
  | .setI i k e, N, sc, W, X, xs, st, h => by
    obtain ⟨x, px, k', pk, e', pos, rfl, h⟩ := inv_setI h
    obtain ⟨h, h5⟩ := and2 h
    obtain ⟨h, h4⟩ := and2 h
    obtain ⟨h, h3⟩ := and2 h
    obtain ⟨h1, h2⟩ := and2 h
    obtain ⟨b1, b2, b3, b4⟩ := vis_of xs.xc h1
    have a1 : swapsWith e' (some (.Subscript (.Name x px) k' pk)) pos.line X.env = pure false := plainS_sw h4
    refine PS.imp (ps_asg (sE e xs.xc _ h3) (pg_sub (pe_var b1 b2 b3 b4) (sE k xs.xc _ h2) (set_ln xs.xc.units) ?_) a1 ?_ rfl) fun Dn σ H q => imp_setI q
    · intro v
      cases k' <;> first
        | rfl
        | cases h5
    · cases e' <;> first
        | rfl
        | cases h4
  | .aug i o e, N, sc, W, X, xs, st, h => by
    unfold ckS at h
    split at h
    · obtain ⟨h, h3⟩ := and2 h
      obtain ⟨h1, h2⟩ := and2 h
      obtain ⟨b1, b2, b3⟩ := loc_of xs.xc h1
      exact PS.imp (ps_aug xs.xc.nd b1 b2 (sE e xs.xc _ h3) (ip_A xs.xc.py h2) b3) fun Dn σ H q => imp_aug h2 q
    · cases h
  | .app i e, N, sc, W, X, xs, st, h => by
    unfold ckS at h
    split at h
    · obtain ⟨h, h4⟩ := and2 h
      obtain ⟨h, h3⟩ := and2 h
      obtain ⟨h1, h2⟩ := and2 h
      obtain ⟨b1, b2, b3, b4⟩ := vis_of xs.xc h1
      have em := str_beq h2
      subst em
      exact PS.imp (ps_expr (pe_bm PySem.F.plainAttrs_list PySem.F.slot_list_append PySem.F.type_list_append mt_append (pe_var b1 b2 b3 b4) (pa_cons (sE e xs.xc _ h3) pa_nil (star_of h3 [])) rfl (few_ok h3) h4 (star_of h3 []) rfl)) fun Dn σ H q => imp_app q
    · cases h
  | .extT i e, N, sc, W, X, xs, st, h => by
    unfold ckS at h
    split at h
    · obtain ⟨h, h4⟩ := and2 h
      obtain ⟨h, h3⟩ := and2 h
      obtain ⟨h1, h2⟩ := and2 h
      obtain ⟨b1, b2, b3, b4⟩ := vis_of xs.xc h1
      have em := str_beq h2
      subst em
      exact PS.imp (ps_expr (pe_bm PySem.F.plainAttrs_list PySem.F.slot_list_extend PySem.F.type_list_extend mt_extT (pe_var b1 b2 b3 b4) (pa_cons (sE e xs.xc _ h3) pa_nil (star_of h3 [])) rfl (few_ok h3) h4 (star_of h3 []) rfl)) fun Dn σ H q => imp_extT q
    · cases h
  | .pop i, N, sc, W, X, xs, st, h => by
    unfold ckS at h
    split at h
    · obtain ⟨h, h4⟩ := and2 h
      obtain ⟨h1, h2⟩ := and2 h
      obtain ⟨b1, b2, b3, b4⟩ := vis_of xs.xc h1
      have em := str_beq h2
      subst em
      exact PS.imp (ps_expr (pe_bm0 PySem.F.plainAttrs_list PySem.F.slot_list_pop PySem.F.type_list_pop mt_pop (pe_var b1 b2 b3 b4) rfl h4)) fun Dn σ H q => imp_pop q
    · cases h
  | .popA tg i, N, sc, W, X, xs, st, h => by
    obtain ⟨tg', x, px, m, ap, cp, pos, rfl, h⟩ := inv_popA h
    obtain ⟨h, h4⟩ := and2 h
    obtain ⟨h, h3⟩ := and2 h
    obtain ⟨h1, h2⟩ := and2 h
    obtain ⟨b1, b2, b3, b4⟩ := vis_of xs.xc h2
    have em := str_beq h3
    subst em
    refine PS.imp (ps_asg (pe_bm0 PySem.F.plainAttrs_list PySem.F.slot_list_pop PySem.F.type_list_pop mt_pop (pe_var b1 b2 b3 b4) rfl h4) (sTg xs.xc tg _ h1) rfl ?_ (ck_assign1 h1 [])) fun Dn σ H q => imp_popA q
    cases tg' <;> rfl
  | .rvs i, N, sc, W, X, xs, st, h => by
    unfold ckS at h
    split at h
    · obtain ⟨h, h4⟩ := and2 h
      obtain ⟨h1, h2⟩ := and2 h
      obtain ⟨b1, b2, b3, b4⟩ := vis_of xs.xc h1
      have em := str_beq h2
      subst em
      exact PS.imp (ps_expr (pe_bm0 PySem.F.plainAttrs_list PySem.F.slot_list_reverse PySem.F.type_list_reverse mt_reverse (pe_var b1 b2 b3 b4) rfl h4)) fun Dn σ H q => imp_rvs q
    · cases h
  | .frz i, N, sc, W, X, xs, st, h => by
    unfold ckS at h
    cases h
  | .ite t a b, N, sc, W, X, xs, st, h => by
    unfold ckS at h
    split at h
    · obtain ⟨h, h3⟩ := and2 h
      obtain ⟨h1, h2⟩ := and2 h
      exact PS.imp (ps_if (sT t xs.xc _ h1) (sSs a xs _ h2) (sSs b xs _ h3)) fun Dn σ H q => imp_ite q
    · cases h
  | .whl t b, N, sc, W, X, xs, st, h => by
    unfold ckS at h
    split at h
    · obtain ⟨h1, h2⟩ := and2 h
      exact PS.imp (ps_while xs.hp (sT t xs.xc _ h1) (sSs b xs _ h2)) fun Dn σ H q => imp_whl q
    · cases h
  | .for_ tg it b, N, sc, W, X, xs, st, h => by
    unfold ckS at h
    split at h
    · obtain ⟨h, h3⟩ := and2 h
      obtain ⟨h1, h2⟩ := and2 h
      exact PS.imp (ps_for xs.hp xs.xc.calm (sI it xs.xc _ _ h2) (sTg xs.xc tg _ h1) (sSs b xs _ h3) (sFold it _ _ h2)) fun Dn σ H q => imp_for q
    · cases h
  | .ret e, N, sc, W, X, xs, st, h => by
    unfold ckS at h
    split at h
    · exact PS.imp (ps_ret (sE e xs.xc _ h)) fun Dn σ H q => imp_ret q
    · cases h
  | .retO i, N, sc, W, X, xs, st, h => by
    unfold ckS at h
    split at h
    · obtain ⟨b1, b2, b3, b4⟩ := vis_of xs.xc h
      exact PS.imp (ps_ret (pe_var b1 b2 b3 b4)) fun Dn σ H q => imp_retO q
    · cases h
  | .retN, N, sc, W, X, xs, st, h => by
    unfold ckS at h
    split at h
    · refine PS.imp ps_retN fun Dn σ H q => ?_
      obtain ⟨f0, H0, f, en, m, o⟩ := q
      exact (show EndOk L X.K W f0 H0 f (.rt .none false) Dn from o) .non f H m.po .non
    · cases h
  | .brk, N, sc, W, X, xs, st, h => by
    unfold ckS at h
    split at h
    · refine PS.imp ps_break fun Dn σ H q => ?_
      obtain ⟨f0, H0, f, en, m, o⟩ := q
      exact (show EndOk L X.K W f0 H0 f (.bk en) Dn from o) σ f H (Same.refl f) m
    · cases h
  | .cnt, N, sc, W, X, xs, st, h => by
    unfold ckS at h
    split at h
    · refine PS.imp ps_continue fun Dn σ H q => ?_
      obtain ⟨f0, H0, f, en, m, o⟩ := q
      exact (show EndOk L X.K W f0 H0 f (.ct en) Dn from o) σ f H (Same.refl f) m
    · cases h
  | .rai k, N, sc, W, X, xs, st, h => by
    unfold ckS at h
    split at h
    · obtain ⟨h1, h2⟩ := and2 h
      obtain ⟨h1, h3⟩ := and2 h1
      exact rai_of xs.xc h1 h3 h2
    · cases h
  | .exp e, N, sc, W, X, xs, st, h => by
    unfold ckS at h
    split at h
    · obtain ⟨h1, h2⟩ := and2 h
      exact PS.imp (ps_expr (sE e xs.xc _ h1) (plainV_sw h2)) fun Dn σ H q => imp_exp q
    · cases h
  | .tryA h i ks b, N, sc, W, X, xs, st, hc => by
    unfold ckS at hc
    split at hc
    · obtain ⟨hc, h11⟩ := and2 hc
      obtain ⟨hc, h10⟩ := and2 hc
      obtain ⟨hc, h9⟩ := and2 hc
      obtain ⟨hc, h8⟩ := and2 hc
      obtain ⟨hc, h7⟩ := and2 hc
      obtain ⟨hc, h6⟩ := and2 hc
      obtain ⟨hc, h5⟩ := and2 hc
      obtain ⟨hc, h4⟩ := and2 hc
      obtain ⟨hc, h3⟩ := and2 hc
      obtain ⟨h1, h2⟩ := and2 hc
      have h1 := str_beq h1
      subst h1
      have h9 := str_beq h9
      subst h9
      have h2 := eq_of_beq h2
      obtain ⟨k1, k2, k3⟩ := cls_at xs.xc.lk h2 area_ne
      obtain ⟨g1, g2, g3⟩ := gl_of xs.xc h3
      obtain ⟨v1, v2, v3, v4⟩ := vis_of xs.xc h5
      have hi := eq_of_beq h6
      rw [← xs.xc.N] at hi
      have hA : L.clsN.contains "AreaError" = true := List.contains_iff_mem.mpr (mem_of_at h2)
      have hne : h ≠ i := fun z => by
        subst z
        rw [v1] at hi
        exact bne_ne h10 (Option.some.inj hi)
      have kn := xs.xc.nm _ _ (eq_of_beq h7)
      have km := xs.xc.nm _ _ (eq_of_beq h8)
      refine PS.imp (ps_try_keep (tb := fun W' => dSs L X.K W' b) xs.st xs.fr xs.ex xs.xc.nd v1 hi hne kn km v3 v4 ⟨g1, g2, .inl k3⟩ fun W' pn xe tk hp => sSs b (xs.tr tk hp) _ h11) fun Dn σ H q => ?_
      refine imp_try (fun k hk => ?_) hne q
      obtain ⟨n, n1, n2⟩ := ks_at h4 hk
      obtain ⟨c1, c2, _⟩ := cls_at xs.xc.lk n1 n2
      obtain ⟨_, _, _, b4, _⟩ := erB_ne xs.xc.lk.er hA (mem_of_at n1) n2
      exact ⟨c2.trans c1.symm, by rw [c2]; exact b4⟩
    · cases hc
  | .dead, N, sc, W, X, xs, st, h => PS.imp ps_never fun Dn σ H ⟨f0, H0, f, en, m, o⟩ => o
theorem sSs : ∀ (s : Ss) {N : List Str} {sc : Nms} {W : WX} {X : Cx} (_ : XS L N sc W X) (sts : List Stmt), ckSs L.T L.cons L.clsN N sc s sts = true → PSs X sts (dSs L X.K W s)
  | .nil, N, sc, W, X, xs, sts, h => by
    cases sts with
    | nil =>
      refine PSs.imp pss_nil fun Dn σ H q => ?_
      obtain ⟨f0, H0, f, en, m, o⟩ := q
      exact (show EndOk L X.K W f0 H0 f (.nx en) Dn from o) σ f H (Same.refl f) m
    | cons s sts => cases h
  | .cons s r, N, sc, W, X, xs, sts, h => by
    have seq : ∀ {Dn : Ends} {f0 H0 f : Hp} {en : En}, OutS L X.K W f0 H0 f (L.ess (.cons s r) en) Dn → OutS L X.K W f0 H0 f (L.es s en) { Dn with nx := fun σ' H' => dSs L X.K W r Dn σ' H' } := fun {Dn f0 H0 f en} o => by
      obtain ⟨fl, ef, o2⟩ := OutS.bind (show OutS L X.K W f0 H0 f ((L.es s en).bind fun fl => (match fl with | .nx e => L.ess r e | fl => .ok fl)) Dn from o)
      rw [ef]
      cases fl with
      | nx e => exact fun σ' f' H' s' m' => ⟨f0, H0, f', e, m', OutS.mono s' o2⟩
      | bk e => exact o2
      | ct e => exact o2
      | rt d fr => exact o2
      | ex c e => exact o2
    by_cases hf : ∃ i, s = .frz i
    · obtain ⟨i, rfl⟩ := hf
      have h' : ckSs L.T L.cons L.clsN N sc r sts = true := h
      refine PSs.imp (sSs r xs sts h') fun Dn σ H q => ?_
      obtain ⟨f0, H0, f, en, m, o⟩ := q
      have o1 := seq o
      have o2 : OutS L X.K W f0 H0 f (match en[i]? with
        | some (.ow ds) => .ok (.nx (en.set i (.va (.list ds))))
        | _ => .no) { Dn with nx := fun σ' H' => dSs L X.K W r Dn σ' H' } := o1
      cases ei : en[i]? with
      | none => rw [ei] at o2; exact o2.elim
      | some s =>
        rw [ei] at o2
        cases s with
        | ow ds =>
          obtain ⟨f', sm, m'⟩ := m.frz ei
          exact (show EndOk L X.K W f0 H0 f (.nx (en.set i (.va (.list ds)))) { Dn with nx := fun σ' H' => dSs L X.K W r Dn σ' H' } from o2) σ f' H sm m'
        | _ => exact o2.elim
    · cases sts with
      | nil =>
        exfalso
        cases s <;> first
          | cases h
          | exact hf ⟨_, rfl⟩
      | cons st rest =>
        have h' : (ckS L.T L.cons L.clsN N sc s st && ckSs L.T L.cons L.clsN N sc r rest) = true := by
          cases s <;> first
            | exact h
            | exact absurd ⟨_, rfl⟩ hf
        obtain ⟨h1, h2⟩ := and2 h'
        refine PSs.imp (pss_cons (sS s xs st h1) (sSs r xs rest h2)) fun Dn σ H q => ?_
        obtain ⟨f0, H0, f, en, m, o⟩ := q
        exact ⟨f0, H0, f, en, m, seq o⟩
end
end
end AW

/-! AwFn: defs: a checked table keeps its promises. -/
namespace AW
open PySem PySem.Spec PyProof.Rows L2

/-! ### the link at level n -/
noncomputable def lkN (T : List Fn) (cons : List (Str × D)) (cls : Nat → Value) (clsN : List Str) (n : Nat) : Lk where
  T := T
  cons := cons
  c := callN (fun x => ((cons[x]?).map (·.2)).getD .none) T n
  lev := n + 32
  cls := cls
  clsN := clsN

/-! ### checks -/
def dvB : He.Dv → D → Bool
  | .non, .none => true
  | .bl a, .bool b => a == b
  | .int i, .int j => i == j
  | .str x, .str y => x == y
  | _, _ => false
def dvsB : List He.Dv → List D → Bool
  | [], [] => true
  | v :: vs, d :: ds => dvB v d && dvsB vs ds
  | _, _ => false
theorem dvB_ok {K : PySem.W.Frag} {H : Hp} {v : He.Dv} {d : D} (h : dvB v d = true) : Dp K H (v.v K) d := by
  cases v <;> cases d <;> first
    | (cases h; done)
    | skip
  · exact .non
  · rw [← eq_of_beq (show (_ == _) = true from h)]; exact .bl _
  · rw [← eq_of_beq (show (_ == _) = true from h)]; exact .int _
  · rw [← str_beq (show (_ == _) = true from h)]; exact .str _
theorem dvsB_ok {K : PySem.W.Frag} {H : Hp} : ∀ {vs : List He.Dv} {ds : List D}, dvsB vs ds = true → DpAll K H (vs.map (He.Dv.v K)) ds
  | [], [], _ => .nil
  | [], _ :: _, h => by cases h
  | _ :: _, [], h => by cases h
  | v :: vs, d :: ds, h => by
    obtain ⟨h1, h2⟩ := and2 (show (dvB v d && dvsB vs ds) = true from h)
    exact .cons (dvB_ok h1) (dvsB_ok h2)
def scB (N ps : List Str) (sc : Scope) : Bool :=
  sc.kind == .function && !sc.isCoroutine && !sc.isGenerator && decide N.Nodup && N.take ps.length == ps &&
  ps.all (fun x => sc.names.lookup x == some .local || sc.names.lookup x == some .cell) && sc.names.all fun y => y.2 != .free
theorem scB_ok {N ps : List Str} {sc : Scope} (h : scB N ps sc = true) : FnScope N ps sc := by
  unfold scB at h
  obtain ⟨h, h7⟩ := and2 h
  obtain ⟨h, h6⟩ := and2 h
  obtain ⟨h, h5⟩ := and2 h
  obtain ⟨h, h4⟩ := and2 h
  obtain ⟨h, h3⟩ := and2 h
  obtain ⟨h1, h2⟩ := and2 h
  refine ⟨eq_of_beq h1, not_false h2, not_false h3, of_decide_eq_true h4, eq_of_beq h5, fun x hx => ?_, fun y hy e => ?_⟩
  · have z := List.all_eq_true.mp h6 x hx
    rcases Bool.or_eq_true_iff.mp z with z | z
    · exact .inl (eq_of_beq z)
    · exact .inr (eq_of_beq z)
  · have z := List.all_eq_true.mp h7 y hy
    rw [e] at z
    cases z
/-- one def of the table against the text's -/
def ckFn (T : List Fn) (cs : List (Str × D)) (cl : List Str) (g : Fn) (d : He.DefD) : Bool :=
  d.name == g.name && d.at_ == (g.name, none) && scB g.N g.ps d.scope && dvsB d.dfl g.dfl && d.kwd.isEmpty && ckSs T cs cl g.N d.scope.names g.body d.body
/-- how a def's arguments bind -/
structure BindF (g : Fn) (d : He.DefD) : Prop where
  no : g.dfl = [] → ∀ (kV doc pm : Value) (an : Option Addr) (cdv ct : Value) (us : List Value), us.length = g.ps.length → bindArgs (PySem.W.fnOf d.name d.qual d.params d.body d.scope .none kV doc pm an cdv ct) ⟨us, []⟩ = pure (g.ps.zip us)
  some_ : g.dfl ≠ [] → ∀ m, m ≤ g.dfl.length → m ≤ g.ps.length ∧ ∀ (T : Addr) (kV doc pm : Value) (an : Option Addr) (cdv ct : Value) (us its : List Value), us.length = g.ps.length - m → its.length = g.dfl.length →
    ∃ k, bindArgs (PySem.W.fnOf d.name d.qual d.params d.body d.scope (.ref T) kV doc pm an cdv ct) ⟨us, []⟩ = seqItems? (.ref T) >>= k ∧ k (some its.toArray) = pure (g.ps.zip (us ++ its.drop (g.dfl.length - m)))
theorem dvsB_len : ∀ {vs : List He.Dv} {ds : List D}, dvsB vs ds = true → vs.length = ds.length
  | [], [], _ => rfl
  | [], _ :: _, h => by cases h
  | _ :: _, [], h => by cases h
  | v :: vs, d :: ds, h => congrArg Nat.succ (dvsB_len (and2 (show (dvB v d && dvsB vs ds) = true from h)).2)
theorem binds_of {K : PySem.W.Frag} {g : Fn} {d : He.DefD} {fd : FuncData} {f : Addr} (F : FunD K d.name d.qual d.params d.body d.scope (d.dvs K) (d.kws K) f fd) (b : BindF g d) (hk : d.kwd = []) (hd : dvsB d.dfl g.dfl = true) {m : Nat} (hm : m ≤ g.dfl.length) :
    ∃ (dvs : List V) (ds : List Value), Vals dvs ds ∧ (∀ H, DpAll K H dvs (g.dv m)) ∧ Binds K fd g.ps ds := by
  have hl := dvsB_len hd
  by_cases h0 : g.dfl = []
  · have e1 : d.dvs K = [] := by
      unfold He.DefD.dvs
      rw [h0] at hl
      rw [List.eq_nil_of_length_eq_zero hl]
      rfl
    have e2 : d.kws K = [] := by unfold He.DefD.kws; rw [hk]; rfl
    rw [e1, e2] at F
    refine ⟨[], [], .nil, fun H => ?_, F.bindsN (b.no h0)⟩
    unfold Fn.dv
    rw [h0, List.drop_nil]
    exact .nil
  · obtain ⟨b1, b2⟩ := b.some_ h0 m hm
    have hne : d.dvs K ≠ [] := fun z => h0 (List.eq_nil_of_length_eq_zero (by rw [← hl]; unfold He.DefD.dvs at z; simpa using congrArg List.length z))
    have hlen : (d.dvs K).length = g.dfl.length := by unfold He.DefD.dvs; rw [List.length_map, hl]
    obtain ⟨ds, hv, hb⟩ := F.binds1 (ps := g.ps) (g.ps.length - m) (g.dfl.length - m) hne (by rw [hlen]; omega) fun T kV doc pm an cdv ct us its h1 h2 => b2 T kV doc pm an cdv ct us its h1 (h2.trans hlen)
    refine ⟨_, ds, hv, fun H => ?_, hb⟩
    unfold Fn.dv
    exact (dvsB_ok hd).drop _

/-! ### a def's entry -/
theorem args_at {K : PySem.W.Frag} {f H : Hp} : ∀ {vs : List V} {ss : List Sl} {i : Nat} {s : Sl}, ArgsOk K f H vs ss → ss[i]? = some s → ∃ v, vs[i]? = some v ∧ ArgOk K f H v s
  | _, _, _, _, .nil, h => by simp at h
  | _, _, 0, _, .cons a _, h => by
    have e := Option.some.inj h
    subst e
    exact ⟨_, rfl, a⟩
  | _, _, i + 1, _, .cons _ t, h => args_at (i := i) t h
theorem mt_start {K : PySem.W.Frag} {f H : Hp} {N : List Str} {vs : List V} {ss : List Sl} (sm : Same f H) (h : ArgsOk K f H vs ss) : Mt K f H f H (L2.start N vs) (ss ++ List.replicate (N.length - ss.length) .un) := by
  have hl := h.length
  have now : ∀ (i : Nat) (t : Sl), (ss ++ List.replicate (N.length - ss.length) Sl.un)[i]? = some t → t.mu = true → False := fun i t e ht => by
    by_cases hi : i < ss.length
    · rw [List.getElem?_append_left hi] at e
      obtain ⟨v, _, a⟩ := args_at h e
      cases a <;> cases ht
    · rw [List.getElem?_append_right (by omega), List.getElem?_replicate] at e
      split at e
      · cases e; cases ht
      · cases e
  refine ⟨Po.refl sm, ?_, fun i s e => ?_, fun i j p s t e _ ht _ _ _ => (now i s e ht).elim⟩
  · unfold L2.start
    simp [hl]
  · unfold L2.start
    by_cases hi : i < ss.length
    · rw [List.getElem?_append_left hi] at e
      obtain ⟨v, hv, a⟩ := args_at h e
      refine ⟨some v, ?_, ?_⟩
      · rw [List.getElem?_append_left (by rw [List.length_map]; omega), List.getElem?_map, hv]
        rfl
      · cases a with
        | va h => exact .va h
        | rd h1 h2 => exact .rd h1 h2
        | er h => exact .er h
        | fn => exact .fn
    · rw [List.getElem?_append_right (by omega), List.getElem?_replicate] at e
      split at e
      · rename_i hlt
        cases e
        refine ⟨none, ?_, .un none⟩
        rw [List.getElem?_append_right (by rw [List.length_map]; omega), List.getElem?_replicate, List.length_map, if_pos (by omega)]
      · cases e

section
variable {T : List Fn} {cons : List (Str × D)} {cls : Nat → Value} {clsN : List Str} {P : Program} {w : World} {K : PySem.W.Frag} {mg : Str → Option Value} {base : Heap}
/-- what the end knows of the text -/
structure TbOk (T : List Fn) (cons : List (Str × D)) (cls : Nat → Value) (clsN : List Str) (ds : List He.DefD) (K : PySem.W.Frag) (mg : Str → Option Value) : Prop where
  fn : ∀ (j : Nat) (g : Fn), T[j]? = some g → ∃ d, ds[j]? = some d ∧ ckFn T cons clsN g d = true ∧ BindF g d
  df : ∀ (j : Nat) (d : He.DefD), ds[j]? = some d → (∃ fd, FunD K d.name d.qual d.params d.body d.scope (d.dvs K) (d.kws K) (He.fAd K d.at_) fd) ∧ mg d.at_.1 = some (.ref (He.ga K d.at_.1))
  con : ∀ (x : Nat) (n : Str) (d : D), cons[x]? = some (n, d) → ∃ (v : V) (u : Value), mg n = some u ∧ RelV v u ∧ ∀ H, Dp K H v d
  blt : ∀ n ∈ blts, mg n = none
  see : seeB K = true
  ga : ∀ (k : Nat) (n : Str), clsN[k]? = some n → n ≠ "" → cls k = .ref (He.ga K n) ∧ errN[k]? = some n
  er : erB K clsN = true
  exc : ∀ (k : Nat) (n : Str), clsN[k]? = some n → n ≠ "" → ∃ C : Addr, cls k = .ref C ∧ mg n = some (.ref C) ∧ PySem.W.excIn K C [.type "ValueError", .type "Exception", .type "BaseException", .type "object"] "ValueError.__new__" = true ∧
    PySem.W.keepIn K (.ref C) = true ∧ PySem.W.subIn K (.ref C) (.type "BaseException") = some true ∧ PySem.W.typeIn K (.ref C) = some (.type "type")
theorem nm_body {CX' : CXT} {N : List Str} {qual : Str} {scope : Scope} {f : Addr} {cd : Value} {A : Around} {outer : List Env} {s : Shared} {H : Hp} {E : XK} : ∀ x k, scope.names.lookup x = some k → NmOk (cxOf CX' P w K mg base N qual scope f cd A outer s H E) x k := by
  intro x k h
  cases k with
  | «local» => exact h
  | cell => exact ⟨h, rfl⟩
  | free => exact .inr h
  | globalImplicit => exact h
  | globalExplicit => trivial
theorem pyr_body {CX' : CXT} {N ps : List Str} {qual : Str} {scope : Scope} {f : Addr} {cd : Value} {A : Around} {outer : List Env} {s : Shared} {H : Hp} {E : XK} {n : Nat} (hk : seeB K = true) (ht : P.given.tree = none) (S : FnScope N ps scope)
    (hr : Room (n + 32) (A.deeper (envOfC qual scope s.heap.objs.size f cd))) : PyR (cxOf CX' P w K mg base N qual scope f cd A outer s H E) := by
  intro hfr M s' hk'
  have hN : s'.heap.NoSeer := (seeB_ok hk M).keeps hk'
  refine PylongRoom.of (M.nolimit.keeps hk') ?_ (SeerAt.of hN ht hfr S.gen S.co rfl rfl)
  have z := hr.dp
  show (A.deeper (envOfC qual scope s.heap.objs.size f cd)).depth + 100 < recursionLimit
  omega
theorem fn_step {j : Nat} {g : Fn} {d : He.DefD} {f : Addr} {fd : FuncData} (hg : T[j]? = some g) (hc : ckFn T cons clsN g d = true) (F : FunD K d.name d.qual d.params d.body d.scope (d.dvs K) (d.kws K) f fd) (ih : LkOk (lkN T cons cls clsN j) P w K mg base) :
    FnOk P w K mg base (L2.CX P w) (j + 32 + 1) f fd g.ps ((lkN T cons cls clsN (j + 1)).sp K j) := by
  unfold ckFn at hc
  obtain ⟨hc, c6⟩ := and2 hc
  obtain ⟨hc, c5⟩ := and2 hc
  obtain ⟨hc, c4⟩ := and2 hc
  obtain ⟨hc, c3⟩ := and2 hc
  have S := scB_ok c3
  have spE : ∀ {f H : Hp} {ss : List Sl} {Q : VK} {E : XK} {vs : List V}, (match (lkN T cons cls clsN (j + 1)).c j ss with
    | .ok p => Ac K f H Q p
    | .ex k => ∀ f' H', Po f H f' H' → E (cls k) none H'
    | .no => False) → ss.length = g.ps.length ∧ (match (match evSs (lkN T cons cls clsN j).G (lkN T cons cls clsN j).c (dflT T) g.body (ss ++ List.replicate (g.N.length - ss.length) .un) with
        | .ok (.rt d fr) => R.ok (d, fr)
        | .ok (.nx _) => .ok (.none, false)
        | .ok (.ex c _) => .ex c
        | _ => .no) with
    | .ok p => Ac K f H Q p
    | .ex k => ∀ f' H', Po f H f' H' → E (cls k) none H'
    | .no => False) := fun {f H ss Q E vs} h => by
    change (match callN (lkN T cons cls clsN j).G T (j + 1) j ss with
      | .ok p => Ac K f H Q p
      | .ex k => ∀ f' H', Po f H f' H' → E (cls k) none H'
      | .no => False) at h
    unfold callN at h
    rw [if_pos rfl, hg] at h
    by_cases hl : ss.length = g.ps.length
    · refine ⟨hl, ?_⟩
      simp only [if_pos hl] at h
      exact h
    · simp only [if_neg hl] at h
  refine F.ok (CX := L2.CX P w) (k := j + 32) S (fun vs H Q E hsp => ?_) fun cdv A outer s H vs Q E hr hsp => ?_
  · obtain ⟨f, ss, sm, ha, hm⟩ := hsp
    rw [ha.length]
    exact (spE (vs := vs) hm).1
  · obtain ⟨f, ss, sm, ha, hm⟩ := hsp
    have hm := (spE (vs := vs) hm).2
    refine ⟨dSs (lkN T cons cls clsN j) K (fun c dd _ H' => E c dd H') g.body, ?_, ?_⟩
    · refine sSs (L := lkN T cons cls clsN j) g.body (N := g.N) (sc := d.scope.names) (W := fun c dd _ H' => E c dd H') ⟨⟨ih, rfl, S.nd, S.kind, nm_body, rfl, hr, takes_of rfl rfl rfl rfl, pyr_body ih.see.1 ih.see.2 S hr⟩, passes_of rfl, rfl, rfl, rfl⟩ d.body c6
    · refine ⟨f, H, f, _, mt_start sm ha, ?_⟩
      change OutS _ K _ f H f (evSs (lkN T cons cls clsN j).G (lkN T cons cls clsN j).c (dflT T) g.body (ss ++ List.replicate (g.N.length - ss.length) .un)) _
      cases ev : evSs (lkN T cons cls clsN j).G (lkN T cons cls clsN j).c (dflT T) g.body (ss ++ List.replicate (g.N.length - ss.length) .un) with
      | no => rw [ev] at hm; exact hm.elim
      | ex k => rw [ev] at hm; exact hm.elim
      | ok fl =>
        rw [ev] at hm
        cases fl with
        | nx en => exact fun σ' f' H' _ m' => hm .non f' H' m'.po .non
        | bk en => exact hm.elim
        | ct en => exact hm.elim
        | rt dd fr => exact fun v f' H' q hv => hm v f' H' q hv
        | ex k en => exact fun σ' f' H' _ m' => hm f' H' m'.po
theorem lk_step {ds : List He.DefD} (t : TbOk T cons cls clsN ds K mg) {n : Nat} (ih : LkOk (lkN T cons cls clsN n) P w K mg base) : LkOk (lkN T cons cls clsN (n + 1)) P w K mg base := by
  refine ⟨fun j g hg m hm => ?_, t.con, ih.fga, t.blt, ih.see, t.ga, t.er, t.exc⟩
  obtain ⟨fa, fd0, dvs, vs0, h1, h2, h3, h4, h5, h6⟩ := ih.fn j g hg m hm
  by_cases hj : j = n
  · subst hj
    obtain ⟨d, hd, hc, hb⟩ := t.fn _ g hg
    have hcc := hc
    unfold ckFn at hc
    obtain ⟨hc, c6⟩ := and2 hc
    obtain ⟨hc, c5⟩ := and2 hc
    obtain ⟨hc, c4⟩ := and2 hc
    obtain ⟨hc, c3⟩ := and2 hc
    obtain ⟨c1, c2⟩ := and2 hc
    obtain ⟨⟨fd, F⟩, hmg⟩ := t.df _ d hd
    have c2 := eq_of_beq c2
    have hk : d.kwd = [] := List.isEmpty_iff.mp c5
    obtain ⟨dvs, vs, hv, hdp, hbn⟩ := binds_of F hb hk c4 hm
    have ea : He.fAd K d.at_ = He.ga K g.name := by rw [c2]; rfl
    rw [c2] at hmg
    rw [ea] at F
    exact ⟨_, fd, dvs, vs, hmg, F.kp, (fn_step hg hcc F ih).mono (show j + 32 + 1 ≤ j + 1 + 32 by omega), hv, hdp, hbn⟩
  · have ec : ∀ ss, (lkN T cons cls clsN (n + 1)).c j ss = (lkN T cons cls clsN n).c j ss := fun ss => by
      show callN _ T (n + 1) j ss = callN _ T n j ss
      conv => lhs; unfold callN
      rw [if_neg hj]
    refine ⟨fa, fd0, dvs, vs0, h1, h2, (h3.mono (show n + 32 ≤ n + 1 + 32 by omega)).imp fun vs H Q E ⟨f, ss, sm, ha, hm⟩ => ⟨f, ss, sm, ha, ?_⟩, h4, h5, h6⟩
    rw [← ec ss]
    exact hm
theorem lk_all {ds : List He.DefD} (ht : P.given.tree = none) (t : TbOk T cons cls clsN ds K mg) : ∀ n, LkOk (lkN T cons cls clsN n) P w K mg base
  | 0 => by
    refine ⟨fun j g hg m hm => ?_, t.con, fun j g hg => ?_, t.blt, ⟨t.see, ht⟩, t.ga, t.er, t.exc⟩
    rotate_left
    · obtain ⟨d, hd, hc, hb⟩ := t.fn _ g hg
      unfold ckFn at hc
      obtain ⟨hc, c6⟩ := and2 hc
      obtain ⟨hc, c5⟩ := and2 hc
      obtain ⟨hc, c4⟩ := and2 hc
      obtain ⟨hc, c3⟩ := and2 hc
      obtain ⟨c1, c2⟩ := and2 hc
      have z := (t.df _ d hd).2
      rw [eq_of_beq c2] at z
      exact z
    obtain ⟨d, hd, hc, hb⟩ := t.fn _ g hg
    unfold ckFn at hc
    obtain ⟨hc, c6⟩ := and2 hc
    obtain ⟨hc, c5⟩ := and2 hc
    obtain ⟨hc, c4⟩ := and2 hc
    obtain ⟨hc, c3⟩ := and2 hc
    obtain ⟨c1, c2⟩ := and2 hc
    obtain ⟨⟨fd, F⟩, hmg⟩ := t.df _ d hd
    have c2 := eq_of_beq c2
    obtain ⟨dvs, vs, hv, hdp, hbn⟩ := binds_of F hb (List.isEmpty_iff.mp c5) c4 hm
    have ea : He.fAd K d.at_ = He.ga K g.name := by rw [c2]; rfl
    rw [c2] at hmg
    rw [ea] at F
    have no : ∀ vs H Q E, ¬ (lkN T cons cls clsN 0).sp K j vs H Q E := fun vs H Q E ⟨f, ss, sm, ha, hm⟩ => hm
    exact ⟨_, fd, dvs, vs, hmg, F.kp, ⟨fun vs H Q E h => (no _ _ _ _ h).elim, fun _ _ _ _ _ _ _ _ _ _ _ _ _ h => (no _ _ _ _ h).elim⟩, hv, hdp, hbn⟩
  | n + 1 => lk_step t (lk_all ht t n)
end
end AW

/-! AwHead: what the top leaves, by names; a law over a checked table. -/
namespace AW
open PySem PySem.Spec PyProof.Rows L2

/-! ### constants -/
mutual
def kB (K : PySem.W.Frag) : D → Value → Bool
  | .none, u => (match u with
    | .none => true
    | _ => false)
  | .bool b, u => (match u with
    | .bool c => b == c
    | _ => false)
  | .int i, u => (match u with
    | .int j _ => decide (i = j)
    | _ => false)
  | .str x, u => (match u with
    | .str y _ => decide (x = y)
    | _ => false)
  | .tuple ds, u => (match u with
    | .ref a => (match K.lookup a with
      | some ⟨.type c, _, .seq its _, _⟩ => decide (c = "tuple") && (decide (its.size ≤ sizeLine) && ksB K ds its.toList)
      | _ => false)
    | _ => false)
  | _, _ => false
def ksB (K : PySem.W.Frag) : List D → List Value → Bool
  | [], us => us.isEmpty
  | d :: ds, us => (match us with
    | u :: us => kB K d u && ksB K ds us
    | [] => false)
end
mutual
theorem kB_ok {K : PySem.W.Frag} : ∀ (d : D) (u : Value), kB K d u = true → ∃ v, RelV v u ∧ ∀ H, Dp K H v d
  | .none, u, h => by
    cases u <;> first
      | (cases h; done)
      | exact ⟨.non, rfl, fun H => .non⟩
  | .bool b, u, h => by
    cases u <;> first
      | (cases h; done)
      | skip
    case bool c =>
      have e : b = c := eq_of_beq (show (b == c) = true from h)
      subst e
      exact ⟨.bl b, rfl, fun H => .bl b⟩
  | .int i, u, h => by
    cases u <;> first
      | (cases h; done)
      | skip
    case int j t =>
      have e : i = j := of_decide_eq_true h
      subst e
      exact ⟨.int i, ⟨t, rfl⟩, fun H => .int i⟩
  | .str x, u, h => by
    cases u <;> first
      | (cases h; done)
      | skip
    case str y t =>
      have e : x = y := of_decide_eq_true h
      subst e
      exact ⟨.str x, ⟨t, rfl⟩, fun H => .str x⟩
  | .tuple ds, u, h => by
    cases u <;> first
      | (cases h; done)
      | skip
    case ref a =>
      have h : (match K.lookup a with
        | some ⟨.type c, _, .seq its _, _⟩ => decide (c = "tuple") && (decide (its.size ≤ sizeLine) && ksB K ds its.toList)
        | _ => false) = true := by
        unfold kB at h
        exact h
      cases q : K.lookup a with
      | none =>
        rw [q] at h
        cases h
      | some o =>
        obtain ⟨oc, od, dt, osl⟩ := o
        rw [q] at h
        cases oc with
        | type c =>
          cases dt with
          | seq its n =>
            obtain ⟨h1, h2⟩ := and2 (show (decide (c = "tuple") && (decide (its.size ≤ sizeLine) && ksB K ds its.toList)) = true from h)
            obtain ⟨h3, h4⟩ := and2 h2
            obtain ⟨vs, hv, hd⟩ := ksB_ok ds its.toList h4
            exact ⟨.ref a, rfl, fun H => .tup (.inr ⟨_, its, n, q, congrArg Value.type (of_decide_eq_true h1), rfl, of_decide_eq_true h3, hv⟩) (hd H)⟩
          | _ => cases h
        | _ => cases dt <;> cases h
  | .list _, u, h => by unfold kB at h; cases h
  | .dict _, u, h => by unfold kB at h; cases h
theorem ksB_ok {K : PySem.W.Frag} : ∀ (ds : List D) (us : List Value), ksB K ds us = true → ∃ vs, Vals vs us ∧ ∀ H, DpAll K H vs ds
  | [], us, h => by
    unfold ksB at h
    rw [List.isEmpty_iff.mp h]
    exact ⟨[], .nil, fun H => .nil⟩
  | d :: ds, us, h => by
    cases us with
    | nil => unfold ksB at h; cases h
    | cons u us =>
      obtain ⟨h1, h2⟩ := and2 (show (kB K d u && ksB K ds us) = true by unfold ksB at h; exact h)
      obtain ⟨v, r, hv⟩ := kB_ok d u h1
      obtain ⟨vs, rs, hvs⟩ := ksB_ok ds us h2
      exact ⟨v :: vs, .cons r rs, fun H => .cons (hv H) (hvs H)⟩
end
def conB (K : PySem.W.Frag) (c : Str × D) : Bool := match PySem.W.nsIn K mainGlobals c.1 with
  | some (some u) => kB K c.2 u
  | _ => false
/-! ### the Hook -/
structure Fx where
  fa : List He.Fa
  cons : List (Str × D)
  er : List Str
  fn : List He.DefD
def obsA (x : Fx) (K : PySem.W.Frag) : He.AlD := (((seeB K && erB K x.er) && x.fa.all fun f => f.ok K) && ((x.cons.all fun c => conB K c) && x.fn.all fun d => d.ok K), x.fn.map fun d => He.fnW K d.at_)
/-- the names' objects, and the interpreter's own two tables -/
def asA (g : Addr → Option Obj) : Nat → List Addr
  | 0 => [mainGlobals, cStatics, sysModules]
  | n + 1 => He.growD g (asA g n)
def SaysA (x : Fx) (K : PySem.W.Frag) : Prop := obsA x K = He.valD x.fn
def obsAG (n : Nat) (x : Fx) (g : Addr → Option Obj) : He.AlD := obsA x (He.frG g (asA g n))
def hookA (n : Nat) (x : Fx) : PySem.W.Hook where
  α := He.AlD
  obs := fun s => obsAG n x s.heap.get?
  val := fun _ => He.valD x.fn
  says := fun _ h => ∃ K : PySem.W.Frag, K.In h ∧ SaysA x K
  of := fun _ _ e => ⟨_, He.frG_in, e⟩
  keeps := fun _ _ _ ⟨K, hK, c⟩ k => ⟨K, PySem.W.Frag.In.keeps hK k, c⟩
theorem obsAG_eq {n : Nat} {x : Fx} {g : Addr → Option Obj} {s : Shared} (h : ∀ a, g a = s.heap.get? a) : obsAG n x g = (hookA n x).obs s := by
  have e : g = s.heap.get? := funext h
  rw [e] <;> rfl
section
variable {x : Fx} {K : PySem.W.Frag}
theorem SaysA.all (c : SaysA x K) : (seeB K = true ∧ erB K x.er = true) ∧ (∀ f ∈ x.fa, f.ok K = true) ∧ (∀ q ∈ x.cons, conB K q = true) ∧ ∀ d ∈ x.fn, d.ok K = true := by
  have c1 : (((seeB K && erB K x.er) && x.fa.all fun f => f.ok K) && ((x.cons.all fun c => conB K c) && x.fn.all fun d => d.ok K)) = true := congrArg (fun z : He.AlD => z.1) c
  obtain ⟨h1, h2⟩ := and2 c1
  obtain ⟨h2, h3⟩ := and2 h2
  obtain ⟨h0, h1⟩ := and2 h1
  exact ⟨and2 h0, List.all_eq_true.mp h1, List.all_eq_true.mp h2, List.all_eq_true.mp h3⟩
theorem SaysA.def_ (c : SaysA x K) {i : Nat} {d : He.DefD} (h : x.fn[i]? = some d) : ∃ fd, FunD K d.name d.qual d.params d.body d.scope (d.dvs K) (d.kws K) (He.fAd K d.at_) fd := by
  have e : x.fn.map (fun d => He.fnW K d.at_) = x.fn.map He.DefD.val := congrArg (fun z : He.AlD => z.2) c
  have e2 : (x.fn.map fun d => He.fnW K d.at_)[i]? = (x.fn.map He.DefD.val)[i]? := by rw [e]
  rw [List.getElem?_map, List.getElem?_map, h] at e2
  exact He.DefD.funD (Option.some.inj e2) (c.all.2.2.2 d (List.mem_of_getElem? h))
end

/-! ### the table -/
/-- a law's table: the link's parts and the text's defs -/
structure Tb where
  T : List Fn
  cons : List (Str × D)
  clsN : List Str
  ds : List He.DefD
def Tb.fx (t : Tb) : Fx := ⟨blts.map He.Fa.free ++ ((t.clsN.filter fun (n : Str) => n != "").flatMap fun n => [He.Fa.glo n, He.Fa.exc n]) ++ t.ds.map fun d => He.Fa.glo d.at_.1, t.cons, t.clsN, t.ds⟩
def Tb.cls (t : Tb) (K : PySem.W.Frag) (k : Nat) : Value := match t.clsN[k]? with
  | some n => .ref (He.ga K n)
  | none => .none
def ckAll (T : List Fn) (cs : List (Str × D)) (cl : List Str) : List Fn → List He.DefD → Bool
  | [], [] => true
  | g :: gs, d :: ds => ckFn T cs cl g d && ckAll T cs cl gs ds
  | _, _ => false
def BindAll : List Fn → List He.DefD → Prop
  | g :: gs, d :: ds => BindF g d ∧ BindAll gs ds
  | _, _ => True
theorem ckAll_at {T : List Fn} {cs : List (Str × D)} {cl : List Str} : ∀ {gs : List Fn} {ds : List He.DefD} {j : Nat} {g : Fn}, ckAll T cs cl gs ds = true → BindAll gs ds → gs[j]? = some g → ∃ d, ds[j]? = some d ∧ ckFn T cs cl g d = true ∧ BindF g d
  | [], _, _, _, _, _, h => by simp at h
  | _ :: _, [], _, _, h, _, _ => by cases h
  | g :: gs, d :: ds, 0, _, h, b, e => by
    have e := Option.some.inj e
    subst e
    exact ⟨d, rfl, (and2 (show (ckFn T cs cl g d && ckAll T cs cl gs ds) = true from h)).1, b.1⟩
  | g :: gs, d :: ds, j + 1, _, h, b, e => ckAll_at (j := j) (and2 (show (ckFn T cs cl g d && ckAll T cs cl gs ds) = true from h)).2 b.2 e
def clsB (ns : List Str) : Bool := (List.range ns.length).all fun k => ns[k]? == some "" || ns[k]? == errN[k]?
structure TbSays (t : Tb) : Prop where
  cl : clsB t.clsN = true
  ck : ckAll t.T t.cons t.clsN t.T t.ds = true
  bd : BindAll t.T t.ds
section
variable {t : Tb} {K : PySem.W.Frag} {h : Heap} {mg : Str → Option Value}
theorem tb_ok (y : TbSays t) (X : K.In h) (G : h.Ns mainGlobals mg) (c : SaysA t.fx K) : TbOk t.T t.cons (t.cls K) t.clsN t.ds K mg := by
  obtain ⟨⟨c0, c4⟩, c1, c2, c3⟩ := c.all
  have hglo : ∀ n, He.Fa.glo n ∈ t.fx.fa → mg n = some (.ref (He.ga K n)) := fun n hn => He.glo_ok X G (c1 _ hn)
  refine ⟨fun j g hg => ckAll_at y.ck y.bd hg, fun j d hd => ⟨c.def_ hd, hglo _ ?_⟩, fun x n d hx => ?_, fun n hn => He.free_ok X G (c1 _ ?_), c0, fun k n hk hn => ⟨?_, ?_⟩, c4, fun k n hk hn => ?_⟩
  · exact List.mem_append_right _ (List.mem_map.mpr ⟨d, List.mem_of_getElem? hd, rfl⟩)
  · have z : (match PySem.W.nsIn K mainGlobals n with
      | some (some u) => kB K d u
      | _ => false) = true := c2 _ (List.mem_of_getElem? hx)
    cases e : PySem.W.nsIn K mainGlobals n with
    | none => rw [e] at z; cases z
    | some o =>
      rw [e] at z
      cases o with
      | none => cases z
      | some u =>
        obtain ⟨v, r, hv⟩ := kB_ok d u z
        exact ⟨v, u, PySem.W.mg_of X G e, r, hv⟩
  · exact List.mem_append_left _ (List.mem_append_left _ (List.mem_map.mpr ⟨n, hn, rfl⟩))
  · unfold Tb.cls
    rw [hk]
  · have z := List.all_eq_true.mp (show (List.range t.clsN.length).all _ = true from y.cl) k (List.mem_range.mpr (List.getElem?_eq_some_iff.mp hk).1)
    rw [hk] at z
    rcases Bool.or_eq_true_iff.mp z with z | z
    · exact absurd (Option.some.inj (eq_of_beq z)) hn
    · exact (eq_of_beq z).symm
  · have hm : n ∈ t.clsN.filter fun (n : Str) => n != "" := List.mem_filter.mpr ⟨List.mem_of_getElem? hk, bne_iff_ne.mpr hn⟩
    have m1 : He.Fa.glo n ∈ t.fx.fa := List.mem_append_left _ (List.mem_append_right _ (List.mem_flatMap.mpr ⟨n, hm, List.mem_cons_self⟩))
    have m2 : He.Fa.exc n ∈ t.fx.fa := List.mem_append_left _ (List.mem_append_right _ (List.mem_flatMap.mpr ⟨n, hm, List.mem_cons_of_mem _ List.mem_cons_self⟩))
    obtain ⟨e1, e2, e3, e4⟩ := He.exc_ok (c1 _ m2)
    refine ⟨He.ga K n, ?_, hglo n m1, e1, e2, e3, e4⟩
    unfold Tb.cls
    rw [hk]
/-- a law: the last def of the table; what it reckons on every list of ints -/
theorem law_ok {P : Program} {w : World} {fa : Addr} {j : Nat} {g : Fn} {d : He.DefD} {x : Str} (ht : P.given.tree = none) (y : TbSays t) (hj : t.T[j]? = some g) (hd : t.ds[j]? = some d) (hps : g.ps = [x]) (h0 : g.dfl = []) (X : K.In h) (G : h.Ns mainGlobals mg) (c : SaysA t.fx K) (hmg : mg g.name = some (.ref fa))
    {lim : Nat} (run : ∀ ns : List Int, ns.length ≤ lim → callN (fun x => ((t.cons[x]?).map (·.2)).getD .none) t.T (j + 1) j [.va (.list (ns.map .int))] = .ok (.bool true, false)) :
    ∃ (fd : FuncData) (sp : Sp), (∀ (s : Shared) (u : Value), BindsTo s fd ⟨[u], []⟩ [(x, u)]) ∧
        (∀ (H : Hp) (a : Addr) (ns : List Int), ns.length ≤ lim → Only H → SqL K H a (ns.map V.int) → sp [.ref a] H (fun v _ => v = .bl true) fun _ _ _ => False) ∧
        ∀ base : Heap, K.In base → base.Ns mainGlobals mg → FnOk P w K mg base (L2.CX P w) (j + 32 + 1) fa fd [x] sp := by
  have tb := tb_ok y X G c
  obtain ⟨d', hd', hc, hb⟩ := tb.fn j g hj
  rw [hd] at hd'
  cases hd'
  obtain ⟨⟨fd, F⟩, hm⟩ := tb.df j d hd
  have hcc := hc
  unfold ckFn at hc
  obtain ⟨hc, _⟩ := and2 hc
  obtain ⟨hc, k5⟩ := and2 hc
  obtain ⟨hc, k4⟩ := and2 hc
  obtain ⟨hc, _⟩ := and2 hc
  obtain ⟨_, k2⟩ := and2 hc
  have k2 := eq_of_beq k2
  rw [k2] at hm
  have ea : He.fAd K d.at_ = He.ga K g.name := by rw [k2]; rfl
  rw [ea] at F
  rw [hmg] at hm
  cases hm
  have e1 : d.dvs K = [] := by
    have hl := dvsB_len k4
    unfold He.DefD.dvs
    rw [h0] at hl
    rw [List.eq_nil_of_length_eq_zero hl]
    rfl
  have e2 : d.kws K = [] := by unfold He.DefD.kws; rw [List.isEmpty_iff.mp k5]; rfl
  have F0 := F
  rw [e1, e2] at F0
  refine ⟨fd, (lkN t.T t.cons (t.cls K) t.clsN (j + 1)).sp K j, fun s u => ?_, fun H a ns hn ho hS => ?_, fun base kb gb => ?_⟩
  · have z := FunD.bindsA (ps := g.ps) F0 (hb.no h0) s [u] (by rw [hps]; rfl)
    rw [hps] at z
    exact z
  · refine ⟨H, [.va (.list (ns.map .int))], Same.refl H, .cons (.va (.lst hS (DpAll.ints ns))) .nil, ?_⟩
    change (match callN (fun x => ((t.cons[x]?).map (·.2)).getD .none) t.T (j + 1) j [.va (.list (ns.map .int))] with
      | .ok p => Ac K H H (fun v _ => v = .bl true) p
      | .ex k => ∀ f' H', Po H H f' H' → False
      | .no => False)
    rw [run ns hn]
    intro v f' H' q hv
    cases (show Dp K f' v (.bool true) from hv)
    rfl
  · have z := fn_step (P := P) (w := w) (base := base) hj hcc F (lk_all ht (tb_ok y kb gb c) j)
    rw [hps] at z
    exact z
end
/-! ### what is let out, over every world -/
def cxA (P : Program) : CXT := fun outer H s E u s' => ∃ w : World, L2.CX P w outer H s E u s'
theorem cxA_none {P : Program} {H : Hp} {s : Shared} {e : Value} {s' : Shared} (h : cxA P [] H s (fun _ _ _ => False) e s') : False := by
  obtain ⟨w, a, B, H', cls, d, _, _, _, _, _, _, _, z⟩ := h
  exact z
theorem fn_cxA {P : Program} {w : World} {K : PySem.W.Frag} {mg : Str → Option Value} {base : Heap} {k : Nat} {f : Addr} {fd : FuncData} {ps : List Str} {sp : Sp} (F : FnOk P w K mg base (L2.CX P w) k f fd ps sp) : FnOk P w K mg base (cxA P) k f fd ps sp :=
  ⟨F.len, fun A outer s H args us vs Q E hr he hb hv hs => codeAny_mono (F.run A outer s H args us vs Q E hr he hb hv hs) fun r s' q => by
    cases r with
    | error e => exact ⟨w, q⟩
    | ok fl => cases fl <;> exact q⟩
end AW

/-! AwEv: how the small language is reckoned by rewriting. -/
namespace AW
open PySem PySem.Spec PyProof.Rows

section
variable {G : Nat → D} {c : Nat → List Sl → R (D × Bool)} {dfl : Nat → Nat → List D} {en : En}
@[simp] theorem ev_var (i : Nat) : evF G c dfl (.var i) en = (val en i).bind v1 := rfl
@[simp] theorem ev_emp : evF G c dfl .emp en = v1 (.dict []) := rfl
@[simp] theorem ev_con (d : D) : evF G c dfl (.con d) en = v1 d := rfl
@[simp] theorem ev_glb (x : Nat) : evF G c dfl (.glb x) en = v1 (G x) := rfl
@[simp] theorem ev_tup (es : Es) : evF G c dfl (.tup es) en = (evs G c dfl es en).bind fun ds => if ds.length ≤ line then v1 (.tuple ds) else .no := rfl
@[simp] theorem ev_lst (es : Es) : evF G c dfl (.lst es) en = (evs G c dfl es en).bind fun ds => if ds.length ≤ line then .ok (.list ds, true) else .no := rfl
@[simp] theorem ev_rep (es : Es) (n : E) : evF G c dfl (.rep es n) en = (evs G c dfl es en).bind fun ds => if ds.length ≤ line then (evF G c dfl n en).bind fun x => (intR x.1).bind fun k => if -1000000 ≤ k ∧ k ≤ 1000000 ∧ ds.length * k.toNat ≤ line then .ok (.list (List.replicate k.toNat ds).flatten, true) else .no else .no := rfl
@[simp] theorem ev_op1 (o : O1) (a : E) : evF G c dfl (.op1 o a) en = (rd1 a en (evF G c dfl a en)).bind (sem1 o) := rfl
@[simp] theorem ev_op2 (o : O2) (a b : E) : evF G c dfl (.op2 o a b) en = (rd1 a en (evF G c dfl a en)).bind fun x => (rd1 b en (evF G c dfl b en)).bind fun y => sem2 o x y := rfl
@[simp] theorem ev_chn (o p : O2) (a b z : E) : evF G c dfl (.chn o p a b z) en = (rd1 a en (evF G c dfl a en)).bind fun x => (rd1 b en (evF G c dfl b en)).bind fun y => (sem2 o x y).bind fun r => (match r.1 with
    | .bool true => (rd1 z en (evF G c dfl z en)).bind fun w => sem2 p y w
    | .bool false => v1 (.bool false)
    | _ => .no) := rfl
@[simp] theorem ev_and (a b : E) : evF G c dfl (.and a b) en = (evF G c dfl a en).bind fun x => (truR x.1).bind fun t => if t then evF G c dfl b en else v1 x.1 := rfl
@[simp] theorem ev_or (a b : E) : evF G c dfl (.or a b) en = (evF G c dfl a en).bind fun x => (truR x.1).bind fun t => if t then .ok x else evF G c dfl b en := rfl
@[simp] theorem ev_not (a : E) : evF G c dfl (.not a) en = (rd1 a en (evF G c dfl a en)).bind fun x => (truR x).bind fun t => v1 (.bool (!t)) := rfl
@[simp] theorem ev_ife (t a b : E) : evF G c dfl (.ife t a b) en = (rd1 t en (evF G c dfl t en)).bind fun x => (truR x).bind fun t => if t then evF G c dfl a en else evF G c dfl b en := rfl
@[simp] theorem ev_slc (a : E) (lo hi : Eo) : evF G c dfl (.slc a lo hi) en = (rd1 a en (evF G c dfl a en)).bind fun x => (evO G c dfl lo en).bind fun l => (evO G c dfl hi en).bind fun h => semSl x l h := rfl
@[simp] theorem ev_revs (a : E) : evF G c dfl (.revs a) en = (rd1 a en (evF G c dfl a en)).bind semRev := rfl
@[simp] theorem ev_repE (a n : E) : evF G c dfl (.repE a n) en = (evF G c dfl a en).bind fun x => (evF G c dfl n en).bind fun y => (intR y.1).bind fun k => semRep x k := rfl
@[simp] theorem ev_call (j : Nat) (es : Es) (m : Nat) : evF G c dfl (.call j es m) en = (evAs G c dfl es en).bind fun ss => c j (ss ++ (dfl j m).map .va) := rfl
theorem ev_dget (i : Nat) (k x : E) : evF G c dfl (.dget i k x) en = (match en[i]? with
  | some (.dk kvs) => (evF G c dfl k en).bind fun kd => (evF G c dfl x en).bind fun xd => if keyOk kd.1 = true then (match dlook kvs kd.1 with
    | some d => v1 d
    | none => v1 xd.1) else .no
  | _ => .no) := rfl
@[simp] theorem ev_callv (j : Nat) (es : Es) (m : Nat) : evF G c dfl (.callv j es m) en = (evAs G c dfl es en).bind fun ss => (c j (asV ss ++ (dfl j m).map .va)).bind fun p => if p.2 = false ∧ noL p.1 = true then .ok p else .no := rfl
@[simp] theorem ev_mth (o : M1) (a b : E) : evF G c dfl (.mth o a b) en = (rd1 a en (evF G c dfl a en)).bind fun x => (listR x).bind fun xs => (rd1 b en (evF G c dfl b en)).bind fun y => semM o xs y := rfl
@[simp] theorem ev_isE (i : Nat) (ks : List Nat) (ts : List Te) : evF G c dfl (.isE i ks ts) en = (match en[i]? with
    | some (.va .none) => v1 (.bool false)
    | some (.er c) => if ks.contains c then v1 (.bool (ts.any (erTy c))) else .no
    | _ => .no) := rfl
@[simp] theorem ev_isN (i : Nat) (g : Bool) : evF G c dfl (.isN i g) en = (match en[i]? with
    | some (.va d) => (isD d .none).bind fun b => v1 (.bool (b != g))
    | some (.er _) => v1 (.bool g)
    | _ => .no) := rfl
@[simp] theorem ev_isi (a : E) (ts : List Ty) : evF G c dfl (.isi a ts) en = (rd1 a en (evF G c dfl a en)).bind fun x => v1 (.bool (ts.any fun t => isTy x t)) := rfl
theorem ev_cmp (elt : E) (tg : Tg) (it : It) (ifs : Eo) (own : List (Str × Nat)) : evF G c dfl (.cmp elt tg it ifs own) en = (evI G c dfl it en).bind fun ds => (compL (fun d => (bindT tg d (wipe en (own.map (·.2)))).bind fun en' => (evB G c dfl ifs en').nox.bind fun b =>
      if b then (evF G c dfl elt en').nox.bind fun y => .ok (some y.1) else .ok none) ds).bind fun ys => if ds.length ≤ line then .ok (.list ys, true) else .no := rfl
@[simp] theorem evs_nl : evs G c dfl .nil en = .ok [] := rfl
@[simp] theorem evs_cs (e : E) (r : Es) : evs G c dfl (.cons e r) en = (evF G c dfl e en).bind fun x => (evs G c dfl r en).bind fun xs => .ok (x.1 :: xs) := rfl
@[simp] theorem evAs_nl : evAs G c dfl .nil en = .ok [] := rfl
@[simp] theorem evAs_cs (e : E) (r : Es) : evAs G c dfl (.cons e r) en = (arg1 e en (evF G c dfl e en)).bind fun x => (evAs G c dfl r en).bind fun xs => .ok (x :: xs) := rfl
@[simp] theorem evO_none : evO G c dfl .none en = .ok none := rfl
@[simp] theorem evO_some (e : E) : evO G c dfl (.some e) en = (evF G c dfl e en).bind fun x => (intR x.1).bind fun i => .ok (some i) := rfl
@[simp] theorem evB_none : evB G c dfl .none en = .ok true := rfl
@[simp] theorem evB_some (e : E) : evB G c dfl (.some e) en = (rd1 e en (evF G c dfl e en)).bind fun x => truR x := rfl
@[simp] theorem evI_seq (a : E) : evI G c dfl (.seq a) en = (evF G c dfl a en).bind fun x => seqR x.1 := rfl
@[simp] theorem evI_rng1 (a : E) : evI G c dfl (.rng1 a) en = (evF G c dfl a en).bind fun x => (intR x.1).bind fun j => rngR 0 j := rfl
@[simp] theorem evI_rng2 (a b : E) : evI G c dfl (.rng2 a b) en = (evF G c dfl a en).bind fun x => (evF G c dfl b en).bind fun y => (intR x.1).bind fun i => (intR y.1).bind fun j => rngR i j := rfl
@[simp] theorem evI_rng3 (a b z : E) : evI G c dfl (.rng3 a b z) en = (evF G c dfl a en).bind fun x => (evF G c dfl b en).bind fun y => (evF G c dfl z en).bind fun w => (intR x.1).bind fun i => (intR y.1).bind fun j => (intR w.1).bind fun k => rngR3 i j k := rfl
@[simp] theorem evI_rev (a : E) : evI G c dfl (.rev a) en = (evF G c dfl a en).bind fun x => (seqR x.1).bind fun xs => .ok xs.reverse := rfl
@[simp] theorem evI_revr (a : E) : evI G c dfl (.revr a) en = (evF G c dfl a en).bind fun x => (intR x.1).bind fun j => (rngR 0 j).bind fun xs => .ok xs.reverse := rfl
@[simp] theorem evI_enum (a : E) : evI G c dfl (.enum a) en = (evF G c dfl a en).bind fun x => (seqR x.1).bind fun xs => .ok (enumD xs) := rfl
@[simp] theorem evI_zip (a b : E) : evI G c dfl (.zip a b) en = (evF G c dfl a en).bind fun x => (evF G c dfl b en).bind fun y => zipR x.1 y.1 := rfl
@[simp] theorem evT_eq (x : E) : evT G c dfl x en = (rd1 x en (evF G c dfl x en)).bind truR := rfl
/-! reading -/
variable {r : R (D × Bool)}
@[simp] theorem rd1_var (i : Nat) : rd1 (.var i) en r = r.bind fun p => .ok p.1 := rfl
@[simp] theorem rd1_emp : rd1 .emp en r = r.bind fun p => .ok p.1 := rfl
@[simp] theorem rd1_con (d : D) : rd1 (.con d) en r = r.bind fun p => .ok p.1 := rfl
@[simp] theorem rd1_glb (d : Nat) : rd1 (.glb d) en r = r.bind fun p => .ok p.1 := rfl
@[simp] theorem rd1_tup (d : Es) : rd1 (.tup d) en r = r.bind fun p => .ok p.1 := rfl
@[simp] theorem rd1_lst (d : Es) : rd1 (.lst d) en r = r.bind fun p => .ok p.1 := rfl
@[simp] theorem rd1_rep (d : Es) (n : E) : rd1 (.rep d n) en r = r.bind fun p => .ok p.1 := rfl
@[simp] theorem rd1_op1 (o : O1) (a : E) : rd1 (.op1 o a) en r = r.bind fun p => .ok p.1 := rfl
@[simp] theorem rd1_op2 (o : O2) (a b : E) : rd1 (.op2 o a b) en r = r.bind fun p => .ok p.1 := rfl
@[simp] theorem rd1_chn (o p : O2) (a b z : E) : rd1 (.chn o p a b z) en r = r.bind fun p => .ok p.1 := rfl
@[simp] theorem rd1_and (a b : E) : rd1 (.and a b) en r = r.bind fun p => .ok p.1 := rfl
@[simp] theorem rd1_or (a b : E) : rd1 (.or a b) en r = r.bind fun p => .ok p.1 := rfl
@[simp] theorem rd1_not (a : E) : rd1 (.not a) en r = r.bind fun p => .ok p.1 := rfl
@[simp] theorem rd1_ife (t a b : E) : rd1 (.ife t a b) en r = r.bind fun p => .ok p.1 := rfl
@[simp] theorem rd1_slc (a : E) (lo hi : Eo) : rd1 (.slc a lo hi) en r = r.bind fun p => .ok p.1 := rfl
@[simp] theorem rd1_revs (a : E) : rd1 (.revs a) en r = r.bind fun p => .ok p.1 := rfl
@[simp] theorem rd1_repE (a n : E) : rd1 (.repE a n) en r = r.bind fun p => .ok p.1 := rfl
@[simp] theorem rd1_call (j : Nat) (es : Es) (m : Nat) : rd1 (.call j es m) en r = r.bind fun p => .ok p.1 := rfl
@[simp] theorem rd1_callv (j : Nat) (es : Es) (m : Nat) : rd1 (.callv j es m) en r = r.bind fun p => .ok p.1 := rfl
@[simp] theorem rd1_dvals (i : Nat) : rd1 (.dvals i) en r = r.bind fun p => .ok p.1 := rfl
@[simp] theorem rd1_dget (i : Nat) (k x : E) : rd1 (.dget i k x) en r = r.bind fun p => .ok p.1 := rfl
@[simp] theorem rd1_callL (i : Nat) (cs : List (Str × Nat)) (es : Es) : rd1 (.callL i cs es) en r = r.bind fun p => .ok p.1 := rfl
@[simp] theorem rd1_mth (o : M1) (a b : E) : rd1 (.mth o a b) en r = r.bind fun p => .ok p.1 := rfl
@[simp] theorem rd1_isE (i : Nat) (ks : List Nat) (ts : List Te) : rd1 (.isE i ks ts) en r = r.bind fun p => .ok p.1 := rfl
@[simp] theorem rd1_isN (i : Nat) (g : Bool) : rd1 (.isN i g) en r = r.bind fun p => .ok p.1 := rfl
@[simp] theorem rd1_isi (a : E) (ts : List Ty) : rd1 (.isi a ts) en r = r.bind fun p => .ok p.1 := rfl
@[simp] theorem rd1_cmp (elt : E) (tg : Tg) (it : It) (ifs : Eo) (own : List (Str × Nat)) : rd1 (.cmp elt tg it ifs own) en r = r.bind fun p => .ok p.1 := rfl
@[simp] theorem rd1_peek (i : Nat) : rd1 (.peek i) en r = (match en[i]? with
    | some (.ow ds) => .ok (.list ds)
    | some (.rd ds) => .ok (.list ds)
    | _ => .no) := rfl
@[simp] theorem arg1_var (i : Nat) : arg1 (.var i) en r = r.bind fun p => .ok (.va p.1) := rfl
@[simp] theorem arg1_emp : arg1 .emp en r = r.bind fun p => .ok (.va p.1) := rfl
@[simp] theorem arg1_con (d : D) : arg1 (.con d) en r = r.bind fun p => .ok (.va p.1) := rfl
@[simp] theorem arg1_glb (d : Nat) : arg1 (.glb d) en r = r.bind fun p => .ok (.va p.1) := rfl
@[simp] theorem arg1_tup (d : Es) : arg1 (.tup d) en r = r.bind fun p => .ok (.va p.1) := rfl
@[simp] theorem arg1_lst (d : Es) : arg1 (.lst d) en r = r.bind fun p => .ok (.va p.1) := rfl
@[simp] theorem arg1_rep (d : Es) (n : E) : arg1 (.rep d n) en r = r.bind fun p => .ok (.va p.1) := rfl
@[simp] theorem arg1_op1 (o : O1) (a : E) : arg1 (.op1 o a) en r = r.bind fun p => .ok (.va p.1) := rfl
@[simp] theorem arg1_op2 (o : O2) (a b : E) : arg1 (.op2 o a b) en r = r.bind fun p => .ok (.va p.1) := rfl
@[simp] theorem arg1_chn (o p : O2) (a b z : E) : arg1 (.chn o p a b z) en r = r.bind fun p => .ok (.va p.1) := rfl
@[simp] theorem arg1_and (a b : E) : arg1 (.and a b) en r = r.bind fun p => .ok (.va p.1) := rfl
@[simp] theorem arg1_or (a b : E) : arg1 (.or a b) en r = r.bind fun p => .ok (.va p.1) := rfl
@[simp] theorem arg1_not (a : E) : arg1 (.not a) en r = r.bind fun p => .ok (.va p.1) := rfl
@[simp] theorem arg1_ife (t a b : E) : arg1 (.ife t a b) en r = r.bind fun p => .ok (.va p.1) := rfl
@[simp] theorem arg1_slc (a : E) (lo hi : Eo) : arg1 (.slc a lo hi) en r = r.bind fun p => .ok (.va p.1) := rfl
@[simp] theorem arg1_revs (a : E) : arg1 (.revs a) en r = r.bind fun p => .ok (.va p.1) := rfl
@[simp] theorem arg1_repE (a n : E) : arg1 (.repE a n) en r = r.bind fun p => .ok (.va p.1) := rfl
@[simp] theorem arg1_call (j : Nat) (es : Es) (m : Nat) : arg1 (.call j es m) en r = r.bind fun p => .ok (.va p.1) := rfl
@[simp] theorem arg1_callv (j : Nat) (es : Es) (m : Nat) : arg1 (.callv j es m) en r = r.bind fun p => .ok (.va p.1) := rfl
@[simp] theorem arg1_fnv (n : Str) : arg1 (.fnv n) en r = .ok (.fn n) := rfl
@[simp] theorem arg1_callL (i : Nat) (cs : List (Str × Nat)) (es : Es) : arg1 (.callL i cs es) en r = r.bind fun p => .ok (.va p.1) := rfl
@[simp] theorem arg1_dvals (i : Nat) : arg1 (.dvals i) en r = r.bind fun p => .ok (.va p.1) := rfl
@[simp] theorem arg1_dget (i : Nat) (k x : E) : arg1 (.dget i k x) en r = r.bind fun p => .ok (.va p.1) := rfl
@[simp] theorem arg1_mth (o : M1) (a b : E) : arg1 (.mth o a b) en r = r.bind fun p => .ok (.va p.1) := rfl
@[simp] theorem arg1_isE (i : Nat) (ks : List Nat) (ts : List Te) : arg1 (.isE i ks ts) en r = r.bind fun p => .ok (.va p.1) := rfl
@[simp] theorem arg1_isN (i : Nat) (g : Bool) : arg1 (.isN i g) en r = r.bind fun p => .ok (.va p.1) := rfl
@[simp] theorem arg1_erv (i : Nat) : arg1 (.erv i) en r = (match en[i]? with
    | some (.er c) => .ok (.er c)
    | some (.va .none) => .ok (.va .none)
    | _ => .no) := rfl
@[simp] theorem arg1_isi (a : E) (ts : List Ty) : arg1 (.isi a ts) en r = r.bind fun p => .ok (.va p.1) := rfl
@[simp] theorem arg1_cmp (elt : E) (tg : Tg) (it : It) (ifs : Eo) (own : List (Str × Nat)) : arg1 (.cmp elt tg it ifs own) en r = r.bind fun p => .ok (.va p.1) := rfl
@[simp] theorem arg1_peek (i : Nat) : arg1 (.peek i) en r = (match en[i]? with
    | some (.ow ds) => .ok (.rd ds)
    | some (.rd ds) => .ok (.rd ds)
    | _ => .no) := rfl
/-! statements -/
@[simp] theorem ess_nil : evSs G c dfl .nil en = .ok (.nx en) := rfl
@[simp] theorem ess_cons (s : S) (r : Ss) : evSs G c dfl (.cons s r) en = (evS G c dfl s en).bind fun fl => (match fl with
    | .nx e => evSs G c dfl r e
    | fl => .ok fl) := rfl
@[simp] theorem es_pass : evS G c dfl .pass en = .ok (.nx en) := rfl
@[simp] theorem es_asg (tg : Tg) (e : E) : evS G c dfl (.asg tg e) en = lf en (evF G c dfl e en) fun x => (bindT tg x.1 en).bind fun en' => .ok (.nx en') := rfl
@[simp] theorem es_dnew (i : Nat) : evS G c dfl (.dnew i) en = .ok (.nx (en.set i (.dk []))) := rfl
@[simp] theorem es_asgO (i : Nat) (e : E) : evS G c dfl (.asgO i e) en = lf en (evF G c dfl e en) fun x => (match x with
    | (.list ds, true) => .ok (.nx (en.set i (.ow ds)))
    | _ => .no) := rfl
@[simp] theorem es_asgC (i : Nat) (o : Bool) (e : E) : evS G c dfl (.asgC i o e) en = lf en (evF G c dfl e en) fun x => (match x with
    | (.list ds, true) => .ok (.nx (en.set i (if o then .ow ds else .va (.list ds))))
    | _ => .no) := rfl
@[simp] theorem es_par (is : List Nat) (es : Es) : evS G c dfl (.par is es) en = lf en (evs G c dfl es en) fun ds => if ds.length = is.length then .ok (.nx ((is.zip ds).foldl (fun e p => e.set p.1 (.va p.2)) en)) else .no := rfl
@[simp] theorem es_setI (i : Nat) (k e : E) : evS G c dfl (.setI i k e) en = lf en (evF G c dfl e en) fun x => (match en[i]? with
    | some (.ow ds) => lf en (evF G c dfl k en) fun kv => (intR kv.1).bind fun j => (setD ds j x.1).bind fun ds' => .ok (.nx (en.set i (.ow ds')))
    | some (.dk kvs) => lf en (evF G c dfl k en) fun kv => if keyOk kv.1 = true ∧ kvs.length < line then .ok (.nx (en.set i (.dk (dput kvs kv.1 x.1)))) else .no
    | _ => .no) := rfl
@[simp] theorem es_aug (i : Nat) (o : O2) (e : E) : evS G c dfl (.aug i o e) en = (match en[i]? with
    | some (.va (.int d)) => lf en (evF G c dfl e en) fun x => (sem2 o (.int d) x.1).bind fun z => .ok (.nx (en.set i (.va z.1)))
    | some (.va (.str d)) => lf en (evF G c dfl e en) fun x => (sem2 o (.str d) x.1).bind fun z => .ok (.nx (en.set i (.va z.1)))
    | some (.ow ds) => lf en (evF G c dfl e en) fun x => (extL o ds x).bind fun ds' => .ok (.nx (en.set i (.ow ds')))
    | _ => .no) := rfl
@[simp] theorem es_app (i : Nat) (e : E) : evS G c dfl (.app i e) en = (match en[i]? with
    | some (.ow ds) => lf en (evF G c dfl e en) fun x => if ds.length < line then .ok (.nx (en.set i (.ow (ds ++ [x.1])))) else .no
    | _ => .no) := rfl
@[simp] theorem es_extT (i : Nat) (e : E) : evS G c dfl (.extT i e) en = (match en[i]? with
    | some (.ow ds) => lf en (evF G c dfl e en) fun x => (match x.1 with
      | .tuple xs => if ds.length + xs.length < line then .ok (.nx (en.set i (.ow (ds ++ xs)))) else .no
      | _ => .no)
    | _ => .no) := rfl
@[simp] theorem es_pop (i : Nat) : evS G c dfl (.pop i) en = (match en[i]? with
    | some (.ow ds) => if ds = [] then .no else .ok (.nx (en.set i (.ow ds.dropLast)))
    | _ => .no) := rfl
@[simp] theorem es_popA (tg : Tg) (i : Nat) : evS G c dfl (.popA tg i) en = (match en[i]? with
    | some (.ow ds) => (match ds.getLast? with
      | some d => (bindT tg d (en.set i (.ow ds.dropLast))).bind fun en' => .ok (.nx en')
      | none => .no)
    | _ => .no) := rfl
@[simp] theorem es_rvs (i : Nat) : evS G c dfl (.rvs i) en = (match en[i]? with
    | some (.ow ds) => .ok (.nx (en.set i (.ow ds.reverse)))
    | _ => .no) := rfl
@[simp] theorem es_frz (i : Nat) : evS G c dfl (.frz i) en = (match en[i]? with
    | some (.ow ds) => .ok (.nx (en.set i (.va (.list ds))))
    | _ => .no) := rfl
@[simp] theorem es_ite (t : E) (a b : Ss) : evS G c dfl (.ite t a b) en = lf en (evT G c dfl t en) fun k => if k then evSs G c dfl a en else evSs G c dfl b en := rfl
theorem es_whl (t : E) (b : Ss) : evS G c dfl (.whl t b) en = whileR (evT G c dfl t) (evSs G c dfl b) en := rfl
theorem es_for (tg : Tg) (it : It) (b : Ss) : evS G c dfl (.for_ tg it b) en = lf en (evI G c dfl it en) fun ds => forR (bindT tg) (evSs G c dfl b) ds en := rfl
@[simp] theorem es_ret (e : E) : evS G c dfl (.ret e) en = lf en (evF G c dfl e en) fun x => .ok (.rt x.1 x.2) := rfl
@[simp] theorem es_retO (i : Nat) : evS G c dfl (.retO i) en = (match en[i]? with
    | some (.ow ds) => .ok (.rt (.list ds) true)
    | _ => .no) := rfl
@[simp] theorem es_retN : evS G c dfl .retN en = .ok (.rt .none false) := rfl
@[simp] theorem es_brk : evS G c dfl .brk en = .ok (.bk en) := rfl
@[simp] theorem es_cnt : evS G c dfl .cnt en = .ok (.ct en) := rfl
@[simp] theorem es_rai (k : Nat) : evS G c dfl (.rai k) en = .ok (.ex k en) := rfl
@[simp] theorem es_try (h i : Nat) (ks : List Nat) (b : Ss) : evS G c dfl (.tryA h i ks b) en = (evSs G c dfl b en).bind fun fl => (match fl with
    | .ex c e => if ks.contains c then .ok (.nx ((e.set h .un).set i (.er c))) else .no
    | fl => .ok fl) := rfl
@[simp] theorem es_exp (e : E) : evS G c dfl (.exp e) en = lf en (evF G c dfl e en) fun _ => .ok (.nx en) := rfl
end
@[simp] theorem bindT_nm (i : Nat) (d : D) (en : En) : bindT (.nm i) d en = .ok (en.set i (.va d)) := rfl
@[simp] theorem bindT_tpt (ts : Tgs) (ds : List D) (en : En) : bindT (.tp ts) (.tuple ds) en = bindTs ts ds en := rfl
@[simp] theorem bindT_tpl (ts : Tgs) (ds : List D) (en : En) : bindT (.tp ts) (.list ds) en = bindTs ts ds en := rfl
@[simp] theorem bindTs_nil (en : En) : bindTs .nil [] en = .ok en := rfl
@[simp] theorem bindTs_cons (t : Tg) (r : Tgs) (d : D) (ds : List D) (en : En) : bindTs (.cons t r) (d :: ds) en = (bindT t d en).bind fun en' => bindTs r ds en' := rfl
@[simp] theorem v1_bind {α : Type} (d : D) (f : D × Bool → R α) : (v1 d).bind f = f (d, false) := rfl
@[simp] theorem lf_v1 (en : En) (d : D) (f : D × Bool → R Fl) : lf en (v1 d) f = f (d, false) := rfl
@[simp] theorem v1_nox (d : D) : (v1 d).nox = v1 d := rfl
@[simp] theorem intR_int (i : Int) : intR (.int i) = .ok i := rfl
@[simp] theorem seqR_list (xs : List D) : seqR (.list xs) = .ok xs := rfl
@[simp] theorem seqR_tuple (xs : List D) : seqR (.tuple xs) = .ok xs := rfl
@[simp] theorem truR_bool (b : Bool) : truR (.bool b) = .ok b := rfl
@[simp] theorem truR_int (i : Int) : truR (.int i) = .ok (i != 0) := rfl
@[simp] theorem truR_none : truR .none = .ok false := rfl
@[simp] theorem truR_list (xs : List D) : truR (.list xs) = .ok (!xs.isEmpty) := rfl
@[simp] theorem truR_tuple (xs : List D) : truR (.tuple xs) = .ok (!xs.isEmpty) := rfl
@[simp] theorem s1_neg (i : Int) : sem1 .neg (.int i) = v1 (.int (-i)) := rfl
theorem s1_abs0 (i : Int) : sem1 .abs (.int i) = v1 (.int (if i < 0 then -i else i)) := rfl
@[simp] theorem s1_abs (i : Int) : sem1 .abs (.int i) = v1 (.int (i.natAbs : Int)) := by
  rw [s1_abs0]
  by_cases h : i < 0
  · rw [if_pos h, show -i = (i.natAbs : Int) by omega]
  · rw [if_neg h, show (i.natAbs : Int) = i by omega]
@[simp] theorem s1_lenl (xs : List D) : sem1 .len (.list xs) = v1 (.int xs.length) := rfl
@[simp] theorem s1_lent (xs : List D) : sem1 .len (.tuple xs) = v1 (.int xs.length) := rfl
@[simp] theorem s1_listl (xs : List D) : sem1 .list (.list xs) = .ok (.list xs, true) := rfl
@[simp] theorem s1_listt (xs : List D) : sem1 .list (.tuple xs) = .ok (.list xs, true) := rfl
@[simp] theorem s1_tuplel (xs : List D) : sem1 .tuple (.list xs) = v1 (.tuple xs) := rfl
@[simp] theorem s1_tuplet (xs : List D) : sem1 .tuple (.tuple xs) = v1 (.tuple xs) := rfl
@[simp] theorem s1_intB (b : Bool) : sem1 .intB (.bool b) = v1 (.int (if b then 1 else 0)) := rfl
@[simp] theorem s1_intI (i : Int) : sem1 .intB (.int i) = v1 (.int i) := rfl
@[simp] theorem asV_nil : asV [] = [] := rfl
@[simp] theorem asV_rd (ds : List D) (ss : List Sl) : asV (.rd ds :: ss) = .va (.list ds) :: asV ss := rfl
@[simp] theorem asV_va (d : D) (ss : List Sl) : asV (.va d :: ss) = .va d :: asV ss := rfl
@[simp] theorem noL_b (b : Bool) : noL (.bool b) = true := rfl
@[simp] theorem noL_i (i : Int) : noL (.int i) = true := rfl
@[simp] theorem noL_n : noL .none = true := rfl
@[simp] theorem noL_s (x : Str) : noL (.str x) = true := rfl
@[simp] theorem noL_t (xs : List D) : noL (.tuple xs) = noLs xs := rfl
@[simp] theorem noLs_n : noLs [] = true := rfl
@[simp] theorem noLs_c (d : D) (ds : List D) : noLs (d :: ds) = (noL d && noLs ds) := rfl
@[simp] theorem semRev_l (xs : List D) : semRev (.list xs) = .ok (.list xs.reverse, true) := rfl
@[simp] theorem semRev_t (xs : List D) : semRev (.tuple xs) = v1 (.tuple xs.reverse) := rfl
@[simp] theorem semRep_l (ds : List D) (k : Int) : semRep (.list ds, true) k = if -1000000 ≤ k ∧ k ≤ 1000000 ∧ ds.length * k.toNat ≤ line then .ok (.list (List.replicate k.toNat ds).flatten, true) else .no := rfl
@[simp] theorem s2_mult (xs : List D) (n : Int) : sem2 .mul (.tuple xs) (.int n) = if -1000000 ≤ n ∧ n ≤ 1000000 ∧ xs.length * n.toNat ≤ line then v1 (.tuple (List.replicate n.toNat xs).flatten) else .no := rfl
@[simp] theorem s1_all (xs : List D) : sem1 .all (.list xs) = (allB xs).bind fun b => v1 (.bool b) := rfl
@[simp] theorem s2_addi (i j : Int) : sem2 .add (.int i) (.int j) = v1 (.int (i + j)) := rfl
@[simp] theorem s2_addl (xs ys : List D) : sem2 .add (.list xs) (.list ys) = if xs.length + ys.length ≤ line then .ok (.list (xs ++ ys), true) else .no := rfl
@[simp] theorem s2_addt (xs ys : List D) : sem2 .add (.tuple xs) (.tuple ys) = if xs.length + ys.length ≤ line then v1 (.tuple (xs ++ ys)) else .no := rfl
@[simp] theorem s2_sub (i j : Int) : sem2 .sub (.int i) (.int j) = v1 (.int (i - j)) := rfl
@[simp] theorem s2_mul (i j : Int) : sem2 .mul (.int i) (.int j) = if mulOk i j then v1 (.int (i * j)) else .no := rfl
@[simp] theorem s2_fdiv (i j : Int) : sem2 .fdiv (.int i) (.int j) = if j = 0 then .no else v1 (.int (i.fdiv j)) := rfl
@[simp] theorem s2_mod (i j : Int) : sem2 .mod (.int i) (.int j) = if j = 0 then .no else v1 (.int (i.fmod j)) := rfl
@[simp] theorem s2_pow (i j : Int) : sem2 .pow (.int i) (.int j) = if 0 ≤ j ∧ j ≤ 1000000 ∧ i.natAbs < 2 ^ 64 then v1 (.int (i ^ j.toNat)) else .no := rfl
@[simp] theorem s2_lt (i j : Int) : sem2 .lt (.int i) (.int j) = v1 (.bool (decide (i < j))) := rfl
@[simp] theorem s2_le (i j : Int) : sem2 .le (.int i) (.int j) = v1 (.bool (decide (i ≤ j))) := rfl
@[simp] theorem s2_gt (i j : Int) : sem2 .gt (.int i) (.int j) = v1 (.bool (decide (j < i))) := rfl
@[simp] theorem s2_ge (i j : Int) : sem2 .ge (.int i) (.int j) = v1 (.bool (decide (j ≤ i))) := rfl
@[simp] theorem s2_idxl (xs : List D) (i : Int) : sem2 .idx (.list xs) (.int i) = atD xs i := rfl
@[simp] theorem s2_idxt (xs : List D) (i : Int) : sem2 .idx (.tuple xs) (.int i) = atD xs i := rfl
@[simp] theorem s2_max (i j : Int) : sem2 .max2 (.int i) (.int j) = v1 (.int (max i j)) := by
  show v1 (.int (if j > i then j else i)) = _
  rw [Int.max_def]
  split <;> split <;> first | rfl | (congr 2; omega)
@[simp] theorem s2_min (i j : Int) : sem2 .min2 (.int i) (.int j) = v1 (.int (min i j)) := by
  show v1 (.int (if j < i then j else i)) = _
  rw [Int.min_def]
  split <;> split <;> first | rfl | (congr 2; omega)
theorem s2_eq (a b : D) : sem2 .eq a b = if SeqAt.shaped a = true ∧ SeqAt.shaped b = true then v1 (.bool (a.eqv b)) else .no := by cases a <;> cases b <;> rfl
theorem s2_ne (a b : D) : sem2 .ne a b = if SeqAt.shaped a = true ∧ SeqAt.shaped b = true then v1 (.bool (!a.eqv b)) else .no := by cases a <;> cases b <;> rfl
@[simp] theorem s2_eqi (i j : Int) : sem2 .eq (.int i) (.int j) = v1 (.bool (i == j)) := by rw [s2_eq]; rfl
@[simp] theorem s2_nei (i j : Int) : sem2 .ne (.int i) (.int j) = v1 (.bool (!(i == j))) := by rw [s2_ne]; rfl
/-! equality of data -/
mutual
theorem eqv_self : ∀ d : D, d.canLay0 = true → d.eqv d = true
  | .none, _ => rfl
  | .bool b, _ => by cases b <;> rfl
  | .int i, _ => by show (i == i) = true; simp
  | .str x, _ => by show (x == x) = true; simp
  | .list xs, h => eqvAll_self xs (by simpa [PyData.canLay0] using h)
  | .tuple xs, h => eqvAll_self xs (by simpa [PyData.canLay0] using h)
  | .dict kvs, h => by simp [PyData.canLay0] at h
theorem eqvAll_self : ∀ ds : List D, PyData.canLayAll0 ds = true → PyData.eqvAll ds ds = true
  | [], _ => rfl
  | d :: ds, h => by
    have h' : d.canLay0 = true ∧ PyData.canLayAll0 ds = true := by simpa [PyData.canLayAll0] using h
    show (d.eqv d && PyData.eqvAll ds ds) = true
    rw [eqv_self d h'.1, eqvAll_self ds h'.2]
    rfl
end

/-! ### loops -/
section
variable {t : En → R Bool} {b : En → R Fl}
theorem nextFl_mono {k k' : En → R Fl} (h : ∀ e, k e ≠ .no → k' e = k e) : ∀ fl, nextFl k fl ≠ .no → nextFl k' fl = nextFl k fl
  | .nx e, z => h e z
  | .ct e, z => h e z
  | .bk e, _ => rfl
  | .rt d f, _ => rfl
  | .ex c e, _ => rfl
theorem whileN_succ : ∀ n en, whileN t b n en ≠ .no → whileN t b (n + 1) en = whileN t b n en
  | 0, en, h => absurd rfl h
  | n + 1, en, h => by
    unfold whileN at h ⊢
    cases ht : t en with
    | no => rfl
    | ex c => rfl
    | ok k =>
      rw [ht] at h
      cases k with
      | false => rfl
      | true =>
        have h : (b en).bind (nextFl (whileN t b n)) ≠ .no := h
        show (b en).bind (nextFl (whileN t b (n + 1))) = (b en).bind (nextFl (whileN t b n))
        cases hb : b en with
        | no => rfl
        | ex c => rfl
        | ok fl =>
          rw [hb] at h
          exact nextFl_mono (fun e z => whileN_succ n e z) fl h
theorem whileN_le {n m : Nat} (h : n ≤ m) {en : En} (z : whileN t b n en ≠ .no) : whileN t b m en = whileN t b n en := by
  induction h with
  | refl => rfl
  | step h ih => rw [whileN_succ _ _ (by rw [ih]; exact z), ih]
theorem whileR_of {n : Nat} {en : En} (z : whileN t b n en ≠ .no) : whileR t b en = whileN t b n en := by
  have h : ∃ n, whileN t b n en ≠ .no := ⟨n, z⟩
  unfold whileR
  rw [dif_pos h]
  have e1 := whileN_le (Nat.le_max_left h.choose n) h.choose_spec
  have e2 := whileN_le (Nat.le_max_right h.choose n) z
  rw [← e1, e2]
theorem whileR_no {en : En} (z : ∀ n, whileN t b n en = .no) : whileR t b en = .no := by
  unfold whileR
  rw [dif_neg fun ⟨n, h⟩ => h (z n)]
theorem whileR_stop {en : En} (h : t en = .ok false) : whileR t b en = .ok (.nx en) := by
  have e : whileN t b 1 en = .ok (.nx en) := by unfold whileN; rw [h]; rfl
  rw [whileR_of (n := 1) (by rw [e]; exact fun z => by cases z), e]
theorem whileR_step {en : En} (h : t en = .ok true) : whileR t b en = (b en).bind (nextFl (whileR t b)) := by
  have e : ∀ n, whileN t b (n + 1) en = (b en).bind (nextFl (whileN t b n)) := fun n => by
    conv => lhs; unfold whileN
    rw [h]
    rfl
  by_cases z : ∃ n, whileN t b n en ≠ .no
  · obtain ⟨n, z⟩ := z
    cases n with
    | zero => exact absurd rfl z
    | succ n =>
      rw [whileR_of z, e n]
      rw [e n] at z
      cases hb : b en with
      | no => rfl
      | ex c => rfl
      | ok fl =>
        rw [hb] at z
        have z : nextFl (whileN t b n) fl ≠ .no := z
        show nextFl (whileN t b n) fl = nextFl (whileR t b) fl
        exact (nextFl_mono (fun e he => whileR_of he) fl z).symm
  · have z' : ∀ n, whileN t b n en = .no := fun n => Classical.byContradiction fun q => z ⟨n, q⟩
    rw [whileR_no z']
    cases hb : b en with
    | no => rfl
    | ex c => have q := z' 1; rw [e 0, hb] at q; cases q
    | ok fl =>
      have q : ∀ n, nextFl (whileN t b n) fl = .no := fun n => by have q := z' (n + 1); rw [e n, hb] at q; exact q
      cases fl with
      | nx e1 => exact (whileR_no q).symm
      | ct e1 => exact (whileR_no q).symm
      | bk e1 => have := q 0; cases this
      | rt d f => have := q 0; cases this
      | ex c e1 => have := q 0; cases this
@[simp] theorem forR_nil {g : D → En → R En} (en : En) : forR g b [] en = .ok (.nx en) := rfl
theorem forR_cons {g : D → En → R En} (d : D) (ds : List D) (en : En) : forR g b (d :: ds) en = (g d en).bind fun e1 => (b e1).bind (nextFl (forR g b ds)) := rfl
end
/-! ### calls -/
def outF : R Fl → R (D × Bool)
  | .ok (.rt d fr) => .ok (d, fr)
  | .ok (.nx _) => .ok (.none, false)
  | .ok (.ex c _) => .ex c
  | _ => .no
@[simp] theorem outF_rt (d : D) (fr : Bool) : outF (.ok (.rt d fr)) = .ok (d, fr) := rfl
@[simp] theorem outF_nx (en : En) : outF (.ok (.nx en)) = .ok (.none, false) := rfl
@[simp] theorem outF_ex (c : Nat) (en : En) : outF (.ok (.ex c en)) = .ex c := rfl
theorem callN_lt {G : Nat → D} {T : List Fn} {j : Nat} {ss : List Sl} : ∀ {k : Nat}, j < k → callN G T k j ss = callN G T (j + 1) j ss
  | 0, h => by omega
  | k + 1, h => by
    by_cases e : j = k
    · rw [e]
    · conv => lhs; unfold callN
      rw [if_neg e]
      exact callN_lt (by omega)
theorem callN_at {G : Nat → D} {T : List Fn} {j : Nat} {f : Fn} {ss : List Sl} (h : T[j]? = some f) (hl : ss.length = f.ps.length) :
    callN G T (j + 1) j ss = outF (evSs G (callN G T j) (dflT T) f.body (ss ++ List.replicate (f.N.length - ss.length) .un)) := by
  conv => lhs; unfold callN
  rw [if_pos rfl, h]
  simp only [if_pos hl]
  rfl
end AW

/-! AwB1: bodies. -/
namespace AW
open PySem
/-- is_whole:  -/
def b_is_whole : Ss :=
  (.cons (.ret (.and (.isi (.var 0) [.bi "int"]) (.not (.isi (.var 0) [.bi "bool"])))) .nil)
/-- common_number:  -/
def b_common_number : Ss :=
  (.cons (.whl (.op2 .gt (.var 1) (.con (.int 0))) (.cons (.par [0, 1] (.cons (.var 1) (.cons (.op2 .mod (.var 0) (.var 1)) .nil))) .nil))
    (.cons (.ret (.var 0)) .nil))
/-- fraction: p0 is_whole, p1 NoFraction, p2 common_number -/
def b_fraction (p0 p1 p2 : Nat) : Ss :=
  (.cons (.ite (.or (.not (.call p0 (.cons (.var 0) .nil) 0)) (.or (.not (.call p0 (.cons (.var 1) .nil) 0)) (.op2 .eq (.var 1) (.con (.int 0))))) (.cons (.rai p1) .nil) (.nil))
    (.cons (.asg (.nm 2) (.call p2 (.cons (.op1 .abs (.var 0)) (.cons (.op1 .abs (.var 1)) .nil)) 0))
    (.cons (.ite (.op2 .lt (.var 1) (.con (.int 0))) (.cons (.asg (.nm 2) (.op1 .neg (.var 2))) .nil) (.nil))
    (.cons (.ret (.tup (.cons (.op2 .fdiv (.var 0) (.var 2)) (.cons (.op2 .fdiv (.var 1) (.var 2)) .nil)))) .nil))))
/-- plus: p0 fraction -/
def b_plus (p0 : Nat) : Ss :=
  (.cons (.ret (.call p0 (.cons (.op2 .add (.op2 .mul (.op2 .idx (.var 0) (.con (.int 0))) (.op2 .idx (.var 1) (.con (.int 1)))) (.op2 .mul (.op2 .idx (.var 1) (.con (.int 0))) (.op2 .idx (.var 0) (.con (.int 1))))) (.cons (.op2 .mul (.op2 .idx (.var 0) (.con (.int 1))) (.op2 .idx (.var 1) (.con (.int 1)))) .nil)) 0)) .nil)
/-- trimmed: p0 NOUGHT -/
def b_trimmed (p0 : Nat) : Ss :=
  (.cons (.asg (.nm 1) (.op1 .len (.var 0)))
    (.cons (.whl (.and (.op2 .gt (.var 1) (.con (.int 0))) (.op2 .eq (.op2 .idx (.var 0) (.op2 .sub (.var 1) (.con (.int 1)))) (.glb p0))) (.cons (.aug 1 .sub (.con (.int 1))) .nil))
    (.cons (.ret (.op1 .tuple (.slc (.var 0) .none (.some (.var 1))))) .nil)))
/-- poly_sum: p0 NOUGHT, p1 trimmed, p2 plus -/
def b_poly_sum [Nm] (p0 p1 p2 : Nat) : Ss :=
  (.cons (.asg (.nm 2) (.op2 .max2 (.op1 .len (.var 0)) (.op1 .len (.var 1))))
    (.cons (.asg (.nm 3) (.op2 .add (.op1 .list (.var 0)) (.rep (.cons (.glb p0) .nil) (.op2 .sub (.var 2) (.op1 .len (.var 0))))))
    (.cons (.asg (.nm 4) (.op2 .add (.op1 .list (.var 1)) (.rep (.cons (.glb p0) .nil) (.op2 .sub (.var 2) (.op1 .len (.var 1))))))
    (.cons (.ret (.call p1 (.cons (.cmp (.call p2 (.cons (.var 5) (.cons (.var 6) .nil)) 0) (.tp (.cons (.nm 5) (.cons (.nm 6) .nil))) (.zip (.var 3) (.var 4)) .none [(Nm.n 5, 5), (Nm.n 6, 6)]) .nil) 0)) .nil))))
/-- by: p0 fraction -/
def b_by (p0 : Nat) : Ss :=
  (.cons (.ret (.call p0 (.cons (.op2 .mul (.op2 .idx (.var 0) (.con (.int 0))) (.op2 .idx (.var 1) (.con (.int 0)))) (.cons (.op2 .mul (.op2 .idx (.var 0) (.con (.int 1))) (.op2 .idx (.var 1) (.con (.int 1)))) .nil)) 0)) .nil)
/-- poly_product: p0 NOUGHT, p1 plus, p2 by, p3 trimmed -/
def b_poly_product (p0 p1 p2 p3 : Nat) : Ss :=
  (.cons (.asgO 2 (.rep (.cons (.glb p0) .nil) (.op2 .max2 (.con (.int 0)) (.op2 .sub (.op2 .add (.op1 .len (.var 0)) (.op1 .len (.var 1))) (.con (.int 1))))))
    (.cons (.for_ (.tp (.cons (.nm 3) (.cons (.nm 4) .nil))) (.enum (.var 0)) (.cons (.for_ (.tp (.cons (.nm 5) (.cons (.nm 6) .nil))) (.enum (.var 1)) (.cons (.setI 2 (.op2 .add (.var 3) (.var 5)) (.call p1 (.cons (.op2 .idx (.peek 2) (.op2 .add (.var 3) (.var 5))) (.cons (.call p2 (.cons (.var 4) (.cons (.var 6) .nil)) 0) .nil)) 0)) .nil)) .nil))
    (.cons (.frz 2)
    (.cons (.ret (.call p3 (.cons (.var 2) .nil) 0)) .nil))))
/-- _law_mixed:  -/
def b_law_mixed : Ss :=
  (.cons (.asg (.nm 2) (.op2 .mod (.op2 .mul (.op2 .add (.var 0) (.op2 .mul (.con (.int 7919)) (.var 1))) (.con (.int 48271))) (.con (.int 2147483647))))
    (.cons (.ret (.op2 .mod (.op2 .mul (.var 2) (.op2 .add (.op2 .add (.var 2) (.op2 .mul (.con (.int 2)) (.var 1))) (.con (.int 1)))) (.con (.int 2147483629)))) .nil))
/-- scaled: p0 trimmed, p1 by -/
def b_scaled [Nm] (p0 p1 : Nat) : Ss :=
  (.cons (.ret (.call p0 (.cons (.cmp (.call p1 (.cons (.var 1) (.cons (.var 2) .nil)) 0) (.nm 2) (.seq (.var 0)) .none [(Nm.n 2, 2)]) .nil) 0)) .nil)
/-- poly_slope: p0 trimmed, p1 by, p2 fraction -/
def b_poly_slope [Nm] (p0 p1 p2 : Nat) : Ss :=
  (.cons (.ret (.call p0 (.cons (.cmp (.call p1 (.cons (.call p2 (.cons (.op2 .add (.var 1) (.con (.int 1))) .nil) 1) (.cons (.var 2) .nil)) 0) (.tp (.cons (.nm 1) (.cons (.nm 2) .nil))) (.enum (.slc (.var 0) (.some (.con (.int 1))) .none)) .none [(Nm.n 1, 1), (Nm.n 2, 2)]) .nil) 0)) .nil)
end AW

/-! AwFr: fractions: pairs of ints as the text has them, against core's Rat. -/
namespace AW
open PySem PySem.Spec PyProof.Rows

/-- a fraction as data -/
def fr (q : Rat) : D := .tuple [.int q.num, .int (q.den : Int)]
section
variable {G : Nat → D} {c : Nat → List Sl → R (D × Bool)} {T : List Fn} {nm : Nm}
/-- what a def's body hands back from its arguments; n: how many names are left -/
noncomputable def bo (G : Nat → D) (c : Nat → List Sl → R (D × Bool)) (T : List Fn) (b : Ss) (ss : List Sl) (n : Nat) : R (D × Bool) := outF (evSs G c (dflT T) b (ss ++ List.replicate n .un))
theorem callN_bo {G : Nat → D} {T : List Fn} {j k : Nat} {f : Fn} {ss : List Sl} (hk : j < k) (h : T[j]? = some f) (hl : ss.length = f.ps.length) :
    callN G T k j ss = bo G (callN G T j) T f.body ss (f.N.length - f.ps.length) := by
  rw [callN_lt hk, callN_at h hl, hl]
  rfl
@[simp] theorem dflT_zero (j : Nat) : dflT T j 0 = [] := by
  unfold dflT
  cases T[j]? with
  | none => rfl
  | some g => exact List.drop_length
/-- data that is handed back -/
abbrev va (d : D) : R (D × Bool) := .ok (d, false)

/-! ### is_whole, common_number -/
def SpWhole (c : Nat → List Sl → R (D × Bool)) (j : Nat) : Prop := ∀ i : Int, c j [.va (.int i)] = va (.bool true)
theorem whole_ok (i : Int) : bo G c T b_is_whole [.va (.int i)] 0 = va (.bool true) := rfl
def SpGcd (c : Nat → List Sl → R (D × Bool)) (j : Nat) : Prop := ∀ m n : Nat, c j [.va (.int m), .va (.int n)] = va (.int (Nat.gcd m n : Nat))
theorem gcd_loop (tl : En) : ∀ n m : Nat, whileR (evT G c (dflT T) (.op2 .gt (.var 1) (.con (.int 0)))) (evSs G c (dflT T) (.cons (.par [0, 1] (.cons (.var 1) (.cons (.op2 .mod (.var 0) (.var 1)) .nil))) .nil)) (.va (.int m) :: .va (.int n) :: tl)
    = .ok (.nx (.va (.int (Nat.gcd m n : Nat)) :: .va (.int 0) :: tl)) := by
  intro n
  induction n using Nat.strongRecOn with
  | _ n ih =>
    intro m
    by_cases h : n = 0
    · subst h
      rw [whileR_stop (by simp [val])]
      simp
    · rw [whileR_step (by simp [val]; omega)]
      have hm : (m : Int).fmod (n : Int) = ((m % n : Nat) : Int) := by rw [Int.fmod_eq_emod_of_nonneg _ (by omega)]; rfl
      simp [val, h, nextFl]
      rw [hm, ih (m % n) (Nat.mod_lt _ (by omega)) n, Nat.gcd_comm n, Nat.gcd_comm m n, Nat.gcd_rec n m]
theorem gcd_ok (m n : Nat) : bo G c T b_common_number [.va (.int m), .va (.int n)] 0 = va (.int (Nat.gcd m n : Nat)) := by
  unfold bo b_common_number
  simp only [List.replicate_zero, List.append_nil, ess_cons, es_whl]
  rw [gcd_loop]
  simp [val]
end

/-! ### a fraction made -/
theorem fr_made {a b : Int} (hb : b ≠ 0) : fr (Rat.divInt a b) = .tuple [.int (a.fdiv (if b < 0 then -((Nat.gcd a.natAbs b.natAbs : Nat) : Int) else ((Nat.gcd a.natAbs b.natAbs : Nat) : Int))), .int (b.fdiv (if b < 0 then -((Nat.gcd a.natAbs b.natAbs : Nat) : Int) else ((Nat.gcd a.natAbs b.natAbs : Nat) : Int)))] := by
  have hg : 0 < Nat.gcd a.natAbs b.natAbs := Nat.gcd_pos_of_pos_right _ (by omega)
  have da : ((Nat.gcd a.natAbs b.natAbs : Nat) : Int) ∣ a := Int.ofNat_dvd_left.mpr (Nat.gcd_dvd_left _ _)
  have db : ((Nat.gcd a.natAbs b.natAbs : Nat) : Int) ∣ b := Int.ofNat_dvd_left.mpr (Nat.gcd_dvd_right _ _)
  have e : (b.gcd a) = Nat.gcd a.natAbs b.natAbs := Nat.gcd_comm _ _
  unfold fr
  rw [Rat.num_divInt, Rat.den_divInt, if_neg hb, e]
  generalize Nat.gcd a.natAbs b.natAbs = g at *
  obtain ⟨x, rfl⟩ := da
  obtain ⟨y, rfl⟩ := db
  have hg' : (g : Int) ≠ 0 := by omega
  by_cases h : (g : Int) * y < 0
  · have hs : ((g : Int) * y).sign = -1 := Int.sign_eq_neg_one_of_neg h
    have hy : y < 0 := by
      rcases (by omega : y < 0 ∨ 0 ≤ y) with z | z
      · exact z
      · have := Int.mul_nonneg (show (0 : Int) ≤ g by omega) z; omega
    rw [if_pos h, hs]
    have e1 : -1 * ((g : Int) * x) / (g : Int) = -x := by
      rw [show -1 * ((g : Int) * x) = (g : Int) * (-x) by grind, Int.mul_ediv_cancel_left _ hg']
    have e2 : ((g : Int) * x).fdiv (-(g : Int)) = -x := by
      rw [show (g : Int) * x = (-x) * (-(g : Int)) by grind, Int.mul_fdiv_cancel _ (by omega)]
    have e3 : ((g : Int) * y).fdiv (-(g : Int)) = -y := by
      rw [show (g : Int) * y = (-y) * (-(g : Int)) by grind, Int.mul_fdiv_cancel _ (by omega)]
    have e4 : ((((g : Int) * y).natAbs / g : Nat) : Int) = -y := by
      rw [Int.natAbs_mul, Int.natAbs_natCast, Nat.mul_div_cancel_left _ hg]
      omega
    rw [e1, e2, e3, e4]
  · have hy : 0 < y := by
      rcases (by omega : 0 < y ∨ y ≤ 0) with z | z
      · exact z
      · have : (g : Int) * y ≤ 0 := Int.mul_nonpos_of_nonneg_of_nonpos (by omega) z
        exact absurd (by omega : (g : Int) * y = 0) hb
    have hs : ((g : Int) * y).sign = 1 := Int.sign_eq_one_of_pos (by omega)
    rw [if_neg h, hs]
    have e1 : 1 * ((g : Int) * x) / (g : Int) = x := by
      rw [Int.one_mul, Int.mul_ediv_cancel_left _ hg']
    have e2 : ((g : Int) * x).fdiv (g : Int) = x := by
      rw [Int.mul_comm, Int.mul_fdiv_cancel _ (by omega)]
    have e3 : ((g : Int) * y).fdiv (g : Int) = y := by
      rw [Int.mul_comm, Int.mul_fdiv_cancel _ (by omega)]
    have e4 : ((((g : Int) * y).natAbs / g : Nat) : Int) = y := by
      rw [Int.natAbs_mul, Int.natAbs_natCast, Nat.mul_div_cancel_left _ hg]
      omega
    rw [e1, e2, e3, e4]
section
variable {G : Nat → D} {c : Nat → List Sl → R (D × Bool)} {T : List Fn} {nm : Nm}
def SpFrac (c : Nat → List Sl → R (D × Bool)) (j : Nat) : Prop := ∀ a b : Int, b ≠ 0 → c j [.va (.int a), .va (.int b)] = va (fr (Rat.divInt a b))
theorem frac_ok {jw e jg : Nat} (hw : SpWhole c jw) (hg : SpGcd c jg) {a b : Int} (hb : b ≠ 0) : bo G c T (b_fraction jw e jg) [.va (.int a), .va (.int b)] 1 = va (fr (Rat.divInt a b)) := by
  have h0 : ∀ {a b : Int}, b ≠ 0 → Nat.gcd a.natAbs b.natAbs ≠ 0 := fun {a b} hb => by
    have := Nat.gcd_pos_of_pos_right a.natAbs (show 0 < b.natAbs by omega)
    omega
  rw [fr_made hb]
  unfold bo b_fraction
  by_cases h : b < 0
  · have := @h0 a b hb
    simp [val, hw a, hw b, hb, hg a.natAbs b.natAbs, h, line, this]
  · have := @h0 a b hb
    simp [val, hw a, hw b, hb, hg a.natAbs b.natAbs, h, line, this]
end
end AW

/-! AwPS: power series over core's Rat, a commutative ring; rows of coefficients. -/
namespace AW
@[ext] structure PS where
  f : Nat → Rat
namespace PS
def conv (f g : Nat → Rat) : Nat → Rat
  | 0 => f 0 * g 0
  | n + 1 => f 0 * g (n + 1) + conv (fun k => f (k + 1)) g n
theorem conv_add_l (f f' g : Nat → Rat) (n : Nat) : conv (fun k => f k + f' k) g n = conv f g n + conv f' g n := by
  induction n generalizing f f' with
  | zero => simp only [conv]; grind
  | succ n ih => simp only [conv]; rw [ih]; grind
theorem conv_add_r (f g g' : Nat → Rat) (n : Nat) : conv f (fun k => g k + g' k) n = conv f g n + conv f g' n := by
  induction n generalizing f with
  | zero => simp only [conv]; grind
  | succ n ih => simp only [conv]; rw [ih]; grind
theorem conv_smul_l (a : Rat) (f g : Nat → Rat) (n : Nat) : conv (fun k => a * f k) g n = a * conv f g n := by
  induction n generalizing f with
  | zero => simp only [conv]; grind
  | succ n ih => simp only [conv]; rw [ih]; grind
theorem conv_zero_l (g : Nat → Rat) (n : Nat) : conv (fun _ => 0) g n = 0 := by
  induction n with
  | zero => simp only [conv]; grind
  | succ n ih => simp only [conv]; rw [ih]; grind
theorem conv_zero_r (f : Nat → Rat) (n : Nat) : conv f (fun _ => 0) n = 0 := by
  induction n generalizing f with
  | zero => simp only [conv]; grind
  | succ n ih => simp only [conv]; rw [ih]; grind
/-- the other end -/
theorem conv_end (f g : Nat → Rat) (n : Nat) : conv f g (n + 1) = conv f (fun k => g (k + 1)) n + f (n + 1) * g 0 := by
  induction n generalizing f with
  | zero => simp only [conv]
  | succ n ih =>
    have e := ih (fun k => f (k + 1))
    rw [conv, e]
    simp only [conv]
    grind
theorem conv_comm (f g : Nat → Rat) (n : Nat) : conv f g n = conv g f n := by
  induction n generalizing f g with
  | zero => simp only [conv]; grind
  | succ n ih => rw [conv_end, ih]; simp only [conv]; grind
theorem conv_assoc (f g h : Nat → Rat) (n : Nat) : conv (conv f g) h n = conv f (conv g h) n := by
  induction n generalizing f with
  | zero => simp only [conv]; grind
  | succ n ih =>
    have e : (fun k => conv f g (k + 1)) = fun k => f 0 * g (k + 1) + conv (fun k => f (k + 1)) g k := by funext k; rfl
    rw [conv, e, conv_add_l, conv_smul_l, ih]
    simp only [conv]
    grind
def C (a : Rat) : PS := ⟨fun n => if n = 0 then a else 0⟩
theorem conv_C (a : Rat) (g : Nat → Rat) (n : Nat) : conv (C a).f g n = a * g n := by
  cases n with
  | zero => rfl
  | succ n =>
    show a * g (n + 1) + conv (fun k => if k + 1 = 0 then a else 0) g n = _
    rw [show (fun k : Nat => if k + 1 = 0 then a else 0) = fun _ => 0 by funext k; rw [if_neg (by omega)], conv_zero_l]
    grind
instance : Add PS := ⟨fun a b => ⟨fun n => a.f n + b.f n⟩⟩
instance : Mul PS := ⟨fun a b => ⟨conv a.f b.f⟩⟩
instance : Neg PS := ⟨fun a => ⟨fun n => -a.f n⟩⟩
instance : Sub PS := ⟨fun a b => ⟨fun n => a.f n - b.f n⟩⟩
instance : NatCast PS := ⟨fun n => C n⟩
instance : IntCast PS := ⟨fun n => C n⟩
instance instOfNat (n : Nat) : OfNat PS n := ⟨C n⟩
def pow (a : PS) : Nat → PS
  | 0 => 1
  | n + 1 => pow a n * a
instance : HPow PS Nat PS := ⟨pow⟩
instance : SMul Nat PS := ⟨fun n a => C n * a⟩
instance : SMul Int PS := ⟨fun n a => C n * a⟩
@[simp] theorem add_f (a b : PS) (n : Nat) : (a + b).f n = a.f n + b.f n := rfl
@[simp] theorem sub_f (a b : PS) (n : Nat) : (a - b).f n = a.f n - b.f n := rfl
@[simp] theorem neg_f (a : PS) (n : Nat) : (-a).f n = -a.f n := rfl
theorem mul_f (a b : PS) (n : Nat) : (a * b).f n = conv a.f b.f n := rfl
@[simp] theorem C_mul (a : Rat) (b : PS) (n : Nat) : (C a * b).f n = a * b.f n := conv_C a b.f n
theorem C0 : (0 : PS) = ⟨fun _ => 0⟩ := by
  ext n
  show (if n = 0 then ((0 : Nat) : Rat) else 0) = 0
  split <;> rfl
@[simp] theorem zero_f (n : Nat) : (0 : PS).f n = 0 := by rw [C0]
theorem mulc (a b : PS) : a * b = b * a := by ext n; exact conv_comm _ _ _
theorem add_z (a : PS) : a + 0 = a := by ext n; rw [add_f, zero_f]; grind
theorem C_add (a b : Rat) : C (a + b) = C a + C b := by
  ext n
  show (if n = 0 then a + b else 0) = (if n = 0 then a else 0) + (if n = 0 then b else 0)
  split <;> grind
theorem C_neg (a : Rat) : C (-a) = -C a := by
  ext n
  show (if n = 0 then -a else 0) = -(if n = 0 then a else 0)
  split <;> grind
theorem C_mulC (a b : Rat) : C (a * b) = C a * C b := by
  ext n
  rw [C_mul]
  show (if n = 0 then a * b else 0) = a * (if n = 0 then b else 0)
  split <;> grind
theorem C_zero : C 0 = 0 := by rw [C0]; ext n; show (if n = 0 then (0 : Rat) else 0) = 0; split <;> rfl
theorem C_one : C 1 = 1 := rfl
theorem one_m (a : PS) : 1 * a = a := by
  ext n
  rw [← C_one, C_mul]
  grind
instance : Lean.Grind.CommRing PS where
  add_zero := add_z
  add_comm a b := by ext n; simp only [add_f]; grind
  add_assoc a b c := by ext n; simp only [add_f]; grind
  mul_assoc a b c := by ext n; exact conv_assoc _ _ _ _
  mul_one a := by rw [mulc]; exact one_m a
  one_mul := one_m
  left_distrib a b c := by ext n; exact conv_add_r _ _ _ _
  right_distrib a b c := by ext n; exact conv_add_l _ _ _ _
  zero_mul a := by ext n; rw [mul_f, C0]; exact conv_zero_l _ _
  mul_zero a := by ext n; rw [mul_f, C0]; exact conv_zero_r _ _
  pow_zero a := rfl
  pow_succ a n := rfl
  ofNat_succ a := by
    show C ((a + 1 : Nat) : Rat) = C (a : Rat) + C 1
    rw [← C_add]
    congr 1
    grind
  ofNat_eq_natCast n := rfl
  neg_add_cancel a := by ext n; rw [add_f, neg_f, zero_f]; grind
  sub_eq_add_neg a b := by ext n; rw [add_f, neg_f, sub_f]; grind
  neg_zsmul i a := by
    ext n
    show (C ((-i : Int) : Rat) * a).f n = -(C (i : Rat) * a).f n
    rw [C_mul, C_mul]
    grind
  mul_comm := mulc
  nsmul_eq_natCast_mul n a := rfl
  zsmul_natCast_eq_nsmul n a := rfl
  intCast_ofNat n := rfl
  intCast_neg i := by
    show C ((-i : Int) : Rat) = -C (i : Rat)
    rw [← C_neg]
    congr 1
example (a b c : PS) : (a + b) * c - a * c = c * b := by grind
/-- x -/
def X : PS := ⟨fun n => if n = 1 then 1 else 0⟩
theorem X_mul (g : PS) (n : Nat) : (X * g).f n = match n with
    | 0 => 0
    | n + 1 => g.f n := by
  cases n with
  | zero => show (0 : Rat) * g.f 0 = 0; grind
  | succ n =>
    show (0 : Rat) * g.f (n + 1) + conv (fun k => if k + 1 = 1 then 1 else 0) g.f n = g.f n
    rw [show (fun k : Nat => if k + 1 = 1 then (1 : Rat) else 0) = (C 1).f by funext k; show _ = if k = 0 then (1 : Rat) else 0; by_cases h : k = 0 <;> simp [h], conv_C]
    grind
end PS
open PS
/-! ### rows of coefficients -/
/-- the series of a row, low first -/
def ser : List Rat → PS
  | [] => 0
  | a :: p => C a + X * ser p
def trim : List Rat → List Rat
  | [] => []
  | a :: p => if trim p = [] ∧ a = 0 then [] else a :: trim p
theorem ser_f : ∀ (p : List Rat) (n : Nat), (ser p).f n = p.getD n 0
  | [], n => by simp [ser]
  | a :: p, 0 => by
    show (C a).f 0 + (X * ser p).f 0 = a
    rw [X_mul]
    show a + 0 = a
    grind
  | a :: p, n + 1 => by
    show (C a).f (n + 1) + (X * ser p).f (n + 1) = _
    rw [X_mul]
    show 0 + (ser p).f n = _
    rw [ser_f p n, Rat.zero_add]
    simp
theorem ser_inj0 {a b : Rat} {s u : PS} (h : C a + X * s = C b + X * u) : a = b ∧ s = u := by
  have h0 : ∀ n, (C a + X * s).f n = (C b + X * u).f n := fun n => by rw [h]
  constructor
  · have z := h0 0
    rw [add_f, add_f, X_mul, X_mul] at z
    have z : a + 0 = b + 0 := z
    grind
  · ext n
    have z := h0 (n + 1)
    rw [add_f, add_f, X_mul, X_mul] at z
    have z : 0 + s.f n = 0 + u.f n := z
    grind
theorem ser_trim : ∀ p, ser (trim p) = ser p
  | [] => rfl
  | a :: p => by
    have ih := ser_trim p
    unfold trim
    by_cases h : trim p = [] ∧ a = 0
    · rw [if_pos h]
      rw [h.1] at ih
      show (0 : PS) = C a + X * ser p
      rw [← ih, h.2, C_zero]
      show (0 : PS) = 0 + X * 0
      grind
    · rw [if_neg h]
      show C a + X * ser (trim p) = C a + X * ser p
      rw [ih]
theorem trim_nil {p : List Rat} (h : ser p = 0) : trim p = [] := by
  induction p with
  | nil => rfl
  | cons a p ih =>
    have e : C a + X * ser p = C 0 + X * 0 := by
      rw [C_zero]
      show ser (a :: p) = _
      rw [h]
      grind
    obtain ⟨e1, e2⟩ := ser_inj0 e
    unfold trim
    rw [if_pos ⟨ih e2, e1⟩]
theorem trim_ext : ∀ {p q : List Rat}, ser p = ser q → trim p = trim q
  | [], q, h => by rw [trim_nil h.symm]; rfl
  | p, [], h => by rw [trim_nil h]; rfl
  | a :: p, b :: q, h => by
    obtain ⟨e1, e2⟩ := ser_inj0 (show C a + X * ser p = C b + X * ser q from h)
    unfold trim
    rw [trim_ext e2, e1]
theorem trim_trim (p : List Rat) : trim (trim p) = trim p := trim_ext (ser_trim p)
theorem ser_append (p q : List Rat) : ser (p ++ q) = ser p + X ^ p.length * ser q := by
  induction p with
  | nil => show ser q = 0 + X ^ 0 * ser q; grind
  | cons a p ih =>
    show C a + X * ser (p ++ q) = C a + X * ser p + X ^ (p.length + 1) * ser q
    rw [ih]
    grind
theorem ser_zeros (k : Nat) : ser (List.replicate k 0) = 0 := by
  induction k with
  | zero => rfl
  | succ k ih => show C 0 + X * ser (List.replicate k 0) = 0; rw [ih, C_zero]; grind
theorem trim_snoc (p : List Rat) (a : Rat) : trim (p ++ [a]) = if a = 0 then trim p else p ++ [a] := by
  induction p with
  | nil => simp [trim]
  | cons b p ih =>
    show (if trim (p ++ [a]) = [] ∧ b = 0 then [] else b :: trim (p ++ [a])) = _
    rw [ih]
    by_cases h : a = 0
    · rw [if_pos h, if_pos h]
      rfl
    · rw [if_neg h, if_neg h, if_neg (by simp)]
      rfl
/-! ### values -/
def hv : List Rat → Rat → Rat
  | [], _ => 0
  | a :: p, x => a + x * hv p x
def addL : List Rat → List Rat → List Rat
  | [], q => q
  | a :: p, [] => a :: p
  | a :: p, b :: q => (a + b) :: addL p q
def mulL : List Rat → List Rat → List Rat
  | [], _ => []
  | a :: p, q => addL (q.map fun b => a * b) (0 :: mulL p q)
theorem ser_add : ∀ p q, ser (addL p q) = ser p + ser q
  | [], q => by show ser q = 0 + ser q; grind
  | a :: p, [] => by show ser (a :: p) = ser (a :: p) + 0; grind
  | a :: p, b :: q => by
    show C (a + b) + X * ser (addL p q) = C a + X * ser p + (C b + X * ser q)
    rw [ser_add p q, C_add]
    grind
theorem ser_smul (a : Rat) : ∀ p, ser (p.map fun b => a * b) = C a * ser p
  | [] => by show (0 : PS) = C a * 0; grind
  | b :: p => by
    show C (a * b) + X * ser (p.map fun b => a * b) = C a * (C b + X * ser p)
    rw [ser_smul a p, C_mulC]
    grind
theorem ser_mul : ∀ p q, ser (mulL p q) = ser p * ser q
  | [], q => by show (0 : PS) = 0 * ser q; grind
  | a :: p, q => by
    show ser (addL (q.map fun b => a * b) (0 :: mulL p q)) = (C a + X * ser p) * ser q
    rw [ser_add, ser_smul]
    show C a * ser q + (C 0 + X * ser (mulL p q)) = _
    rw [ser_mul p q, C_zero]
    grind
theorem hv_trim : ∀ p x, hv (trim p) x = hv p x
  | [], x => rfl
  | a :: p, x => by
    have ih := hv_trim p x
    unfold trim
    by_cases h : trim p = [] ∧ a = 0
    · rw [if_pos h]
      rw [h.1] at ih
      show (0 : Rat) = a + x * hv p x
      rw [← ih, h.2]
      show (0 : Rat) = 0 + x * 0
      grind
    · rw [if_neg h]
      show a + x * hv (trim p) x = a + x * hv p x
      rw [ih]
theorem hv_add : ∀ p q x, hv (addL p q) x = hv p x + hv q x
  | [], q, x => by show hv q x = 0 + hv q x; grind
  | a :: p, [], x => by show hv (a :: p) x = hv (a :: p) x + 0; grind
  | a :: p, b :: q, x => by
    show a + b + x * hv (addL p q) x = a + x * hv p x + (b + x * hv q x)
    rw [hv_add p q]
    grind
theorem hv_smul (a : Rat) : ∀ p x, hv (p.map fun b => a * b) x = a * hv p x
  | [], x => by show (0 : Rat) = a * 0; grind
  | b :: p, x => by
    show a * b + x * hv (p.map fun b => a * b) x = a * (b + x * hv p x)
    rw [hv_smul a p]
    grind
theorem hv_mul : ∀ p q x, hv (mulL p q) x = hv p x * hv q x
  | [], q, x => by show (0 : Rat) = 0 * hv q x; grind
  | a :: p, q, x => by
    show hv (addL (q.map fun b => a * b) (0 :: mulL p q)) x = (a + x * hv p x) * hv q x
    rw [hv_add, hv_smul]
    show a * hv q x + (0 + x * hv (mulL p q) x) = _
    rw [hv_mul p q]
    grind
end AW

/-! AwSz: how long the numbers get; fractions added and multiplied; equality. -/
namespace AW
open PySem PySem.Spec PyProof.Rows

/-! ### lengths -/
def Bd (b : Nat) (q : Rat) : Prop := q.num.natAbs ≤ 2 ^ b ∧ q.den ≤ 2 ^ b
def BdL (b : Nat) (p : List Rat) : Prop := ∀ x ∈ p, Bd b x
theorem Bd.mono {a b : Nat} {q : Rat} (h : Bd a q) (l : a ≤ b) : Bd b q := ⟨Nat.le_trans h.1 (Nat.pow_le_pow_right (by decide) l), Nat.le_trans h.2 (Nat.pow_le_pow_right (by decide) l)⟩
theorem BdL.mono {a b : Nat} {p : List Rat} (h : BdL a p) (l : a ≤ b) : BdL b p := fun x hx => (h x hx).mono l
theorem divInt_le {a b : Int} (hb : b ≠ 0) : (Rat.divInt a b).num.natAbs ≤ a.natAbs ∧ (Rat.divInt a b).den ≤ b.natAbs := by
  have hg : 0 < b.gcd a := Nat.gcd_pos_of_pos_left _ (by omega)
  rw [Rat.num_divInt, Rat.den_divInt, if_neg hb]
  refine ⟨?_, Nat.div_le_self _ _⟩
  have da : ((b.gcd a : Nat) : Int) ∣ a := Int.ofNat_dvd_left.mpr (Nat.gcd_dvd_right _ _)
  obtain ⟨x, hx⟩ := da
  generalize b.gcd a = g at *
  subst hx
  have hg' : (g : Int) ≠ 0 := by omega
  rw [show b.sign * ((g : Int) * x) = (g : Int) * (b.sign * x) by grind, Int.mul_ediv_cancel_left _ hg', Int.natAbs_mul, Int.natAbs_mul]
  have h1 : b.sign.natAbs ≤ 1 := by
    rcases Int.sign_trichotomy b with h | h | h <;> rw [h] <;> decide
  have h2 : 1 ≤ (g : Int).natAbs := by omega
  exact Nat.mul_le_mul (Nat.le_trans h1 h2) (Nat.le_refl _)
theorem add_divInt (p q : Rat) : p + q = Rat.divInt (p.num * q.den + q.num * p.den) (p.den * q.den) := by
  rw [Rat.add_def', show ((p.den : Int) * q.den) = ((p.den * q.den : Nat) : Int) by simp, Rat.divInt_ofNat]
theorem mul_divInt (p q : Rat) : p * q = Rat.divInt (p.num * q.num) (p.den * q.den) := by
  rw [Rat.mul_def', show ((p.den : Int) * q.den) = ((p.den * q.den : Nat) : Int) by simp, Rat.divInt_ofNat]
theorem den_ne (p q : Rat) : ((p.den : Int) * q.den) ≠ 0 := by
  have h1 := p.den_nz
  have h2 := q.den_nz
  exact Int.mul_ne_zero (by omega) (by omega)
theorem mul_pow_le {x y a b : Nat} (h1 : x ≤ 2 ^ a) (h2 : y ≤ 2 ^ b) : x * y ≤ 2 ^ (a + b) := by
  rw [Nat.pow_add]
  exact Nat.mul_le_mul h1 h2
theorem Bd.add {a b : Nat} {p q : Rat} (hp : Bd a p) (hq : Bd b q) : Bd (a + b + 1) (p + q) := by
  have h := divInt_le (a := p.num * q.den + q.num * p.den) (den_ne p q)
  rw [add_divInt]
  have e1 : (p.num * q.den + q.num * p.den).natAbs ≤ 2 ^ (a + b) + 2 ^ (a + b) := by
    refine Nat.le_trans (Int.natAbs_add_le _ _) (Nat.add_le_add ?_ ?_)
    · rw [Int.natAbs_mul]; exact mul_pow_le hp.1 hq.2
    · rw [Int.natAbs_mul, Nat.add_comm a b]; exact mul_pow_le hq.1 hp.2
  have e2 : ((p.den : Int) * q.den).natAbs ≤ 2 ^ (a + b) := by
    rw [Int.natAbs_mul]
    exact mul_pow_le hp.2 hq.2
  have e3 : 2 ^ (a + b) + 2 ^ (a + b) = 2 ^ (a + b + 1) := by rw [Nat.pow_succ]; omega
  exact ⟨by rw [← e3]; exact Nat.le_trans h.1 e1, by rw [← e3]; omega⟩
theorem Bd.mul {a b : Nat} {p q : Rat} (hp : Bd a p) (hq : Bd b q) : Bd (a + b) (p * q) := by
  have h := divInt_le (a := p.num * q.num) (den_ne p q)
  rw [mul_divInt]
  refine ⟨Nat.le_trans h.1 ?_, Nat.le_trans h.2 ?_⟩
  · rw [Int.natAbs_mul]; exact mul_pow_le hp.1 hq.1
  · rw [Int.natAbs_mul]; exact mul_pow_le hp.2 hq.2
theorem Bd.zero (b : Nat) : Bd b 0 := ⟨Nat.zero_le _, Nat.one_le_two_pow⟩
theorem Bd.one (b : Nat) : Bd b 1 := ⟨Nat.one_le_two_pow, Nat.one_le_two_pow⟩
theorem BdL.nil (b : Nat) : BdL b [] := fun x hx => by cases hx
theorem BdL.cons {b : Nat} {x : Rat} {p : List Rat} (h : Bd b x) (t : BdL b p) : BdL b (x :: p) := fun y hy => by
  rcases List.mem_cons.mp hy with rfl | hy
  · exact h
  · exact t y hy
theorem BdL.trim {b : Nat} : ∀ {p : List Rat}, BdL b p → BdL b (AW.trim p)
  | [], h => h
  | a :: p, h => by
    unfold AW.trim
    split
    · exact BdL.nil b
    · exact BdL.cons (h a List.mem_cons_self) (BdL.trim fun x hx => h x (List.mem_cons_of_mem _ hx))
theorem BdL.add {a b : Nat} : ∀ {p q : List Rat}, BdL a p → BdL b q → BdL (a + b + 1) (addL p q)
  | [], q, _, h => h.mono (by omega)
  | x :: p, [], h, _ => BdL.mono h (by omega)
  | x :: p, y :: q, h1, h2 => BdL.cons ((h1 x List.mem_cons_self).add (h2 y List.mem_cons_self)) (BdL.add (fun z hz => h1 z (List.mem_cons_of_mem _ hz)) fun z hz => h2 z (List.mem_cons_of_mem _ hz))
theorem BdL.smul {a b : Nat} {x : Rat} {p : List Rat} (hx : Bd a x) (h : BdL b p) : BdL (a + b) (p.map fun y => x * y) := fun z hz => by
  obtain ⟨y, hy, rfl⟩ := List.mem_map.mp hz
  exact hx.mul (h y hy)
theorem BdL.mul {a b : Nat} : ∀ {p q : List Rat}, BdL a p → BdL b q → BdL (p.length * (a + b + 1)) (mulL p q)
  | [], q, _, _ => BdL.nil _
  | x :: p, q, h1, h2 => by
    have ih := BdL.mul (p := p) (fun z hz => h1 z (List.mem_cons_of_mem _ hz)) h2
    refine BdL.mono (BdL.add (BdL.smul (h1 x List.mem_cons_self) h2) (BdL.cons (Bd.zero _) ih)) ?_
    rw [List.length_cons, Nat.add_mul]
    omega
theorem Bd.hv {a b : Nat} {x : Rat} (hx : Bd b x) : ∀ {p : List Rat}, BdL a p → Bd (p.length * (a + b + 1)) (hv p x)
  | [], _ => Bd.zero _
  | y :: p, h => by
    have ih := Bd.hv hx (p := p) fun z hz => h z (List.mem_cons_of_mem _ hz)
    refine Bd.mono ((h y List.mem_cons_self).add (hx.mul ih)) ?_
    rw [List.length_cons, Nat.add_mul]
    omega

/-- short enough to be multiplied -/
def Ok (q : Rat) : Prop := Bd 40000000 q
theorem Ok.of {b : Nat} {q : Rat} (h : Bd b q) (l : b ≤ 40000000) : Ok q := h.mono l
theorem log2_of_le {n b : Nat} (h : n ≤ 2 ^ b) : n.log2 ≤ b := by
  by_cases h0 : n = 0
  · subst h0; rw [Nat.log2_zero]; omega
  · have := (Nat.log2_lt h0 (k := b + 1)).mpr (by have : 2 ^ b < 2 ^ (b + 1) := Nat.pow_lt_pow_right (by decide) (by omega); omega)
    omega
theorem mulOk_le {i j : Int} {a b : Nat} (h1 : i.natAbs ≤ 2 ^ a) (h2 : j.natAbs ≤ 2 ^ b) (h : a + b < 100000000) : mulOk i j = true := by
  have e1 := log2_of_le h1
  have e2 := log2_of_le h2
  exact decide_eq_true (.inr (.inr (by omega)))
theorem mulOk_small_r {i j : Int} (h : j.natAbs < 2 ^ 64) : mulOk i j = true := decide_eq_true (.inr (.inl h))
theorem mulOk_small_l {i j : Int} (h : i.natAbs < 2 ^ 64) : mulOk i j = true := decide_eq_true (.inl h)
theorem Ok.nn {p q : Rat} (h1 : Ok p) (h2 : Ok q) : mulOk p.num q.num = true := mulOk_le h1.1 h2.1 (by decide)
theorem Ok.nd {p q : Rat} (h1 : Ok p) (h2 : Ok q) : mulOk p.num q.den = true := mulOk_le h1.1 h2.2 (by decide)
theorem Ok.dd {p q : Rat} (h1 : Ok p) (h2 : Ok q) : mulOk p.den q.den = true := mulOk_le h1.2 h2.2 (by decide)

/-! ### places -/
theorem atI_nat {α : Type} {xs : List α} {n : Nat} : L2.atI xs (n : Int) = xs[n]? := by
  unfold L2.atI L2.ixN
  rw [if_pos (by omega)]
  by_cases h : n < xs.length
  · rw [if_pos (by omega)]
    simp
  · rw [if_neg (by omega)]
    simp only [Option.bind_none]
    rw [List.getElem?_eq_none (by omega)]
theorem atD_nat {xs : List D} {n : Nat} {d : D} (h : xs[n]? = some d) : atD xs (n : Int) = v1 d := by
  unfold atD
  rw [atI_nat, h]
@[simp] theorem atD_0 (d : D) (xs : List D) : atD (d :: xs) 0 = v1 d := atD_nat (n := 0) rfl
@[simp] theorem atD_1 (d e : D) (xs : List D) : atD (d :: e :: xs) 1 = v1 e := atD_nat (n := 1) rfl
@[simp] theorem atD_2 (d e f : D) (xs : List D) : atD (d :: e :: f :: xs) 2 = v1 f := atD_nat (n := 2) rfl
theorem atD_last {xs : List D} {d : D} : atD (xs ++ [d]) (-1) = v1 d := by
  unfold atD L2.atI L2.ixN
  rw [if_neg (by omega), if_pos (by simp; omega)]
  have : ((-1 : Int) + ((xs ++ [d]).length : Int)).toNat = xs.length := by simp; omega
  rw [this]
  simp

/-! ### equality -/
theorem eqv_fr (p q : Rat) : (fr p).eqv (fr q) = decide (p = q) := by
  have e : (fr p).eqv (fr q) = ((p.num == q.num) && (((p.den : Int) == (q.den : Int)) && true)) := rfl
  rw [e, Bool.eq_iff_iff]
  simp only [Bool.and_true, Bool.and_eq_true, beq_iff_eq, decide_eq_true_eq]
  constructor
  · rintro ⟨h1, h2⟩
    exact Rat.ext h1 (by omega)
  · rintro rfl
    exact ⟨rfl, rfl⟩
theorem eqvAll_map {α : Type} [DecidableEq α] {f : α → D} (h : ∀ x y, (f x).eqv (f y) = decide (x = y)) : ∀ xs ys : List α, PyData.eqvAll (xs.map f) (ys.map f) = decide (xs = ys)
  | [], [] => by simp [PyData.eqvAll]
  | [], _ :: _ => by simp [PyData.eqvAll]
  | _ :: _, [] => by simp [PyData.eqvAll]
  | x :: xs, y :: ys => by
    show ((f x).eqv (f y) && PyData.eqvAll (xs.map f) (ys.map f)) = _
    rw [h, eqvAll_map h xs ys, Bool.eq_iff_iff]
    simp
/-- data that == reads, nested n deep at most -/
def Shp (n : Nat) (d : D) : Prop := d.canLay0 = true ∧ d.depth ≤ n
theorem Shp.ok {n : Nat} {d : D} (h : Shp n d) (hn : n ≤ 64) : SeqAt.shaped d = true := by
  unfold SeqAt.shaped
  rw [h.1, Bool.true_and]
  exact decide_eq_true (Nat.le_trans h.2 hn)
theorem Shp.int (i : Int) : Shp 0 (.int i) := ⟨rfl, Nat.le_refl _⟩
theorem Shp.mono {m n : Nat} {d : D} (h : Shp m d) (l : m ≤ n) : Shp n d := ⟨h.1, Nat.le_trans h.2 l⟩
theorem shp_all {n : Nat} : ∀ {ds : List D}, (∀ d ∈ ds, Shp n d) → PyData.canLayAll0 ds = true ∧ PyData.depthAll ds ≤ n
  | [], _ => ⟨rfl, Nat.zero_le _⟩
  | d :: ds, h => by
    have h1 := h d List.mem_cons_self
    have h2 := shp_all (ds := ds) fun x hx => h x (List.mem_cons_of_mem _ hx)
    refine ⟨?_, ?_⟩
    · show (d.canLay0 && PyData.canLayAll0 ds) = true
      rw [h1.1, h2.1]
      rfl
    · show max d.depth (PyData.depthAll ds) ≤ n
      exact Nat.max_le.mpr ⟨h1.2, h2.2⟩
theorem Shp.tup {n : Nat} {ds : List D} (h : ∀ d ∈ ds, Shp n d) : Shp (n + 1) (.tuple ds) := by
  obtain ⟨h1, h2⟩ := shp_all h
  exact ⟨h1, Nat.succ_le_succ h2⟩
theorem Shp.lst {n : Nat} {ds : List D} (h : ∀ d ∈ ds, Shp n d) : Shp (n + 1) (.list ds) := by
  obtain ⟨h1, h2⟩ := shp_all h
  exact ⟨h1, Nat.succ_le_succ h2⟩
theorem Shp.fr (q : Rat) : Shp 1 (fr q) := Shp.tup fun d hd => by
  rcases List.mem_cons.mp hd with rfl | hd
  · exact Shp.int _
  · rcases List.mem_cons.mp hd with rfl | hd
    · exact Shp.int _
    · cases hd
/-- a row as data -/
def pol (p : List Rat) : D := .tuple (p.map fr)
theorem Shp.pol (p : List Rat) : Shp 2 (pol p) := Shp.tup fun d hd => by
  obtain ⟨x, _, rfl⟩ := List.mem_map.mp hd
  exact Shp.fr x
theorem eqv_pol (p q : List Rat) : (pol p).eqv (pol q) = decide (p = q) := eqvAll_map eqv_fr p q
@[simp] theorem eq_fr (p q : Rat) : sem2 .eq (fr p) (fr q) = v1 (.bool (decide (p = q))) := by
  rw [s2_eq, if_pos ⟨(Shp.fr p).ok (by decide), (Shp.fr q).ok (by decide)⟩, eqv_fr]
@[simp] theorem ne_fr (p q : Rat) : sem2 .ne (fr p) (fr q) = v1 (.bool (!decide (p = q))) := by
  rw [s2_ne, if_pos ⟨(Shp.fr p).ok (by decide), (Shp.fr q).ok (by decide)⟩, eqv_fr]
@[simp] theorem eq_pol (p q : List Rat) : sem2 .eq (pol p) (pol q) = v1 (.bool (decide (p = q))) := by
  rw [s2_eq, if_pos ⟨(Shp.pol p).ok (by decide), (Shp.pol q).ok (by decide)⟩, eqv_pol]
@[simp] theorem ne_pol (p q : List Rat) : sem2 .ne (pol p) (pol q) = v1 (.bool (!decide (p = q))) := by
  rw [s2_ne, if_pos ⟨(Shp.pol p).ok (by decide), (Shp.pol q).ok (by decide)⟩, eqv_pol]
@[simp] theorem idx_fr0 (q : Rat) : sem2 .idx (fr q) (.int 0) = v1 (.int q.num) := by unfold fr; rw [s2_idxt, atD_0]
@[simp] theorem idx_fr1 (q : Rat) : sem2 .idx (fr q) (.int 1) = v1 (.int q.den) := by unfold fr; rw [s2_idxt, atD_1]

section
variable {G : Nat → D} {c : Nat → List Sl → R (D × Bool)} {T : List Fn} {nm : Nm}
def SpPlus (c : Nat → List Sl → R (D × Bool)) (j : Nat) : Prop := ∀ p q : Rat, Ok p → Ok q → c j [.va (fr p), .va (fr q)] = va (fr (p + q))
def SpBy (c : Nat → List Sl → R (D × Bool)) (j : Nat) : Prop := ∀ p q : Rat, Ok p → Ok q → c j [.va (fr p), .va (fr q)] = va (fr (p * q))
theorem plus_ok {jf : Nat} (hf : SpFrac c jf) {p q : Rat} (hp : Ok p) (hq : Ok q) : bo G c T (b_plus jf) [.va (fr p), .va (fr q)] 0 = va (fr (p + q)) := by
  unfold bo b_plus
  have h := hf (p.num * q.den + q.num * p.den) (p.den * q.den) (den_ne p q)
  rw [← add_divInt] at h
  simp [val, hp.nd hq, hq.nd hp, hp.dd hq, h]
theorem by_ok {jf : Nat} (hf : SpFrac c jf) {p q : Rat} (hp : Ok p) (hq : Ok q) : bo G c T (b_by jf) [.va (fr p), .va (fr q)] 0 = va (fr (p * q)) := by
  unfold bo b_by
  have h := hf (p.num * q.num) (p.den * q.den) (den_ne p q)
  rw [← mul_divInt] at h
  simp [val, hp.nn hq, hp.dd hq, h]
end
end AW

/-! AwPol: the polynomials' defs. -/
namespace AW
open PySem PySem.Spec PyProof.Rows

/-! ### loops by what stays true -/
section
variable {t : En → R Bool} {b : En → R Fl} {g : D → En → R En}
theorem whileR_then {P : R Fl → Prop} {en : En} (I : En → Prop) (m : En → Nat) (step : ∀ en, I en → (t en = .ok false ∧ P (.ok (.nx en))) ∨ (t en = .ok true ∧ ∃ en', b en = .ok (.nx en') ∧ I en' ∧ m en' < m en)) (init : I en) : P (whileR t b en) := by
  generalize hk : m en = k
  induction k using Nat.strongRecOn generalizing en with
  | _ k ih =>
    subst hk
    rcases step en init with ⟨h1, h2⟩ | ⟨h1, en', h2, h3, h4⟩
    · rw [whileR_stop h1]; exact h2
    · rw [whileR_step h1, h2]
      exact ih _ h4 h3 rfl
theorem forR_go {I : Nat → En → Prop} : ∀ {ds : List D} {k : Nat} {en : En}, (∀ i en d, ds[i]? = some d → I (k + i) en → ∃ en', ((g d en).bind b = .ok (.nx en') ∨ (g d en).bind b = .ok (.ct en')) ∧ I (k + i + 1) en') → I k en → ∃ en', forR g b ds en = .ok (.nx en') ∧ I (k + ds.length) en'
  | [], k, en, _, h => ⟨en, rfl, h⟩
  | d :: ds, k, en, step, h => by
    obtain ⟨e1, h1, h2⟩ := step 0 en d rfl h
    have rest := forR_go (ds := ds) (k := k + 1) (en := e1) (I := I) (fun i en d hd hI => by
      have z := step (i + 1) en d hd (by rw [show k + (i + 1) = k + 1 + i by omega]; exact hI)
      rw [show k + (i + 1) + 1 = k + 1 + i + 1 by omega] at z
      exact z) h2
    obtain ⟨e2, h3, h4⟩ := rest
    refine ⟨e2, ?_, by rw [List.length_cons, show k + (ds.length + 1) = k + 1 + ds.length by omega]; exact h4⟩
    rw [forR_cons]
    cases hg : g d en with
    | no => rw [hg] at h1; rcases h1 with h1 | h1 <;> cases h1
    | ex c => rw [hg] at h1; rcases h1 with h1 | h1 <;> cases h1
    | ok e0 =>
      rw [hg] at h1
      have h1 : b e0 = .ok (.nx e1) ∨ b e0 = .ok (.ct e1) := h1
      show (b e0).bind (nextFl (forR g b ds)) = _
      rcases h1 with h1 | h1
      · rw [h1]; exact h3
      · rw [h1]; exact h3
theorem forR_then {P : R Fl → Prop} {ds : List D} {en : En} (I : Nat → En → Prop) (step : ∀ i en d, ds[i]? = some d → I i en → ∃ en', ((g d en).bind b = .ok (.nx en') ∨ (g d en).bind b = .ok (.ct en')) ∧ I (i + 1) en') (init : I 0 en) (fin : ∀ en', I ds.length en' → P (.ok (.nx en'))) : P (forR g b ds en) := by
  obtain ⟨en', h1, h2⟩ := forR_go (I := I) (k := 0) (ds := ds) (en := en) (fun i en d hd hI => by
    rw [Nat.zero_add] at hI ⊢
    exact step i en d hd hI) init
  rw [h1]
  rw [Nat.zero_add] at h2
  exact fin en' h2
end
theorem compL_of {α : Type} {f : D → R (Option D)} {e h : α → D} : ∀ {xs : List α}, (∀ x ∈ xs, f (e x) = .ok (some (h x))) → compL f (xs.map e) = .ok (xs.map h)
  | [], _ => rfl
  | x :: xs, hx => by
    show (f (e x)).bind _ = _
    rw [hx x List.mem_cons_self]
    show (compL f (xs.map e)).bind _ = _
    rw [compL_of fun y hy => hx y (List.mem_cons_of_mem _ hy)]
    rfl
theorem zipD_map {α β : Type} {e : α → D} {h : β → D} (xs : List α) (ys : List β) : zipD (xs.map e) (ys.map h) = (xs.zip ys).map fun p => .tuple [e p.1, h p.2] := by
  unfold zipD
  rw [List.zipWith_map, List.zip, List.map_zipWith]
def enumN {α : Type} (k : Nat) : List α → List (Nat × α)
  | [] => []
  | x :: xs => (k, x) :: enumN (k + 1) xs
theorem enumD_go (xs : List D) : ∀ k : Nat, List.zipWith (fun (k : Nat) x => PyData.tuple [.int (k : Nat), x]) (List.range' k xs.length) xs = (enumN k xs).map fun p => PyData.tuple [.int (p.1 : Nat), p.2] := by
  induction xs with
  | nil => intro k; rfl
  | cons x xs ih =>
    intro k
    rw [List.length_cons, List.range'_succ, List.zipWith_cons_cons, ih (k + 1)]
    rfl
theorem enumN_map {α β : Type} (e : α → β) (xs : List α) : ∀ k : Nat, enumN k (xs.map e) = (enumN k xs).map fun p => (p.1, e p.2) := by
  induction xs with
  | nil => intro k; rfl
  | cons x xs ih => intro k; show (k, e x) :: enumN (k + 1) (xs.map e) = _; rw [ih]; rfl
theorem enumD_map {α : Type} {e : α → D} (xs : List α) : enumD (xs.map e) = (enumN 0 xs).map fun p => .tuple [.int (p.1 : Nat), e p.2] := by
  unfold enumD
  rw [List.range_eq_range', enumD_go, enumN_map, List.map_map]
  rfl
theorem enumN_len {α : Type} (xs : List α) : ∀ k : Nat, (enumN k xs).length = xs.length := by
  induction xs with
  | nil => intro k; rfl
  | cons x xs ih => intro k; show (enumN (k + 1) xs).length + 1 = _; rw [ih]; rfl
theorem enumN_get {α : Type} (xs : List α) : ∀ (k i : Nat), (enumN k xs)[i]? = (xs[i]?).map fun x => (k + i, x) := by
  induction xs with
  | nil => intro k i; simp [enumN]
  | cons x xs ih =>
    intro k i
    cases i with
    | zero => simp [enumN]
    | succ i =>
      show (enumN (k + 1) xs)[i]? = _
      rw [ih]
      simp
      cases xs[i]? with
      | none => rfl
      | some y => simp; omega

/-! ### trimmed -/
theorem cutL_to (xs : List D) (k : Nat) : cutL xs none (some (k : Int)) = xs.take k := by
  unfold cutL
  simp only [HT.sIx]
  rw [if_neg (by omega)]
  simp
theorem cutL_from (xs : List D) (k : Nat) : cutL xs (some (k : Int)) none = xs.drop k := by
  unfold cutL
  simp only [HT.sIx]
  rw [if_neg (by omega), Int.toNat_natCast]
  by_cases h : k ≤ xs.length
  · rw [Nat.min_eq_left h, List.take_of_length_le (by rw [List.length_drop]; omega)]
  · rw [Nat.min_eq_right (by omega), List.drop_eq_nil_of_le (Nat.le_refl _), List.drop_eq_nil_of_le (by omega)]
    simp
theorem take_snoc {p : List Rat} {k : Nat} {a : Rat} (h : p[k]? = some a) : p.take (k + 1) = p.take k ++ [a] := by
  rw [List.take_succ, h]
  rfl
section
variable {G : Nat → D} {c : Nat → List Sl → R (D × Bool)} {T : List Fn} {nm : Nm}
def SpTrim (c : Nat → List Sl → R (D × Bool)) (j : Nat) : Prop := (∀ p : List Rat, c j [.va (.list (p.map fr))] = va (pol (trim p))) ∧ ∀ p : List Rat, c j [.va (pol p)] = va (pol (trim p))
theorem trimmed_go {kN : Nat} (hG : G kN = fr 0) (p : List Rat) (d : D) (h1 : sem1 .len d = v1 (.int p.length)) (h2 : ∀ i : Int, sem2 .idx d (.int i) = atD (p.map fr) i)
    (h3 : ∀ k : Nat, ((semSl d none (some (k : Int))).bind fun x => sem1 .tuple x.1) = v1 (.tuple ((p.map fr).take k))) : bo G c T (b_trimmed kN) [.va d] 1 = va (pol (trim p)) := by
  unfold bo b_trimmed
  simp [val, h1, es_whl]
  refine whileR_then (P := fun r => outF (r.bind _) = _) (I := fun en => ∃ k : Nat, en = [.va d, .va (.int k)] ∧ k ≤ p.length ∧ trim (p.take k) = trim p) (m := fun en => match en with
    | [_, .va (.int k)] => k.toNat
    | _ => 0) ?_ ⟨p.length, rfl, Nat.le_refl _, by rw [List.take_length]⟩
  rintro en ⟨k, rfl, hk, ht⟩
  cases k with
  | zero =>
    left
    refine ⟨by simp [val], ?_⟩
    have h3 := h3 0
    cases hs : semSl d none (some ((0 : Nat) : Int)) with
    | no => rw [hs] at h3; cases h3
    | ex e => rw [hs] at h3; cases h3
    | ok x =>
      rw [hs] at h3
      have h3 : sem1 .tuple x.1 = v1 (.tuple ((p.map fr).take 0)) := h3
      have hs' : semSl d none (some 0) = .ok x := hs
      simp [val, hs', h3]
      rw [← ht]
      rfl
  | succ k =>
    have hk' : k < p.length := by omega
    have e1 : (p.map fr)[k]? = some (fr p[k]) := by simp [hk']
    have e2 : ((k : Int) + 1 - 1) = (k : Int) := by omega
    have e3 := atD_nat e1
    by_cases h0 : p[k] = 0
    · right
      refine ⟨by simp [val, h2, e2, e3, hG, h0], [.va d, .va (.int k)], by simp [val, e2], ⟨k, rfl, by omega, ?_⟩, by simp⟩
      rw [← ht, take_snoc (a := p[k]) (by simp [hk']), trim_snoc, if_pos h0]
    · left
      refine ⟨by simp [val, h2, e2, e3, hG, h0], ?_⟩
      have h3 := h3 (k + 1)
      cases hs : semSl d none (some ((k + 1 : Nat) : Int)) with
      | no => rw [hs] at h3; cases h3
      | ex e => rw [hs] at h3; cases h3
      | ok x =>
        rw [hs] at h3
        have h3 : sem1 .tuple x.1 = v1 (.tuple ((p.map fr).take (k + 1))) := h3
        have hs' : semSl d none (some ((k : Int) + 1)) = .ok x := hs
        simp [val, hs', h3]
        rw [← ht, take_snoc (a := p[k]) (by simp [hk']), trim_snoc, if_neg h0, ← take_snoc (a := p[k]) (by simp [hk'])]
        simp [pol]
theorem trimmed_ok {kN : Nat} (hG : G kN = fr 0) (p : List Rat) : bo G c T (b_trimmed kN) [.va (.list (p.map fr))] 1 = va (pol (trim p)) :=
  trimmed_go hG p _ (by simp) (fun i => by simp) fun k => by
    show (R.ok (PyData.list (cutL (p.map fr) none (some (k : Int))), true)).bind _ = _
    rw [cutL_to]
    simp
theorem trimmed_ok' {kN : Nat} (hG : G kN = fr 0) (p : List Rat) : bo G c T (b_trimmed kN) [.va (pol p)] 1 = va (pol (trim p)) :=
  trimmed_go hG p _ (by simp [pol]) (fun i => by simp [pol]) fun k => by
    show (v1 (PyData.tuple (cutL (p.map fr) none (some (k : Int))))).bind _ = _
    rw [cutL_to]
    simp
end
end AW

/-! AwPo2: sums, products and values of rows. -/
namespace AW
open PySem PySem.Spec PyProof.Rows

def OkL (p : List Rat) : Prop := ∀ x ∈ p, Ok x
def Ln (p : List Rat) : Prop := p.length ≤ 100000
theorem OkL.of {b : Nat} {p : List Rat} (h : BdL b p) (l : b ≤ 40000000) : OkL p := fun x hx => (h x hx).mono l
theorem Ok.zero : Ok 0 := Bd.zero _
theorem Ok.one : Ok 1 := Bd.one _
theorem ser_zip : ∀ a b : List Rat, a.length = b.length → ser ((a.zip b).map fun (p : Rat × Rat) => p.1 + p.2) = ser a + ser b
  | [], [], _ => by show (0 : PS) = 0 + 0; grind
  | [], _ :: _, h => by simp at h
  | _ :: _, [], h => by simp at h
  | x :: a, y :: b, h => by
    show PS.C (x + y) + PS.X * ser ((a.zip b).map fun (p : Rat × Rat) => p.1 + p.2) = PS.C x + PS.X * ser a + (PS.C y + PS.X * ser b)
    rw [ser_zip a b (by simpa using h), PS.C_add]
    grind
theorem ser_pad (p : List Rat) (k : Nat) : ser (p ++ List.replicate k 0) = ser p := by
  rw [ser_append, ser_zeros]
  grind
/-- a row lengthened with noughts -/
theorem rep_fr (k : Nat) : (List.replicate k [fr 0]).flatten = (List.replicate k (0 : Rat)).map fr := by
  induction k with
  | zero => rfl
  | succ k ih => rw [List.replicate_succ, List.replicate_succ, List.flatten_cons, ih]; rfl
theorem pad_fr (p : List Rat) (k : Nat) : p.map fr ++ (List.replicate k [fr 0]).flatten = (p ++ List.replicate k 0).map fr := by
  rw [rep_fr, List.map_append]
theorem OkL.pad {p : List Rat} (h : OkL p) (k : Nat) : OkL (p ++ List.replicate k 0) := fun x hx => by
  rcases List.mem_append.mp hx with hx | hx
  · exact h x hx
  · rw [(List.mem_replicate.mp hx).2]; exact Ok.zero
theorem zip_pad (p q : List Rat) : ser (((p ++ List.replicate (max p.length q.length - p.length) 0).zip (q ++ List.replicate (max p.length q.length - q.length) 0)).map fun (z : Rat × Rat) => z.1 + z.2) = ser p + ser q := by
  rw [ser_zip _ _ (by simp; omega), ser_pad, ser_pad]
theorem cmp_of {G : Nat → D} {c : Nat → List Sl → R (D × Bool)} {dfl : Nat → Nat → List D} {elt : E} {tg : Tg} {it : It} {ifs : Eo} {own : List (Str × Nat)} {en : En} {α : Type} {xs : List α} {e h : α → D} (hi : evI G c dfl it en = .ok (xs.map e)) (hl : xs.length ≤ line)
    (hx : ∀ x ∈ xs, ((bindT tg (e x) (wipe en (own.map (·.2)))).bind fun en' => (evB G c dfl ifs en').nox.bind fun b => if b then (evF G c dfl elt en').nox.bind fun y => .ok (some y.1) else .ok none) = .ok (some (h x))) :
    evF G c dfl (.cmp elt tg it ifs own) en = .ok (.list (xs.map h), true) := by
  rw [ev_cmp, hi]
  show ((compL _ (xs.map e)).bind _) = _
  rw [compL_of hx]
  show (if (xs.map e).length ≤ line then _ else _) = _
  rw [if_pos (by rw [List.length_map]; exact hl)]
section
variable {G : Nat → D} {c : Nat → List Sl → R (D × Bool)} {T : List Fn} {nm : Nm}
def SpSum (c : Nat → List Sl → R (D × Bool)) (j : Nat) : Prop := ∀ p q : List Rat, OkL p → OkL q → Ln p → Ln q → c j [.va (pol p), .va (pol q)] = va (pol (trim (addL p q)))
theorem sum_ok {kN jt jp : Nat} (hG : G kN = fr 0) (ht : SpTrim c jt) (hp : SpPlus c jp) {p q : List Rat} (h1 : OkL p) (h2 : OkL q) (l1 : Ln p) (l2 : Ln q) :
    bo G c T (b_poly_sum kN jt jp) [.va (pol p), .va (pol q)] 5 = va (pol (trim (addL p q))) := by
  unfold Ln at l1 l2
  have m1 : max (p.length : Int) (q.length : Int) - (p.length : Int) = ((max p.length q.length - p.length : Nat) : Int) := by omega
  have m2 : max (p.length : Int) (q.length : Int) - (q.length : Int) = ((max p.length q.length - q.length : Nat) : Int) := by omega
  have hn : max p.length q.length ≤ 100000 := by omega
  have e0 : (max p.length q.length - p.length) + 0 ≤ 100000 := by omega
  have e0' : (max p.length q.length - q.length) + 0 ≤ 100000 := by omega
  have z : zipD ((p ++ List.replicate (max p.length q.length - p.length) 0).map fr) ((q ++ List.replicate (max p.length q.length - q.length) 0).map fr) = _ := zipD_map _ _
  have hl := zip_pad p q
  have hlen : ((p ++ List.replicate (max p.length q.length - p.length) 0).zip (q ++ List.replicate (max p.length q.length - q.length) 0)).length ≤ 100000 := by simp; omega
  have k1 : OkL (p ++ List.replicate (max p.length q.length - p.length) 0) := h1.pad _
  have k2 : OkL (q ++ List.replicate (max p.length q.length - q.length) 0) := h2.pad _
  have len1 : p.length + (max p.length q.length - p.length) ≤ 100000 := by omega
  have len2 : q.length + (max p.length q.length - q.length) ≤ 100000 := by omega
  unfold bo b_poly_sum
  generalize max p.length q.length - p.length = n at *
  generalize max p.length q.length - q.length = m at *
  have c1 : (n : Int) ≤ 1000000 := by omega
  have c2 : (m : Int) ≤ 1000000 := by omega
  have c3 : (-1000000 : Int) ≤ (n : Int) := by omega
  have c4 : (-1000000 : Int) ≤ (m : Int) := by omega
  have c5 : n ≤ line := by unfold line; omega
  have c6 : m ≤ line := by unfold line; omega
  have c7 : p.length + n ≤ line := by unfold line; omega
  have c8 : q.length + m ≤ line := by unfold line; omega
  have c9 : (1 : Nat) ≤ line := by unfold line; omega
  have pd1 := pad_fr p n
  have pd2 := pad_fr q m
  rw [rep_fr] at pd1 pd2
  have r1 : p.map fr ++ List.replicate n (fr 0) = (p ++ List.replicate n 0).map fr := by simp
  have r2 : q.map fr ++ List.replicate m (fr 0) = (q ++ List.replicate m 0).map fr := by simp
  have c10 : ((p ++ List.replicate n 0).zip (q ++ List.replicate m 0)).length ≤ line := Nat.le_trans hlen (by unfold line; omega)
  simp [val, pol, hG, m1, m2, c1, c2, c3, c4, c5, c6, c7, c8, c9, rep_fr]
  rw [r1, r2, cmp_of (xs := (p ++ List.replicate n 0).zip (q ++ List.replicate m 0)) (e := fun (z : Rat × Rat) => .tuple [fr z.1, fr z.2]) (h := fun (z : Rat × Rat) => fr (z.1 + z.2)) ?_ c10 ?_]
  · have e : ((p ++ List.replicate n 0).zip (q ++ List.replicate m 0)).map (fun (z : Rat × Rat) => fr (z.1 + z.2)) = (((p ++ List.replicate n 0).zip (q ++ List.replicate m 0)).map fun (z : Rat × Rat) => z.1 + z.2).map fr := by rw [List.map_map]; rfl
    rw [e]
    simp only [R.bind_ok, List.nil_append, List.append_nil]
    rw [ht.1]
    rw [trim_ext (hl.trans (ser_add p q).symm)]
    rfl
  · simp only [evI_zip, ev_var, val]
    show zipR (.list _) (.list _) = _
    exact congrArg R.ok z
  · intro w hw
    obtain ⟨h3, h4⟩ := List.of_mem_zip (a := w.1) (b := w.2) hw
    have := hp w.1 w.2 (k1 _ h3) (k2 _ h4)
    simp [val, wipe, this]
end
end AW

/-! AwPo3: a row times a number, its slope, its value, a row put into a row. -/
namespace AW
open PySem PySem.Spec PyProof.Rows
/-- the slope's row -/
def derL (p : List Rat) : List Rat := (enumN 0 (p.drop 1)).map fun (z : Nat × Rat) => (((z.1 + 1 : Nat) : Int) : Rat) * z.2
theorem Bd.int {b : Nat} {i : Int} (h : i.natAbs ≤ 2 ^ b) : Bd b (i : Rat) := ⟨h, Nat.one_le_two_pow⟩
theorem divInt_one (i : Int) : Rat.divInt i 1 = (i : Rat) := by
  rw [Rat.divInt_eq_div]
  show (i : Rat) * (1 : Rat)⁻¹ = _
  grind
section
variable {G : Nat → D} {c : Nat → List Sl → R (D × Bool)} {T : List Fn} {nm : Nm}
def SpScaled (c : Nat → List Sl → R (D × Bool)) (j : Nat) : Prop := ∀ (p : List Rat) (a : Rat), OkL p → Ok a → Ln p → c j [.va (pol p), .va (fr a)] = va (pol (trim (p.map fun x => a * x)))
theorem scaled_ok {jt jb : Nat} (ht : SpTrim c jt) (hb : SpBy c jb) {p : List Rat} {a : Rat} (h1 : OkL p) (h2 : Ok a) (l1 : Ln p) : bo G c T (b_scaled jt jb) [.va (pol p), .va (fr a)] 1 = va (pol (trim (p.map fun x => a * x))) := by
  unfold bo b_scaled
  unfold Ln at l1
  simp [val]
  rw [cmp_of (xs := p) (e := fr) (h := fun x => fr (a * x)) ?_ (by unfold line; omega) ?_]
  · have e : p.map (fun x => fr (a * x)) = (p.map fun x => a * x).map fr := by rw [List.map_map]; rfl
    rw [e]
    simp only [R.bind_ok]
    rw [ht.1]
    rfl
  · simp [val, pol]
  · intro x hx
    simp [val, wipe, hb a x h2 (h1 x hx)]
def SpSlope (c : Nat → List Sl → R (D × Bool)) (j : Nat) : Prop := ∀ p : List Rat, OkL p → Ln p → c j [.va (pol p)] = va (pol (trim (derL p)))
theorem slope_ok {jt jb jf : Nat} (ht : SpTrim c jt) (hb : SpBy c jb) (hf : SpFrac c jf) (hd : dflT T jf 1 = [.int 1]) {p : List Rat} (h1 : OkL p) (l1 : Ln p) : bo G c T (b_poly_slope jt jb jf) [.va (pol p)] 2 = va (pol (trim (derL p))) := by
  unfold bo b_poly_slope
  unfold Ln at l1
  simp [val]
  rw [cmp_of (xs := enumN 0 (p.drop 1)) (e := fun (z : Nat × Rat) => .tuple [.int (z.1 : Nat), fr z.2]) (h := fun (z : Nat × Rat) => fr ((((z.1 + 1 : Nat) : Int) : Rat) * z.2)) ?_ (by rw [enumN_len, List.length_drop]; unfold line; omega) ?_]
  · have e : (enumN 0 (p.drop 1)).map (fun (z : Nat × Rat) => fr ((((z.1 + 1 : Nat) : Int) : Rat) * z.2)) = (derL p).map fr := by unfold derL; rw [List.map_map]; rfl
    rw [e]
    simp only [R.bind_ok]
    rw [ht.1]
    rfl
  · have e : cutL (p.map fr) (some 1) none = (p.drop 1).map fr := (cutL_from _ 1).trans (List.map_drop).symm
    simp [val, pol, semSl, e]
    rw [← List.map_tail, enumD_map]
  · intro z hz
    obtain ⟨i, hi⟩ := List.mem_iff_getElem?.mp hz
    rw [enumN_get] at hi
    cases hx : (p.drop 1)[i]? with
    | none => rw [hx] at hi; cases hi
    | some x =>
      rw [hx] at hi
      have hi : (0 + i, x) = z := Option.some.inj hi
      subst hi
      have hx' := hx
      rw [List.getElem?_drop] at hx'
      have hm : x ∈ p := List.mem_of_getElem? hx'
      have hlt := (List.getElem?_eq_some_iff.mp hx').1
      have hsz : (2 : Nat) ^ 20 = 1048576 := by decide
      generalize hk : 0 + i = k at *
      have ek : ((k + 1 : Nat) : Int) = (k : Int) + 1 := by omega
      have e1 := hf ((k + 1 : Nat) : Int) 1 (by decide)
      rw [divInt_one] at e1
      have o1 : Ok (((k + 1 : Nat) : Int) : Rat) := Ok.of (Bd.int (b := 20) (by omega)) (by decide)
      have e2 := hb _ x o1 (h1 x hm)
      rw [ek] at e1 e2
      simp only [ek]
      simp [val, wipe, hd, -Rat.intCast_add] at e1 e2 ⊢
      rw [e1]
      simp [-Rat.intCast_add]
      rw [e2]
      simp [-Rat.intCast_add]
end
end AW

/-! AwPo4: the product of two rows. -/
namespace AW
open PySem PySem.Spec PyProof.Rows
theorem forR_ex {g : D → En → R En} {b : En → R Fl} {ds : List D} {en : En} {Q : En → Prop} (I : Nat → En → Prop) (init : I 0 en) (step : ∀ i en d, ds[i]? = some d → I i en → ∃ en', ((g d en).bind b = .ok (.nx en') ∨ (g d en).bind b = .ok (.ct en')) ∧ I (i + 1) en') (fin : ∀ en', I ds.length en' → Q en') : ∃ en', forR g b ds en = .ok (.nx en') ∧ Q en' := by
  obtain ⟨en', h1, h2⟩ := forR_go (I := I) (k := 0) (ds := ds) (en := en) (fun i en d hd hI => by
    rw [Nat.zero_add] at hI ⊢
    exact step i en d hd hI) init
  rw [Nat.zero_add] at h2
  exact ⟨en', h1, fin en' h2⟩
theorem setD_nat {ds : List D} {n : Nat} {d : D} (h : n < ds.length) : setD ds (n : Int) d = .ok (ds.set n d) := by
  unfold setD L2.ixN
  rw [if_pos (by omega), if_pos (by omega)]
  simp
theorem ser_set : ∀ (F : List Rat) (m : Nat) (v : Rat), m < F.length → ser (F.set m v) = ser F + PS.X ^ m * PS.C (v - F.getD m 0)
  | [], m, v, h => by simp at h
  | a :: F, 0, v, _ => by
    show PS.C v + PS.X * ser F = PS.C a + PS.X * ser F + PS.X ^ 0 * PS.C (v - a)
    rw [show v - a = v + -a by grind, PS.C_add, PS.C_neg]
    grind
  | a :: F, m + 1, v, h => by
    show PS.C a + PS.X * ser (F.set m v) = PS.C a + PS.X * ser F + PS.X ^ (m + 1) * PS.C (v - F.getD m 0)
    rw [ser_set F m v (by simpa using h)]
    grind
theorem ser_take_succ {p : List Rat} {i : Nat} {x : Rat} (h : p[i]? = some x) : ser (p.take (i + 1)) = ser (p.take i) + PS.X ^ i * PS.C x := by
  have hi := (List.getElem?_eq_some_iff.mp h).1
  rw [take_snoc h, ser_append, List.length_take, Nat.min_eq_left (by omega)]
  show _ + _ * (PS.C x + PS.X * 0) = _
  grind
section
variable {G : Nat → D} {c : Nat → List Sl → R (D × Bool)} {T : List Fn} {nm : Nm}
end
end AW

/-! AwDg: degrees of series that end; division with rest; divisors. -/
namespace AW
open PS
/-- nothing from place n on -/
def Lt (s : PS) (n : Nat) : Prop := ∀ k, n ≤ k → s.f k = 0
theorem Lt.mono {s : PS} {m n : Nat} (h : Lt s m) (l : m ≤ n) : Lt s n := fun k hk => h k (Nat.le_trans l hk)
theorem Lt.zero (n : Nat) : Lt 0 n := fun k _ => zero_f k
theorem Lt.add {a b : PS} {n : Nat} (h1 : Lt a n) (h2 : Lt b n) : Lt (a + b) n := fun k hk => by rw [add_f, h1 k hk, h2 k hk]; grind
theorem Lt.sub {a b : PS} {n : Nat} (h1 : Lt a n) (h2 : Lt b n) : Lt (a - b) n := fun k hk => by rw [sub_f, h1 k hk, h2 k hk]; grind
theorem Lt.neg {a : PS} {n : Nat} (h1 : Lt a n) : Lt (-a) n := fun k hk => by rw [neg_f, h1 k hk]; grind
theorem Lt.C (c : Rat) : Lt (PS.C c) 1 := fun k hk => by show (if k = 0 then c else 0) = 0; rw [if_neg (by omega)]
theorem Lt.one : Lt 1 1 := Lt.C 1
theorem Lt.smul {a : PS} {n : Nat} (c : Rat) (h : Lt a n) : Lt (PS.C c * a) n := fun k hk => by rw [C_mul, h k hk]; grind
theorem Lt.X_mul {a : PS} {n : Nat} (h : Lt a n) : Lt (X * a) (n + 1) := fun k hk => by
  rw [PS.X_mul]
  cases k with
  | zero => rfl
  | succ k => exact h k (by omega)
theorem Lt.nil {a : PS} (h : Lt a 0) : a = 0 := by ext k; rw [h k (by omega), zero_f]
theorem Lt.ext {a b : PS} {n : Nat} (h1 : Lt a n) (h2 : Lt b n) (h : ∀ k, k < n → a.f k = b.f k) : a = b := by
  ext k
  rcases Nat.lt_or_ge k n with hk | hk
  · exact h k hk
  · rw [h1 k hk, h2 k hk]
/-- without the first one -/
def sh (a : PS) : PS := ⟨fun k => a.f (k + 1)⟩
theorem sh_eq (a : PS) : a = PS.C (a.f 0) + X * sh a := by
  ext k
  rw [add_f, PS.X_mul]
  cases k with
  | zero => show _ = (if 0 = 0 then a.f 0 else 0) + 0; rw [if_pos rfl]; grind
  | succ k => show _ = (if k + 1 = 0 then a.f 0 else 0) + a.f (k + 1); rw [if_neg (by omega)]; grind
theorem Lt.sh {a : PS} {n : Nat} (h : Lt a (n + 1)) : Lt (AW.sh a) n := fun k hk => h (k + 1) (by omega)
theorem Lt.mul {b : PS} {n : Nat} (h2 : Lt b n) : ∀ {m : Nat} {a : PS}, Lt a m → Lt (a * b) (m + n - 1)
  | 0, a, h => by rw [h.nil, show (0 : PS) * b = 0 by grind]; exact Lt.zero _
  | m + 1, a, h => by
    have ih := Lt.mul h2 h.sh
    cases n with
    | zero => rw [h2.nil, show a * 0 = 0 by grind]; exact Lt.zero _
    | succ n =>
      rw [sh_eq a, show (PS.C (a.f 0) + X * AW.sh a) * b = PS.C (a.f 0) * b + X * (AW.sh a * b) by grind]
      cases m with
      | zero =>
        rw [h.sh.nil, show X * (0 * b) = 0 by grind]
        exact (h2.smul _).add (Lt.zero _) |>.mono (by omega)
      | succ m => exact Lt.add ((h2.smul _).mono (by omega)) (ih.X_mul.mono (by omega))
theorem Lt.mul' {a b : PS} {m n k : Nat} (h1 : Lt a m) (h2 : Lt b n) (l : m + n ≤ k + 1) : Lt (a * b) k := (Lt.mul h2 h1).mono (by omega)
theorem top_mul {b : PS} {n : Nat} (h2 : Lt b (n + 1)) : ∀ {m : Nat} {a : PS}, Lt a (m + 1) → (a * b).f (m + n) = a.f m * b.f n
  | 0, a, h => by
    have e : a = PS.C (a.f 0) := by
      have := sh_eq a
      rw [h.sh.nil] at this
      rw [show PS.C (a.f 0) + X * 0 = PS.C (a.f 0) by grind] at this
      exact this
    rw [e, C_mul, Nat.zero_add]
    show _ = (if 0 = 0 then a.f 0 else 0) * b.f n
    rw [if_pos rfl]
  | m + 1, a, h => by
    have ih := top_mul h2 h.sh
    have e := sh_eq a
    have e2 : a * b = PS.C (a.f 0) * b + X * (sh a * b) := by
      conv => lhs; rw [e]
      grind
    rw [e2, add_f, C_mul, PS.X_mul, show m + 1 + n = m + n + 1 by omega]
    show a.f 0 * b.f (m + n + 1) + (sh a * b).f (m + n) = _
    rw [ih, h2 _ (by omega)]
    show _ + a.f (m + 1) * b.f n = _
    grind
/-- a series that ends -/
def Pl (s : PS) : Prop := ∃ n, Lt s n
theorem Pl.zero : Pl 0 := ⟨0, Lt.zero 0⟩
theorem Pl.one : Pl 1 := ⟨1, Lt.one⟩
theorem Pl.C (c : Rat) : Pl (PS.C c) := ⟨1, Lt.C c⟩
theorem Pl.X : Pl X := ⟨2, fun k hk => by show (if k = 1 then (1 : Rat) else 0) = 0; rw [if_neg (by omega)]⟩
theorem Pl.add {a b : PS} : Pl a → Pl b → Pl (a + b) := fun ⟨m, h⟩ ⟨n, k⟩ => ⟨max m n, (h.mono (Nat.le_max_left _ _)).add (k.mono (Nat.le_max_right _ _))⟩
theorem Pl.sub {a b : PS} : Pl a → Pl b → Pl (a - b) := fun ⟨m, h⟩ ⟨n, k⟩ => ⟨max m n, (h.mono (Nat.le_max_left _ _)).sub (k.mono (Nat.le_max_right _ _))⟩
theorem Pl.neg {a : PS} : Pl a → Pl (-a) := fun ⟨m, h⟩ => ⟨m, h.neg⟩
theorem Pl.mul {a b : PS} : Pl a → Pl b → Pl (a * b) := fun ⟨m, h⟩ ⟨n, k⟩ => ⟨_, Lt.mul k h⟩
theorem Pl.pow {a : PS} (h : Pl a) : ∀ n : Nat, Pl (a ^ n)
  | 0 => Pl.one
  | n + 1 => (Pl.pow h n).mul h
/-- degree n just -/
def Dg (s : PS) (n : Nat) : Prop := Lt s (n + 1) ∧ s.f n ≠ 0
theorem Dg.ne {s : PS} {n : Nat} (h : Dg s n) : s ≠ 0 := fun e => h.2 (by rw [e, zero_f])
theorem Pl.dg {s : PS} : Pl s → s ≠ 0 → ∃ n, Dg s n := fun ⟨n, h⟩ => by
  induction n with
  | zero => intro z; exact absurd h.nil z
  | succ n ih =>
    intro z
    by_cases e : s.f n = 0
    · exact ih (fun k hk => by
        rcases Nat.eq_or_lt_of_le hk with rfl | hk
        · exact e
        · exact h k hk) z
    · exact ⟨n, h, e⟩
theorem Dg.mul {a b : PS} {m n : Nat} (h : Dg a m) (k : Dg b n) : Dg (a * b) (m + n) := ⟨(Lt.mul k.1 h.1).mono (by omega), by
  rw [top_mul k.1 h.1]
  exact fun z => by
    rcases (by grind : a.f m = 0 ∨ b.f n = 0) with e | e
    · exact h.2 e
    · exact k.2 e⟩
theorem Dg.lt {s : PS} {m n : Nat} (h : Dg s m) (k : Lt s n) : m < n := by
  rcases Nat.lt_or_ge m n with z | z
  · exact z
  · exact absurd (k m z) h.2
theorem Dg.uniq {s : PS} {m n : Nat} (h : Dg s m) (k : Dg s n) : m = n := by
  have h1 := h.lt k.1
  have h2 := k.lt h.1
  omega
theorem Dg.pl {s : PS} {n : Nat} (h : Dg s n) : Pl s := ⟨_, h.1⟩
theorem Pl.mul_ne {a b : PS} (h1 : Pl a) (h2 : Pl b) (n1 : a ≠ 0) (n2 : b ≠ 0) : a * b ≠ 0 := by
  obtain ⟨m, h⟩ := h1.dg n1
  obtain ⟨n, k⟩ := h2.dg n2
  exact (h.mul k).ne
theorem Pl.cancel {a b c : PS} (ha : Pl a) (hb : Pl b) (hc : Pl c) (n : c ≠ 0) (h : a * c = b * c) : a = b := by
  have e : (a - b) * c = 0 := by grind
  by_cases z : a - b = 0
  · grind
  · exact absurd e (Pl.mul_ne (ha.sub hb) hc z n)
theorem Dg.C {c : Rat} (h : c ≠ 0) : Dg (PS.C c) 0 := ⟨Lt.C c, by show (if 0 = 0 then c else 0) ≠ 0; rw [if_pos rfl]; exact h⟩
theorem Dg.const {s : PS} (h : Lt s 1) : s = PS.C (s.f 0) := Lt.ext h (Lt.C _) fun k hk => by
  have : k = 0 := by omega
  subst this
  rfl
theorem Xpow_f : ∀ (m k : Nat), (X ^ m : PS).f k = if k = m then 1 else 0
  | 0, k => rfl
  | m + 1, k => by
    have e : (X ^ (m + 1) : PS) = X * X ^ m := by grind
    rw [e, PS.X_mul]
    cases k with
    | zero => show (0 : Rat) = _; rw [if_neg (by omega)]
    | succ k =>
      show (X ^ m : PS).f k = _
      rw [Xpow_f m k]
      by_cases h : k = m
      · rw [if_pos h, if_pos (by omega)]
      · rw [if_neg h, if_neg (by omega)]
theorem Xpow_lt (m : Nat) : Lt (X ^ m) (m + 1) := fun k hk => by rw [Xpow_f, if_neg (by omega)]
theorem Xpow_dg (m : Nat) : Dg (X ^ m) m := ⟨Xpow_lt m, by rw [Xpow_f, if_pos rfl]; decide⟩
/-- division with rest -/
theorem div_ex {b : PS} {n : Nat} (hb : Dg b n) : ∀ {m : Nat} {a : PS}, Lt a m → ∃ s r, a = s * b + r ∧ Lt r n ∧ Lt s (m - n)
  | 0, a, h => ⟨0, 0, by rw [h.nil]; grind, Lt.zero _, Lt.zero _⟩
  | m + 1, a, h => by
    rcases Nat.lt_or_ge m n with hm | hm
    · exact ⟨0, a, by grind, h.mono (by omega), Lt.zero _⟩
    · have hq := hb.2
      have t : Dg (X ^ (m - n) * b) (m - n + n) := (Xpow_dg _).mul hb
      have ht : (X ^ (m - n) * b).f m = b.f n := by
        have e := top_mul hb.1 (Xpow_lt (m - n))
        rw [show m - n + n = m by omega, Xpow_f, if_pos rfl] at e
        rw [e]; grind
      have h' : Lt (a - PS.C (a.f m / b.f n) * (X ^ (m - n) * b)) m := fun k hk => by
        rw [sub_f, C_mul]
        rcases Nat.eq_or_lt_of_le hk with rfl | hk
        · rw [ht]; grind
        · rw [h k hk, t.1 k (by omega)]; grind
      obtain ⟨s, r, e, h1, h2⟩ := div_ex hb h'
      refine ⟨s + PS.C (a.f m / b.f n) * X ^ (m - n), r, by grind, h1, ?_⟩
      exact (h2.mono (by omega)).add (((Xpow_lt _).smul _).mono (by omega))
theorem div_uniq {b s r s' r' : PS} {n : Nat} (hb : Dg b n) (ps : Pl s) (ps' : Pl s') (h : s * b + r = s' * b + r') (h1 : Lt r n) (h2 : Lt r' n) : s = s' ∧ r = r' := by
  have e : (s - s') * b = r' - r := by grind
  by_cases z : s - s' = 0
  · rw [z] at e
    exact ⟨by grind, by grind⟩
  · obtain ⟨k, hk⟩ := (ps.sub ps').dg z
    have := (hk.mul hb)
    rw [e] at this
    have := this.lt (h2.sub h1)
    omega
/-- divides -/
def Dv (g a : PS) : Prop := ∃ s, Pl s ∧ a = s * g
theorem Dv.zero (g : PS) : Dv g 0 := ⟨0, Pl.zero, by grind⟩
theorem Dv.refl (g : PS) : Dv g g := ⟨1, Pl.one, by grind⟩
theorem Dv.add {g a b : PS} : Dv g a → Dv g b → Dv g (a + b) := fun ⟨s, h, e⟩ ⟨t, k, f⟩ => ⟨s + t, h.add k, by grind⟩
theorem Dv.sub {g a b : PS} : Dv g a → Dv g b → Dv g (a - b) := fun ⟨s, h, e⟩ ⟨t, k, f⟩ => ⟨s - t, h.sub k, by grind⟩
theorem Dv.mul {g a : PS} (b : PS) (hb : Pl b) : Dv g a → Dv g (b * a) := fun ⟨s, h, e⟩ => ⟨b * s, hb.mul h, by grind⟩
theorem Dv.mul_r {g a : PS} (b : PS) (hb : Pl b) : Dv g a → Dv g (a * b) := fun ⟨s, h, e⟩ => ⟨s * b, h.mul hb, by grind⟩
theorem Dv.trans {g a b : PS} : Dv g a → Dv a b → Dv g b := fun ⟨s, h, e⟩ ⟨t, k, f⟩ => ⟨t * s, k.mul h, by grind⟩
theorem Dv.mul_mul {a b c d : PS} : Dv a b → Dv c d → Dv (a * c) (b * d) := fun ⟨s, h, e⟩ ⟨t, k, f⟩ => ⟨s * t, h.mul k, by grind⟩
theorem Dv.dg {g a : PS} {m n : Nat} (h : Dv g a) (hg : Dg g m) (ha : Dg a n) : m ≤ n := by
  obtain ⟨s, k, e⟩ := h
  have z : s ≠ 0 := fun z => ha.ne (by rw [e, z]; grind)
  obtain ⟨l, hl⟩ := k.dg z
  have := hl.mul hg
  rw [← e] at this
  have := this.uniq ha
  omega
theorem Dv.pl {g a : PS} (hg : Pl g) : Dv g a → Pl a := fun ⟨s, h, e⟩ => by rw [e]; exact h.mul hg
/-- monic of degree n -/
def Mn (s : PS) (n : Nat) : Prop := Lt s (n + 1) ∧ s.f n = 1
theorem Mn.dg {s : PS} {n : Nat} (h : Mn s n) : Dg s n := ⟨h.1, by rw [h.2]; decide⟩
theorem Mn.mul {a b : PS} {m n : Nat} (h : Mn a m) (k : Mn b n) : Mn (a * b) (m + n) := ⟨(h.dg.mul k.dg).1, by rw [top_mul k.1 h.1, h.2, k.2]; grind⟩
theorem Mn.one : Mn 1 0 := ⟨Lt.one, rfl⟩
theorem Mn.pow {a : PS} {m : Nat} (h : Mn a m) : ∀ k, Mn (a ^ k) (m * k)
  | 0 => Mn.one
  | k + 1 => (Mn.pow h k).mul h
theorem Mn.eq {a b : PS} {m n : Nat} (h : Mn a m) (k : Mn b n) (h1 : Dv a b) (h2 : Dv b a) : a = b := by
  have l1 := h1.dg h.dg k.dg
  have l2 := h2.dg k.dg h.dg
  have e : m = n := by omega
  subst e
  obtain ⟨s, ps, e⟩ := h1
  have z : s ≠ 0 := fun z => k.dg.ne (by rw [e, z]; grind)
  obtain ⟨l, hl⟩ := ps.dg z
  have q := hl.mul h.dg
  rw [← e] at q
  have q := q.uniq k.dg
  have hl0 : l = 0 := by omega
  subst hl0
  have c := Dg.const hl.1
  have t := k.2
  rw [e, c, C_mul, h.2] at t
  rw [e, c, show s.f 0 = 1 by grind, C_one]
  grind
/-- made monic -/
theorem Dg.mon {s : PS} {n : Nat} (h : Dg s n) : Mn (PS.C (s.f n)⁻¹ * s) n := ⟨h.1.smul _, by rw [C_mul]; have := h.2; grind⟩
end AW

/-! AwHt: how great the numbers of a rest can get: small solutions of few equations. -/
namespace AW
open PS
/-! ### more numbers than places -/
theorem pigeon : ∀ (N M : Nat) (f : Nat → Nat), M < N → (∀ i, i < N → f i < M) → ∃ i j, i < j ∧ j < N ∧ f i = f j
  | 0, M, f, h, _ => by omega
  | N + 1, M, f, h, hf => by
    by_cases z : ∃ i, i < N ∧ f i = f N
    · obtain ⟨i, hi, e⟩ := z
      exact ⟨i, N, hi, by omega, e⟩
    · cases M with
      | zero => exact absurd (hf 0 (by omega)) (by omega)
      | succ M =>
        have hne : ∀ i, i < N → f i ≠ f N := fun i hi e => z ⟨i, hi, e⟩
        have hN := hf N (by omega)
        obtain ⟨i, j, h1, h2, e⟩ := pigeon N M (fun i => if f i < f N then f i else f i - 1) (by omega) fun i hi => by
          have := hf i (by omega)
          have := hne i hi
          show (if f i < f N then f i else f i - 1) < M
          split <;> omega
        refine ⟨i, j, h1, by omega, ?_⟩
        have n1 := hne i (by omega)
        have n2 := hne j h2
        have e : (if f i < f N then f i else f i - 1) = (if f j < f N then f j else f j - 1) := e
        split at e <;> split at e <;> omega
/-- the sum of the first ones -/
def sm (f : Nat → Int) : Nat → Int
  | 0 => 0
  | n + 1 => sm f n + f n
theorem sm_sub (f g : Nat → Int) : ∀ n, sm (fun k => f k - g k) n = sm f n - sm g n
  | 0 => rfl
  | n + 1 => by simp only [sm]; rw [sm_sub f g n]; omega
theorem sm_le {f : Nat → Int} {B : Nat} : ∀ {n : Nat}, (∀ k, k < n → (f k).natAbs ≤ B) → (sm f n).natAbs ≤ n * B
  | 0, _ => by show (0 : Int).natAbs ≤ _; omega
  | n + 1, h => by
    have h1 := sm_le (n := n) fun k hk => h k (by omega)
    have h2 := h n (by omega)
    have h3 := Int.natAbs_add_le (sm f n) (f n)
    show (sm f n + f n).natAbs ≤ _
    rw [Nat.add_mul]
    omega
theorem sm_congr {f g : Nat → Int} : ∀ {n : Nat}, (∀ k, k < n → f k = g k) → sm f n = sm g n
  | 0, _ => rfl
  | n + 1, h => by simp only [sm]; rw [sm_congr fun k hk => h k (by omega), h n (by omega)]
/-- figures -/
def fig (Y : Nat) (f : Nat → Nat) : Nat → Nat
  | 0 => 0
  | n + 1 => f 0 + Y * fig Y (fun k => f (k + 1)) n
theorem fig_lt {Y : Nat} : ∀ {n : Nat} {f : Nat → Nat}, (∀ k, k < n → f k < Y) → fig Y f n < Y ^ n
  | 0, _, _ => by show 0 < 1; omega
  | n + 1, f, h => by
    have h0 := h 0 (by omega)
    have ih := fig_lt (n := n) (f := fun k => f (k + 1)) fun k hk => h (k + 1) (by omega)
    show f 0 + Y * _ < Y ^ n * Y
    have : Y * (fig Y (fun k => f (k + 1)) n + 1) ≤ Y * Y ^ n := Nat.mul_le_mul_left _ ih
    rw [Nat.mul_comm (Y ^ n) Y]
    rw [Nat.mul_add] at this
    omega
theorem fig_inj {Y : Nat} : ∀ {n : Nat} {f g : Nat → Nat}, (∀ k, k < n → f k < Y) → (∀ k, k < n → g k < Y) → fig Y f n = fig Y g n → ∀ k, k < n → f k = g k
  | 0, _, _, _, _, _, k, hk => by omega
  | n + 1, f, g, hf, hg, e, k, hk => by
    have e : f 0 + Y * fig Y (fun k => f (k + 1)) n = g 0 + Y * fig Y (fun k => g (k + 1)) n := e
    have f0 := hf 0 (by omega)
    have g0 := hg 0 (by omega)
    have m1 : (f 0 + Y * fig Y (fun k => f (k + 1)) n) % Y = f 0 := by rw [Nat.add_mul_mod_self_left, Nat.mod_eq_of_lt f0]
    have m2 : (g 0 + Y * fig Y (fun k => g (k + 1)) n) % Y = g 0 := by rw [Nat.add_mul_mod_self_left, Nat.mod_eq_of_lt g0]
    have e0 : f 0 = g 0 := by rw [← m1, e, m2]
    cases k with
    | zero => exact e0
    | succ k =>
      have e1 : Y * fig Y (fun k => f (k + 1)) n = Y * fig Y (fun k => g (k + 1)) n := by omega
      have e2 := Nat.eq_of_mul_eq_mul_left (by omega) e1
      exact fig_inj (fun k hk => hf (k + 1) (by omega)) (fun k hk => hg (k + 1) (by omega)) e2 k (by omega)
/-- the k-th figure of a number -/
def dig (Y c : Nat) (k : Nat) : Nat := c / Y ^ k % Y
theorem dig_fig {Y : Nat} (hY : 0 < Y) : ∀ (n c : Nat), c < Y ^ n → fig Y (dig Y c) n = c
  | 0, c, h => by have : c < 1 := h; show 0 = c; omega
  | n + 1, c, h => by
    have hd : c / Y < Y ^ n := Nat.div_lt_of_lt_mul (by rw [Nat.mul_comm]; exact h)
    have ih := dig_fig hY n (c / Y) hd
    show dig Y c 0 + Y * fig Y (fun k => dig Y c (k + 1)) n = c
    have e : (fun k => dig Y c (k + 1)) = dig Y (c / Y) := by
      funext k
      unfold dig
      rw [Nat.pow_succ, Nat.mul_comm, Nat.div_div_eq_div_mul]
    rw [e, ih]
    unfold dig
    rw [Nat.pow_zero, Nat.div_one]
    have := Nat.mod_add_div c Y
    omega
/-- fewer equations than numbers looked for: a small solution that isn't nought -/
theorem siegel (K M H : Nat) (hM : M < K) (A : Nat → Nat → Int) (hA : ∀ i k, i < M → k < K → (A i k).natAbs ≤ H) :
    ∃ x : Nat → Int, (∃ k, k < K ∧ x k ≠ 0) ∧ (∀ k, k < K → (x k).natAbs ≤ (2 * K * H + 1) ^ M) ∧ ∀ i, i < M → sm (fun k => A i k * x k) K = 0 := by
  generalize hW : (2 * K * H + 1) ^ M = W
  have hW0 : 0 < W := by rw [← hW]; exact Nat.pow_pos (by omega)
  obtain ⟨V, hV⟩ : ∃ V, V = K * (H * W) := ⟨_, rfl⟩
  have hVW : 2 * V + 1 ≤ (2 * K * H + 1) * (W + 1) := by
    rw [hV, Nat.add_mul, Nat.mul_add, show 2 * (K * (H * W)) = 2 * K * H * W by simp only [Nat.mul_assoc]]
    omega
  have hYM : (2 * V + 1) ^ M < (W + 1) ^ K := by
    have h1 : (2 * V + 1) ^ M ≤ ((2 * K * H + 1) * (W + 1)) ^ M := Nat.pow_le_pow_left hVW M
    rw [Nat.mul_pow, hW] at h1
    have h2 : W * (W + 1) ^ M < (W + 1) ^ (M + 1) := by
      rw [Nat.pow_succ, Nat.mul_comm ((W + 1) ^ M)]
      exact Nat.mul_lt_mul_of_pos_right (by omega) (Nat.pow_pos (by omega))
    have h3 : (W + 1) ^ (M + 1) ≤ (W + 1) ^ K := Nat.pow_le_pow_right (by omega) hM
    omega
  let y : Nat → Nat → Int := fun c i => sm (fun k => A i k * (dig (W + 1) c k : Int)) K
  have hd : ∀ c k, dig (W + 1) c k < W + 1 := fun c k => Nat.mod_lt _ (by omega)
  have hy : ∀ c i, i < M → (y c i).natAbs ≤ V := fun c i hi => by
    rw [hV]
    refine sm_le fun k hk => ?_
    rw [Int.natAbs_mul]
    exact Nat.mul_le_mul (hA i k hi hk) (by have := hd c k; simp; omega)
  let z : Nat → Nat → Nat := fun c i => (y c i + V).toNat
  have hz : ∀ c i, i < M → z c i < 2 * V + 1 := fun c i hi => by
    have := hy c i hi
    show (y c i + V).toNat < _
    omega
  obtain ⟨c, d, hcd, hdW, e⟩ := pigeon ((W + 1) ^ K) ((2 * V + 1) ^ M) (fun c => fig (2 * V + 1) (z c) M) hYM fun c _ => fig_lt (hz c)
  have ez := fig_inj (hz c) (hz d) e
  refine ⟨fun k => (dig (W + 1) c k : Int) - dig (W + 1) d k, ?_, ?_, ?_⟩
  · refine Classical.byContradiction fun q => ?_
    have q' : ∀ k, k < K → dig (W + 1) c k = dig (W + 1) d k := fun k hk => by
      refine Classical.byContradiction fun r => q ⟨k, hk, ?_⟩
      show (dig (W + 1) c k : Int) - dig (W + 1) d k ≠ 0
      omega
    have e1 := dig_fig (show 0 < W + 1 by omega) K c (by omega)
    have e2 := dig_fig (show 0 < W + 1 by omega) K d hdW
    have e3 : ∀ (n : Nat) (f g : Nat → Nat), (∀ k, k < n → f k = g k) → fig (W + 1) f n = fig (W + 1) g n := fun n => by
      induction n with
      | zero => intro f g _; rfl
      | succ n ih =>
        intro f g h
        show f 0 + (W + 1) * fig (W + 1) (fun k => f (k + 1)) n = g 0 + (W + 1) * fig (W + 1) (fun k => g (k + 1)) n
        rw [h 0 (by omega), ih _ _ fun k hk => h (k + 1) (by omega)]
    rw [e3 K _ _ q', e2] at e1
    omega
  · intro k hk
    have h1 := hd c k
    have h2 := hd d k
    show ((dig (W + 1) c k : Int) - dig (W + 1) d k).natAbs ≤ W
    omega
  · intro i hi
    have e1 := ez i hi
    have h1 := hy c i hi
    have h2 := hy d i hi
    have e2 : y c i = y d i := by
      have e1 : (y c i + V).toNat = (y d i + V).toNat := e1
      omega
    have e3 : (fun k => A i k * ((dig (W + 1) c k : Int) - dig (W + 1) d k)) = fun k => A i k * (dig (W + 1) c k : Int) - A i k * (dig (W + 1) d k : Int) := by
      funext k
      rw [Int.mul_sub]
    rw [e3, sm_sub]
    show y c i - y d i = 0
    omega
end AW

/-! AwEu: numbers over one number below; rests of rests and how great they get; common divisors. -/
namespace AW
open PS
/-- over one number all numbers are whole, and all have few bits -/
def Hb (b : Nat) (s : PS) : Prop := ∃ k : Int, k ≠ 0 ∧ k.natAbs ≤ 2 ^ b ∧ ∀ i, ∃ z : Int, (k : Rat) * s.f i = z ∧ z.natAbs ≤ 2 ^ b
theorem Hb.mono {a b : Nat} {s : PS} (h : Hb a s) (l : a ≤ b) : Hb b s := by
  obtain ⟨k, h1, h2, h3⟩ := h
  have e := Nat.pow_le_pow_right (show 0 < 2 by decide) l
  exact ⟨k, h1, Nat.le_trans h2 e, fun i => by obtain ⟨z, h4, h5⟩ := h3 i; exact ⟨z, h4, Nat.le_trans h5 e⟩⟩
theorem Hb.zero (b : Nat) : Hb b 0 := ⟨1, by decide, Nat.one_le_two_pow, fun i => ⟨0, by rw [zero_f, Rat.mul_zero]; rfl, Nat.zero_le _⟩⟩
theorem natAbs_mul_le {x y : Int} {a b : Nat} (h1 : x.natAbs ≤ 2 ^ a) (h2 : y.natAbs ≤ 2 ^ b) : (x * y).natAbs ≤ 2 ^ (a + b) := by
  rw [Int.natAbs_mul, Nat.pow_add]
  exact Nat.mul_le_mul h1 h2
theorem Hb.add {a b : Nat} {s u : PS} (h : Hb a s) (l : Hb b u) : Hb (a + b + 1) (s + u) := by
  obtain ⟨k, h1, h2, h3⟩ := h
  obtain ⟨m, l1, l2, l3⟩ := l
  refine ⟨k * m, Int.mul_ne_zero h1 l1, Nat.le_trans (natAbs_mul_le h2 l2) (Nat.pow_le_pow_right (by decide) (by omega)), fun i => ?_⟩
  obtain ⟨z, h4, h5⟩ := h3 i
  obtain ⟨w, l4, l5⟩ := l3 i
  refine ⟨z * m + w * k, ?_, ?_⟩
  · rw [add_f]
    grind
  · have e1 := natAbs_mul_le h5 l2
    have e2 := natAbs_mul_le l5 h2
    rw [Nat.add_comm b a] at e2
    have := Int.natAbs_add_le (z * m) (w * k)
    rw [Nat.pow_succ]
    omega
theorem Hb.smul {a b : Nat} {s : PS} {c : Rat} (hc : c.num.natAbs ≤ 2 ^ a ∧ c.den ≤ 2 ^ a) (h : Hb b s) : Hb (a + b) (PS.C c * s) := by
  obtain ⟨k, h1, h2, h3⟩ := h
  have hd := c.den_nz
  refine ⟨c.den * k, Int.mul_ne_zero (by omega) h1, natAbs_mul_le (by simpa using hc.2) h2, fun i => ?_⟩
  obtain ⟨z, h4, h5⟩ := h3 i
  refine ⟨c.num * z, ?_, natAbs_mul_le hc.1 h5⟩
  rw [C_mul]
  have e : (c.den : Rat) * c = c.num := by
    have := Rat.num_divInt_den c
    rw [Rat.divInt_eq_div] at this
    have hd' : ((c.den : Int) : Rat) ≠ 0 := fun z => hd (by have := Rat.intCast_eq_zero_iff.mp z; omega)
    have e3 : ((c.den : Int) : Rat) = (c.den : Rat) := rfl
    rw [e3] at this hd'
    rw [← this]
    grind
  have e2 : ((((c.den : Int) * k : Int) : Rat)) = (c.den : Rat) * (k : Rat) := by
    rw [Rat.intCast_mul]
    rfl
  rw [e2, Rat.intCast_mul, ← h4, ← e]
  grind
theorem Hb.neg {b : Nat} {s : PS} (h : Hb b s) : Hb b (-s) := by
  obtain ⟨k, h1, h2, h3⟩ := h
  refine ⟨k, h1, h2, fun i => ?_⟩
  obtain ⟨z, h4, h5⟩ := h3 i
  exact ⟨-z, by rw [neg_f]; grind, by omega⟩
theorem Hb.sub {a b : Nat} {s u : PS} (h : Hb a s) (l : Hb b u) : Hb (a + b + 1) (s - u) := by
  rw [show s - u = s + -u by grind]
  exact h.add l.neg
theorem Hb.X_mul {b : Nat} {s : PS} (h : Hb b s) : Hb b (X * s) := by
  obtain ⟨k, h1, h2, h3⟩ := h
  refine ⟨k, h1, h2, fun i => ?_⟩
  rw [PS.X_mul]
  cases i with
  | zero => exact ⟨0, by show (k : Rat) * 0 = 0; grind, Nat.zero_le _⟩
  | succ i => exact h3 i
theorem Hb.Xpow {b : Nat} {s : PS} (h : Hb b s) : ∀ n : Nat, Hb b (X ^ n * s)
  | 0 => by rw [show (X ^ 0 : PS) * s = s by grind]; exact h
  | n + 1 => by
    rw [show (X ^ (n + 1) : PS) * s = X * (X ^ n * s) by grind]
    exact (h.Xpow n).X_mul
theorem mul_whole {H L : Nat} {b : PS} {m : Int} (hb : ∀ i, ∃ z : Int, (m : Rat) * b.f i = z ∧ z.natAbs ≤ L) {k : Int} :
    ∀ {n : Nat} {a : PS}, Lt a n → (∀ i, ∃ z : Int, (k : Rat) * a.f i = z ∧ z.natAbs ≤ H) → ∀ i, ∃ z : Int, ((k * m : Int) : Rat) * (a * b).f i = z ∧ z.natAbs ≤ n * (H * L)
  | 0, a, h, _, i => ⟨0, by rw [h.nil, show (0 : PS) * b = 0 by grind, zero_f, Rat.mul_zero]; rfl, Nat.zero_le _⟩
  | n + 1, a, h, ha, i => by
    have e := sh_eq a
    have e2 : a * b = PS.C (a.f 0) * b + X * (sh a * b) := by
      conv => lhs; rw [e]
      grind
    obtain ⟨z0, z1, z2⟩ := ha 0
    obtain ⟨w0, w1, w2⟩ := hb i
    have q0 : (z0 * w0).natAbs ≤ H * L := by rw [Int.natAbs_mul]; exact Nat.mul_le_mul z2 w2
    rw [e2, add_f, C_mul, PS.X_mul]
    cases i with
    | zero =>
      refine ⟨z0 * w0, ?_, ?_⟩
      · show _ * (a.f 0 * b.f 0 + 0) = _
        rw [Rat.intCast_mul, Rat.intCast_mul, ← z1, ← w1]
        grind
      · rw [Nat.add_mul]
        omega
    | succ i =>
      obtain ⟨v0, v1, v2⟩ := mul_whole hb (k := k) h.sh (fun i => ha (i + 1)) i
      refine ⟨z0 * w0 + v0, ?_, ?_⟩
      · show _ * (a.f 0 * b.f (i + 1) + (sh a * b).f i) = _
        rw [Rat.intCast_add, ← v1, Rat.intCast_mul, Rat.intCast_mul, ← z1, ← w1]
        grind
      · have := Int.natAbs_add_le (z0 * w0) v0
        rw [Nat.add_mul]
        omega
theorem Hb.mul {a b l n : Nat} {s u : PS} (h : Hb a s) (k : Hb b u) (hs : Lt s n) (hl : n ≤ 2 ^ l) : Hb (a + b + l) (s * u) := by
  obtain ⟨x, h1, h2, h3⟩ := h
  obtain ⟨y, k1, k2, k3⟩ := k
  refine ⟨x * y, Int.mul_ne_zero h1 k1, Nat.le_trans (natAbs_mul_le h2 k2) (Nat.pow_le_pow_right (by decide) (by omega)), fun i => ?_⟩
  obtain ⟨z, e1, e2⟩ := mul_whole k3 hs h3 i
  refine ⟨z, e1, Nat.le_trans e2 ?_⟩
  rw [Nat.pow_add, Nat.pow_add, Nat.mul_comm]
  exact Nat.mul_le_mul (Nat.le_refl _) hl
theorem int_ne {k : Int} (h : k ≠ 0) : (k : Rat) ≠ 0 := fun e => h (Rat.intCast_eq_zero_iff.mp e)
/-- made monic it has the same bits -/
theorem Hb.mon {b n : Nat} {s : PS} (h : Hb b s) (d : Dg s n) : Hb b (PS.C (s.f n)⁻¹ * s) := by
  obtain ⟨k, h1, h2, h3⟩ := h
  obtain ⟨z, e1, e2⟩ := h3 n
  have hk := int_ne h1
  have hn := d.2
  refine ⟨z, fun e => ?_, e2, fun i => ?_⟩
  · rw [e] at e1
    have : (k : Rat) * s.f n = 0 := e1
    grind
  · obtain ⟨w, l1, l2⟩ := h3 i
    refine ⟨w, ?_, l2⟩
    rw [C_mul, ← e1, ← l1]
    grind
/-! ### small numbers for a combination of low degree -/
def psum (x : Nat → Int) : Nat → PS
  | 0 => 0
  | n + 1 => psum x n + PS.C (x n) * X ^ n
theorem psum_lt (x : Nat → Int) : ∀ n, Lt (psum x n) n
  | 0 => Lt.zero 0
  | n + 1 => ((psum_lt x n).mono (by omega)).add ((Xpow_lt n).smul _)
theorem psum_f (x : Nat → Int) : ∀ n k, k < n → (psum x n).f k = x k
  | n + 1, k, h => by
    show (psum x n + PS.C (x n) * X ^ n).f k = _
    rw [add_f, C_mul, Xpow_f]
    rcases Nat.eq_or_lt_of_le (show k ≤ n by omega) with e | e
    · subst e; rw [psum_lt x k k (by omega), if_pos rfl]; grind
    · rw [psum_f x n k e, if_neg (by omega)]; grind
theorem Xpow_mul : ∀ (n : Nat) (s : PS) (t : Nat), (X ^ n * s).f t = if n ≤ t then s.f (t - n) else 0
  | 0, s, t => by rw [show (X ^ 0 : PS) * s = s by grind, if_pos (by omega)]; rfl
  | n + 1, s, t => by
    rw [show (X ^ (n + 1) : PS) * s = X * (X ^ n * s) by grind, PS.X_mul]
    cases t with
    | zero => show (0 : Rat) = _; rw [if_neg (by omega)]
    | succ t =>
      show (X ^ n * s).f t = _
      rw [Xpow_mul n s t, show t + 1 - (n + 1) = t - n by omega]
      by_cases h : n ≤ t
      · rw [if_pos h, if_pos (by omega)]
      · rw [if_neg h, if_neg (by omega)]
theorem psum_mul {P : Nat → Int} {s : PS} (hs : ∀ i, s.f i = P i) (x : Nat → Int) (t : Nat) : ∀ n, (psum x n * s).f t = ((sm (fun k => (if k ≤ t then P (t - k) else 0) * x k) n : Int) : Rat)
  | 0 => by show ((0 : PS) * s).f t = _; rw [show (0 : PS) * s = 0 by grind, zero_f]; rfl
  | n + 1 => by
    show ((psum x n + PS.C (x n) * X ^ n) * s).f t = ((sm _ n + (if n ≤ t then P (t - n) else 0) * x n : Int) : Rat)
    rw [show (psum x n + PS.C (x n) * X ^ n) * s = psum x n * s + PS.C (x n) * (X ^ n * s) by grind, add_f, psum_mul hs x t n, C_mul, Xpow_mul, Rat.intCast_add, Rat.intCast_mul]
    by_cases h : n ≤ t
    · rw [if_pos h, if_pos h, hs]; grind
    · rw [if_neg h, if_neg h]; grind
theorem sm_two {f g : Nat → Int} {m : Nat} : ∀ n, sm (fun k => if k < m then f k else g (k - m)) (m + n) = sm f m + sm g n
  | 0 => by
    show sm _ m = sm f m + 0
    rw [Int.add_zero]
    exact sm_congr fun k hk => by rw [if_pos hk]
  | n + 1 => by
    show sm _ (m + n) + (if m + n < m then f (m + n) else g (m + n - m)) = sm f m + (sm g n + g n)
    rw [sm_two n, if_neg (by omega), show m + n - m = n by omega]
    omega
/-- the monic combination of degree j of p and q, the factors being of low degrees, has few bits -/
theorem rest_ht {p q b ub vb ua va : PS} {m n j ja h l : Nat} {d : Rat} (hp : Hb h p) (hq : Hb h q) (dp : Dg p m) (dq : Dg q n) (hb : Mn b j)
    (jm : ja ≤ m) (jn : ja ≤ n) (jj : j < ja) (lu : Lt ub (n - ja + 1)) (lv : Lt vb (m - ja + 1)) (pu : Pl ua) (pv : Pl va)
    (e : b = ub * p + vb * q) (hd : d ≠ 0) (ed : ua * vb - ub * va = PS.C d) (hl : 2 * (m + n) + 1 ≤ 2 ^ l) : Hb ((m + n) * (h + l)) b := by
  obtain ⟨kp, p1, p2, p3⟩ := hp
  obtain ⟨kq, q1, q2, q3⟩ := hq
  obtain ⟨P, hP⟩ := Classical.axiomOfChoice p3
  obtain ⟨Q, hQ⟩ := Classical.axiomOfChoice q3
  obtain ⟨K, hK⟩ : ∃ K, K = (n - j) + (m - j) := ⟨_, rfl⟩
  let s1 : PS := ⟨fun i => (P i : Rat)⟩
  let s2 : PS := ⟨fun i => (Q i : Rat)⟩
  have es1 : s1 = PS.C kp * p := by ext i; rw [C_mul]; exact (hP i).1.symm
  have es2 : s2 = PS.C kq * q := by ext i; rw [C_mul]; exact (hQ i).1.symm
  let A : Nat → Nat → Int := fun t k => if k < n - j then (if k ≤ t then P (t - k) else 0) else (if k - (n - j) ≤ t then Q (t - (k - (n - j))) else 0)
  have hA : ∀ t k, (A t k).natAbs ≤ 2 ^ h := fun t k => by
    show (if k < n - j then (if k ≤ t then P (t - k) else 0) else (if k - (n - j) ≤ t then Q (t - (k - (n - j))) else 0) : Int).natAbs ≤ _
    split
    · split
      · exact (hP _).2
      · exact Nat.zero_le _
    · split
      · exact (hQ _).2
      · exact Nat.zero_le _
  obtain ⟨x, ⟨k0, k1, k2⟩, x1, x2⟩ := siegel K (K - 1) (2 ^ h) (by omega) (fun i k => A (j + 1 + i) k) fun i k _ _ => hA _ _
  let y : Nat → Int := fun k => x (n - j + k)
  let u : PS := psum x (n - j) * PS.C kp
  let v : PS := psum y (m - j) * PS.C kq
  have wf : ∀ t, (u * p + v * q).f t = ((sm (fun k => A t k * x k) K : Int) : Rat) := fun t => by
    have e1 : u * p + v * q = psum x (n - j) * s1 + psum y (m - j) * s2 := by
      rw [es1, es2]
      show psum x (n - j) * PS.C kp * p + psum y (m - j) * PS.C kq * q = _
      grind
    rw [e1, add_f, psum_mul (P := P) (fun i => rfl), psum_mul (P := Q) (fun i => rfl), ← Rat.intCast_add]
    congr 1
    rw [hK, ← sm_two]
    refine sm_congr fun k hk => ?_
    show _ = (if k < n - j then (if k ≤ t then P (t - k) else 0) else (if k - (n - j) ≤ t then Q (t - (k - (n - j))) else 0) : Int) * x k
    by_cases z : k < n - j
    · rw [if_pos z, if_pos z]
    · rw [if_neg z, if_neg z]
      show _ * x (n - j + (k - (n - j))) = _
      rw [show n - j + (k - (n - j)) = k by omega]
  have ku := int_ne p1
  have kv := int_ne q1
  have hu : Lt u (n - j) := fun t ht => by
    show (psum x (n - j) * PS.C kp).f t = 0
    rw [PS.mulc, C_mul, psum_lt x (n - j) t ht]
    grind
  have hv : Lt v (m - j) := fun t ht => by
    show (psum y (m - j) * PS.C kq).f t = 0
    rw [PS.mulc, C_mul, psum_lt y (m - j) t ht]
    grind
  have hw : Lt (u * p + v * q) (j + 1) := fun t ht => by
    rcases Nat.lt_or_ge t (m + n - j) with z | z
    · rw [wf t]
      have := x2 (t - j - 1) (by omega)
      simp only [show j + 1 + (t - j - 1) = t by omega] at this
      rw [this]
      rfl
    · exact Lt.add (hu.mul' dp.1 (by omega)) (hv.mul' dq.1 (by omega)) t z
  -- it is a multiple of b
  have c1 : v * ub - u * vb = 0 := by
    refine Classical.byContradiction fun z => ?_
    obtain ⟨k, hk⟩ := (show Pl (v * ub - u * vb) from ⟨_, (hv.mul' lu (k := m + n) (by omega)).sub (hu.mul' lv (by omega))⟩).dg z
    have t1 := dq.mul hk
    have t2 : q * (v * ub - u * vb) = (u * p + v * q) * ub - u * b := by rw [e]; grind
    rw [t2] at t1
    have := t1.lt (Lt.sub (hw.mul' lu (k := n) (by omega)) (hu.mul' hb.1 (by omega)))
    omega
  have c2 : (u * p + v * q) * ub = u * b := by rw [e]; grind
  have c3 : (u * p + v * q) * vb = v * b := by rw [e]; grind
  have c4 : PS.C d * (u * p + v * q) = (ua * v - va * u) * b := by rw [← ed]; grind
  generalize hW : u * p + v * q = w at *
  have wne : w ≠ 0 := fun z => by
    have bn := hb.dg.ne
    have u0 : u = 0 := Classical.byContradiction fun q => Pl.mul_ne ⟨_, hu⟩ hb.dg.pl q bn (by rw [← c2, z]; grind)
    have v0 : v = 0 := Classical.byContradiction fun q => Pl.mul_ne ⟨_, hv⟩ hb.dg.pl q bn (by rw [← c3, z]; grind)
    rcases Nat.lt_or_ge k0 (n - j) with r | r
    · have : u.f k0 = x k0 * kp := by
        show (psum x (n - j) * PS.C kp).f k0 = _
        rw [PS.mulc, C_mul, psum_f x _ _ r]
        grind
      rw [u0, zero_f] at this
      have := int_ne k2
      grind
    · have : v.f (k0 - (n - j)) = x k0 * kq := by
        show (psum y (m - j) * PS.C kq).f _ = _
        rw [PS.mulc, C_mul, psum_f y _ _ (by omega)]
        show _ * (x (n - j + (k0 - (n - j))) : Rat) = _
        rw [show n - j + (k0 - (n - j)) = k0 by omega]
        grind
      rw [v0, zero_f] at this
      have := int_ne k2
      grind
  have pw : Pl (ua * v - va * u) := (pu.mul ⟨_, hv⟩).sub (pv.mul ⟨_, hu⟩)
  have c5 : ∃ β : Rat, w = PS.C β * b := by
    have gn : ua * v - va * u ≠ 0 := fun z => by
      rw [z] at c4
      exact Pl.mul_ne (Pl.C d) ⟨_, hw⟩ (Dg.C hd).ne wne (by rw [c4]; grind)
    obtain ⟨k, hk⟩ := pw.dg gn
    have t := hk.mul hb.dg
    rw [← c4] at t
    have := t.lt (hw.smul d)
    have hk0 : k = 0 := by omega
    subst hk0
    have cc := Dg.const hk.1
    generalize (ua * v - va * u).f 0 = g at cc
    refine ⟨d⁻¹ * g, ?_⟩
    rw [cc] at c4
    have : PS.C d⁻¹ * (PS.C d * w) = PS.C d⁻¹ * (PS.C g * b) := by rw [c4]
    have e1 : PS.C d⁻¹ * PS.C d = 1 := by rw [← PS.C_mulC, show d⁻¹ * d = 1 by grind, C_one]
    rw [PS.C_mulC]
    grind
  obtain ⟨β, hβ⟩ := c5
  have hβj : w.f j = β := by rw [hβ, C_mul, hb.2]; grind
  have bnd : ∀ t, (sm (fun k => A t k * x k) K).natAbs ≤ 2 ^ ((m + n) * (h + l)) := fun t => by
    have e1 : (sm (fun k => A t k * x k) K).natAbs ≤ K * (2 ^ h * (2 * K * 2 ^ h + 1) ^ (K - 1)) := sm_le fun k hk => by
      rw [Int.natAbs_mul]
      exact Nat.mul_le_mul (hA t k) (x1 k hk)
    have e2 : 2 * K * 2 ^ h + 1 ≤ 2 ^ (h + l) := by
      rw [Nat.pow_add, Nat.mul_comm (2 ^ h)]
      have h0 : 1 ≤ 2 ^ h := Nat.one_le_two_pow
      have : (2 * K + 1) * 2 ^ h ≤ 2 ^ l * 2 ^ h := Nat.mul_le_mul_right _ (by omega)
      rw [Nat.add_mul] at this
      omega
    have e3 : (2 * K * 2 ^ h + 1) ^ (K - 1) ≤ 2 ^ ((h + l) * (K - 1)) := by
      rw [Nat.pow_mul]
      exact Nat.pow_le_pow_left e2 _
    have e4 : K * 2 ^ h ≤ 2 ^ (h + l) := by
      have : K * 2 ^ h ≤ 2 * K * 2 ^ h := Nat.mul_le_mul_right _ (by omega)
      omega
    refine Nat.le_trans e1 ?_
    rw [← Nat.mul_assoc]
    refine Nat.le_trans (Nat.mul_le_mul e4 e3) ?_
    rw [← Nat.pow_add]
    refine Nat.pow_le_pow_right (by decide) ?_
    have : (h + l) + (h + l) * (K - 1) = (h + l) * K := by
      rw [show K = K - 1 + 1 by omega, Nat.mul_add]
      simp
      omega
    rw [this, Nat.mul_comm]
    exact Nat.mul_le_mul_right _ (by omega)
  refine ⟨sm (fun k => A j k * x k) K, fun z => ?_, bnd j, fun i => ⟨sm (fun k => A i k * x k) K, ?_, bnd i⟩⟩
  · have := wf j
    rw [z] at this
    have b0 : β = 0 := by rw [← hβj, this]; rfl
    rw [b0, C_zero] at hβ
    exact wne (by rw [hβ]; grind)
  · rw [← wf i, ← wf j, hβj, hβ, C_mul]
end AW

/-! AwGcd: the rests' walk, the monic common divisor. -/
namespace AW
open PS
/-- a and b are two rests side by side of p (degree m) and q (degree n); a has degree ja -/
def EuI (p q : PS) (m n : Nat) (a b : PS) (ja : Nat) : Prop := Dg a ja ∧ Lt b ja ∧ ja ≤ m ∧ ja ≤ n ∧ ∃ ua va ub vb : PS, ∃ d : Rat,
  a = ua * p + va * q ∧ b = ub * p + vb * q ∧ Lt ua (n - ja + 1) ∧ Lt va (m - ja + 1) ∧ Lt ub (n - ja + 1) ∧ Lt vb (m - ja + 1) ∧ d ≠ 0 ∧ ua * vb - ub * va = PS.C d
theorem EuI.start {p q s r : PS} {m n : Nat} {c : Rat} (hp : Lt p (m + 1)) (hq : Dg q n) (l : n ≤ m) (e : p = s * q + r) (hr : Lt r n) (hs : Lt s (m + 1 - n)) (hc : c ≠ 0) : EuI p q m n q (PS.C c * r) n :=
  ⟨hq, hr.smul c, l, Nat.le_refl _, 0, 1, PS.C c, -(PS.C c * s), -c, by grind, by rw [e]; grind, Lt.zero _, Lt.one.mono (by omega), (Lt.C c).mono (by omega),
    (hs.smul c).neg.mono (by omega), by grind, by rw [C_neg]; grind⟩
theorem EuI.step {p q a b s r : PS} {m n ja jb : Nat} {c : Rat} (h : EuI p q m n a b ja) (hb : Dg b jb) (e : a = s * b + r) (hr : Lt r jb) (hs : Lt s (ja + 1 - jb)) (hc : c ≠ 0) : EuI p q m n b (PS.C c * r) jb := by
  obtain ⟨h1, h2, h3, h4, ua, va, ub, vb, d, e1, e2, l1, l2, l3, l4, hd, ed⟩ := h
  have lt := hb.lt h2
  refine ⟨hb, hr.smul c, by omega, by omega, ub, vb, PS.C c * (ua - s * ub), PS.C c * (va - s * vb), -(c * d), e2, ?_, l3.mono (by omega), l4.mono (by omega), ?_, ?_, by grind, ?_⟩
  · have : r = a - s * b := by grind
    rw [this, e1, e2]
    grind
  · exact (Lt.sub (l1.mono (by omega)) (hs.mul' l3 (by omega))).smul c
  · exact (Lt.sub (l2.mono (by omega)) (hs.mul' l4 (by omega))).smul c
  · rw [C_neg, C_mulC, ← ed]
    grind
theorem EuI.ht {p q a b : PS} {m n ja j h l : Nat} (k : EuI p q m n a b ja) (hp : Hb h p) (hq : Hb h q) (dp : Dg p m) (dq : Dg q n) (hb : Mn b j) (hl : 2 * (m + n) + 1 ≤ 2 ^ l) : Hb ((m + n) * (h + l)) b := by
  obtain ⟨h1, h2, h3, h4, ua, va, ub, vb, d, e1, e2, l1, l2, l3, l4, hd, ed⟩ := k
  exact rest_ht hp hq dp dq hb h3 h4 (hb.dg.lt h2) l3 l4 ⟨_, l1⟩ ⟨_, l2⟩ e2 hd ed hl
/-- g is the monic common divisor of p and q -/
def IsG (p q g : PS) : Prop := Pl p ∧ Pl q ∧ ((g = 0 ∧ p = 0 ∧ q = 0) ∨ ∃ n, Mn g n ∧ Dv g p ∧ Dv g q ∧ ∃ u v, Pl u ∧ Pl v ∧ g = u * p + v * q)
theorem IsG.symm {p q g : PS} (h : IsG p q g) : IsG q p g := by
  obtain ⟨a, b, h⟩ := h
  refine ⟨b, a, ?_⟩
  rcases h with ⟨h1, h2, h3⟩ | ⟨n, h1, h2, h3, u, v, h4, h5, h6⟩
  · exact .inl ⟨h1, h3, h2⟩
  · exact .inr ⟨n, h1, h3, h2, v, u, h5, h4, by grind⟩
theorem IsG.pl {p q g : PS} (h : IsG p q g) : Pl g := by
  obtain ⟨a, b, ⟨rfl, _⟩ | ⟨n, h1, _⟩⟩ := h
  · exact Pl.zero
  · exact h1.dg.pl
theorem IsG.dvl {p q g : PS} (h : IsG p q g) : Dv g p := by
  obtain ⟨a, b, ⟨rfl, rfl, _⟩ | ⟨n, _, h1, _⟩⟩ := h
  · exact Dv.zero _
  · exact h1
theorem IsG.dvr {p q g : PS} (h : IsG p q g) : Dv g q := h.symm.dvl
theorem IsG.comb {p q g : PS} (h : IsG p q g) : ∃ u v, Pl u ∧ Pl v ∧ g = u * p + v * q := by
  obtain ⟨a, b, ⟨rfl, rfl, rfl⟩ | ⟨n, _, _, _, h1⟩⟩ := h
  · exact ⟨0, 0, Pl.zero, Pl.zero, by grind⟩
  · exact h1
theorem IsG.gt {p q g d : PS} (h : IsG p q g) (h1 : Dv d p) (h2 : Dv d q) : Dv d g := by
  obtain ⟨u, v, h3, h4, e⟩ := h.comb
  rw [e]
  exact (h1.mul u h3).add (h2.mul v h4)
theorem Dv.of_zero {a : PS} (h : Dv 0 a) : a = 0 := by obtain ⟨s, _, e⟩ := h; rw [e]; grind
theorem IsG.uniq {p q g g' : PS} (h : IsG p q g) (h' : IsG p q g') : g = g' := by
  have d1 := h'.gt h.dvl h.dvr
  have d2 := h.gt h'.dvl h'.dvr
  have k := h
  have k' := h'
  obtain ⟨a, b, ⟨rfl, _, _⟩ | ⟨n, m1, _⟩⟩ := k
  · exact (Dv.of_zero d1).symm
  · obtain ⟨a, b, ⟨rfl, _, _⟩ | ⟨n', m2, _⟩⟩ := k'
    · exact Dv.of_zero d2
    · exact m1.eq m2 d1 d2
/-- by what it divides and what is made of it -/
theorem IsG.of {p q g : PS} {n : Nat} (hp : Pl p) (hq : Pl q) (hg : Mn g n) (h1 : Dv g p) (h2 : Dv g q) {u v : PS} (hu : Pl u) (hv : Pl v) (e : g = u * p + v * q) : IsG p q g := ⟨hp, hq, .inr ⟨n, hg, h1, h2, u, v, hu, hv, e⟩⟩
theorem C_cancel {c : Rat} (h : c ≠ 0) : PS.C c⁻¹ * PS.C c = 1 := by rw [← PS.C_mulC, show c⁻¹ * c = 1 by grind, C_one]
/-- g divides p and q together just where it divides others that are made of them, and they of these -/
theorem IsG.conv {p q p' q' g : PS} (h : IsG p' q' g) (hp : Pl p) (hq : Pl q) (h1 : ∀ d, Dv d p' → Dv d q' → Dv d p ∧ Dv d q) (h2 : ∃ a b c d, Pl a ∧ Pl b ∧ Pl c ∧ Pl d ∧ p' = a * p + b * q ∧ q' = c * p + d * q) : IsG p q g := by
  obtain ⟨a, b, c, d, pa, pb, pc, pd, ep, eq⟩ := h2
  obtain ⟨w1, w2⟩ := h1 g h.dvl h.dvr
  obtain ⟨u, v, pu, pv, e⟩ := h.comb
  have e' : g = (u * a + v * c) * p + (u * b + v * d) * q := by rw [e, ep, eq]; grind
  refine ⟨hp, hq, ?_⟩
  rcases h.2.2 with ⟨rfl, _, _⟩ | ⟨n, m1, _⟩
  · exact .inl ⟨rfl, Dv.of_zero w1, Dv.of_zero w2⟩
  · exact .inr ⟨n, m1, w1, w2, _, _, (pu.mul pa).add (pv.mul pc), (pu.mul pb).add (pv.mul pd), e'⟩
theorem IsG.back {p q s r g : PS} {c : Rat} (h : IsG q (PS.C c * r) g) (hc : c ≠ 0) (ps : Pl s) (pr : Pl r) (e : p = s * q + r) : IsG p q g := by
  have z := C_cancel hc
  refine h.conv (by rw [e]; exact (ps.mul h.1).add pr) h.1 (fun d h1 h2 => ⟨?_, h1⟩) ⟨0, 1, PS.C c, -(PS.C c * s), Pl.zero, Pl.one, Pl.C c, ((Pl.C c).mul ps).neg, by grind, by rw [e]; grind⟩
  have h3 := h2.mul (PS.C c⁻¹) (Pl.C _)
  rw [show PS.C c⁻¹ * (PS.C c * r) = r by grind] at h3
  rw [e]
  exact (h1.mul s ps).add h3
/-- there is one -/
theorem IsG.ex : ∀ (n : Nat) {p q : PS}, Pl p → Lt q n → ∃ g, IsG p q g
  | 0, p, q, hp, hq => by
    have hq := hq.nil
    subst hq
    by_cases z : p = 0
    · subst z; exact ⟨0, Pl.zero, Pl.zero, .inl ⟨rfl, rfl, rfl⟩⟩
    · obtain ⟨m, hm⟩ := hp.dg z
      have c := C_cancel hm.2
      exact ⟨_, IsG.of hp Pl.zero hm.mon ⟨PS.C (p.f m), Pl.C _, by grind⟩ (Dv.zero _) (Pl.C (p.f m)⁻¹) Pl.zero (by grind)⟩
  | n + 1, p, q, hp, hq => by
    by_cases z : q = 0
    · subst z; exact IsG.ex n hp (Lt.zero _)
    · obtain ⟨j, hj⟩ := (show Pl q from ⟨_, hq⟩).dg z
      have := hj.lt hq
      obtain ⟨m, hm⟩ := hp
      obtain ⟨s, r, e, hr, hs⟩ := div_ex hj hm
      obtain ⟨g, hg⟩ := IsG.ex n (p := q) (q := r) hj.pl (hr.mono (by omega))
      refine ⟨g, IsG.back (c := 1) (r := r) (s := s) ?_ (by decide) ⟨_, hs⟩ ⟨_, hr⟩ e⟩
      rw [C_one, show (1 : PS) * r = r by grind]
      exact hg
open Classical in
noncomputable def gcd (p q : PS) : PS := if h : ∃ g, IsG p q g then h.choose else 0
theorem gcd_is {p q : PS} (hp : Pl p) (hq : Pl q) : IsG p q (gcd p q) := by
  obtain ⟨n, hn⟩ := hq
  have h : ∃ g, IsG p q g := IsG.ex n hp hn
  unfold gcd
  rw [dif_pos h]
  exact h.choose_spec
theorem gcd_eq {p q g : PS} (h : IsG p q g) : gcd p q = g := (gcd_is h.1 h.2.1).uniq h
theorem gcd_comm {p q : PS} (hp : Pl p) (hq : Pl q) : gcd p q = gcd q p := gcd_eq (gcd_is hq hp).symm
theorem gcd_mn {p q : PS} (hp : Pl p) (hq : Pl q) (h : p ≠ 0 ∨ q ≠ 0) : ∃ n, Mn (gcd p q) n := by
  obtain ⟨a, b, ⟨_, h1, h2⟩ | ⟨n, h1, _⟩⟩ := gcd_is hp hq
  · rcases h with h | h
    · exact absurd h1 h
    · exact absurd h2 h
  · exact ⟨n, h1⟩
/-! ### made monic -/
open Classical in
noncomputable def lc (s : PS) : Rat := if h : ∃ n, Dg s n then s.f h.choose else 0
theorem lc_eq {s : PS} {n : Nat} (h : Dg s n) : lc s = s.f n := by
  have z : ∃ n, Dg s n := ⟨n, h⟩
  unfold lc
  rw [dif_pos z, z.choose_spec.uniq h]
theorem lc_zero : lc 0 = 0 := by unfold lc; rw [dif_neg fun ⟨n, h⟩ => h.ne rfl]
theorem lc_ne {s : PS} (h : Pl s) (z : s ≠ 0) : lc s ≠ 0 := by
  obtain ⟨n, hn⟩ := h.dg z
  rw [lc_eq hn]
  exact hn.2
theorem lc_mul {a b : PS} (ha : Pl a) (hb : Pl b) : lc (a * b) = lc a * lc b := by
  by_cases za : a = 0
  · rw [za, show (0 : PS) * b = 0 by grind, lc_zero]; grind
  by_cases zb : b = 0
  · rw [zb, show a * (0 : PS) = 0 by grind, lc_zero]; grind
  obtain ⟨m, hm⟩ := ha.dg za
  obtain ⟨n, hn⟩ := hb.dg zb
  rw [lc_eq (hm.mul hn), lc_eq hm, lc_eq hn, top_mul hn.1 hm.1]
theorem Mn.lc {s : PS} {n : Nat} (h : Mn s n) : lc s = 1 := by rw [lc_eq h.dg, h.2]
noncomputable def mon (s : PS) : PS := PS.C (lc s)⁻¹ * s
theorem mon_zero : mon 0 = 0 := by unfold mon; grind
theorem mon_mn {s : PS} {n : Nat} (h : Dg s n) : Mn (mon s) n := by unfold mon; rw [lc_eq h]; exact h.mon
theorem mon_pl {s : PS} (h : Pl s) : Pl (mon s) := (Pl.C _).mul h
theorem mon_of {s : PS} {n : Nat} (h : Mn s n) : mon s = s := by
  unfold mon
  rw [h.lc, show (1 : Rat)⁻¹ = 1 by grind, C_one]
  grind
theorem mon_back {s : PS} (h : Pl s) : s = PS.C (lc s) * mon s := by
  by_cases z : s = 0
  · rw [z, mon_zero]; grind
  · have := C_cancel (lc_ne h z)
    unfold mon
    grind
theorem Hb.mon' {b : Nat} {s : PS} (h : Hb b s) (p : Pl s) : Hb b (AW.mon s) := by
  by_cases z : s = 0
  · rw [z, mon_zero]; exact Hb.zero b
  · obtain ⟨n, hn⟩ := p.dg z
    unfold AW.mon
    rw [lc_eq hn]
    exact h.mon hn
theorem mon_lt {s : PS} {n : Nat} (h : Lt s n) : Lt (mon s) n := h.smul _
theorem gcd_zero {p : PS} (h : Pl p) : gcd p 0 = mon p := by
  by_cases z : p = 0
  · subst z; rw [mon_zero]; exact gcd_eq ⟨Pl.zero, Pl.zero, .inl ⟨rfl, rfl, rfl⟩⟩
  · obtain ⟨n, hn⟩ := h.dg z
    have e := mon_back h
    exact gcd_eq (IsG.of h Pl.zero (mon_mn hn) ⟨_, Pl.C _, e⟩ (Dv.zero _) (Pl.C (lc p)⁻¹) Pl.zero (by unfold mon; grind))
/-- one turn of the walk -/
theorem gcd_step {p q s r : PS} (ps : Pl s) (pr : Pl r) (pq : Pl q) (e : p = s * q + r) : gcd p q = gcd q (mon r) := by
  by_cases z : r = 0
  · subst z
    rw [mon_zero]
    have e' : p = s * q := by rw [e]; grind
    refine gcd_eq (IsG.conv (gcd_is pq Pl.zero) (by rw [e']; exact ps.mul pq) pq (fun d h1 h2 => ⟨?_, h1⟩) ⟨0, 1, 0, 0, Pl.zero, Pl.one, Pl.zero, Pl.zero, by grind, by grind⟩)
    rw [e']
    exact h1.mul s ps
  · exact gcd_eq (IsG.back (c := (lc r)⁻¹) (gcd_is pq (mon_pl pr)) (by have := lc_ne pr z; grind) ps pr e)
/-! ### the quotient and the rest -/
open Classical in
noncomputable def quo (a b : PS) : PS := if h : ∃ s r, Pl s ∧ a = s * b + r ∧ (∀ n, Dg b n → Lt r n) then h.choose else 0
noncomputable def rem (a b : PS) : PS := a - quo a b * b
theorem quo_rem {a b : PS} {m n : Nat} (hb : Dg b n) (ha : Lt a m) : a = quo a b * b + rem a b ∧ Lt (rem a b) n ∧ Lt (quo a b) (m - n) := by
  obtain ⟨s, r, e, hr, hs⟩ := div_ex hb ha
  have h : ∃ s r, Pl s ∧ a = s * b + r ∧ (∀ n, Dg b n → Lt r n) := ⟨s, r, ⟨_, hs⟩, e, fun k hk => by rw [← hb.uniq hk]; exact hr⟩
  obtain ⟨r', h1, h2, h3⟩ := h.choose_spec
  have eq : quo a b = h.choose := by unfold quo; rw [dif_pos h]
  have u := div_uniq hb ⟨_, hs⟩ h1 (e.symm.trans h2) hr (h3 n hb)
  have e1 : quo a b = s := by rw [eq]; exact u.1.symm
  have e2 : rem a b = r := by unfold rem; rw [e1, e]; grind
  exact ⟨by rw [e2, e1]; exact e, by rw [e2]; exact hr, by rw [e1]; exact hs⟩
theorem quo_eq {a b s r : PS} {n : Nat} (hb : Dg b n) (ps : Pl s) (hr : Lt r n) (e : a = s * b + r) : quo a b = s ∧ rem a b = r := by
  have pa : Pl a := by rw [e]; exact (ps.mul hb.pl).add ⟨_, hr⟩
  obtain ⟨m, hm⟩ := pa
  obtain ⟨h1, h2, h3⟩ := quo_rem hb hm
  obtain ⟨u1, u2⟩ := div_uniq hb ⟨_, h3⟩ ps (h1.symm.trans e) h2 hr
  exact ⟨u1, u2⟩
theorem quo_mul {a b : PS} (pb : Pl b) (zb : b ≠ 0) (pa : Pl a) : quo (a * b) b = a ∧ rem (a * b) b = 0 := by
  obtain ⟨n, hn⟩ := pb.dg zb
  exact quo_eq hn pa (Lt.zero _) (by grind)
theorem quo_dv {a b : PS} (pb : Pl b) (zb : b ≠ 0) (h : Dv b a) : a = quo a b * b ∧ rem a b = 0 ∧ Pl (quo a b) := by
  obtain ⟨s, ps, e⟩ := h
  obtain ⟨h1, h2⟩ := quo_mul pb zb ps
  rw [← e] at h1 h2
  exact ⟨by rw [h1]; exact e, h2, by rw [h1]; exact ps⟩
end AW

/-! AwPo: series that end as data. -/
namespace AW
open PySem PySem.Spec PyProof.Rows
/-! ### the row of a series that ends -/
theorem getD_range (f : Nat → Rat) (N n : Nat) : ((List.range N).map f).getD n 0 = if n < N then f n else 0 := by
  by_cases h : n < N
  · rw [if_pos h]; simp [h]
  · rw [if_neg h]; simp [h]
theorem ser_range {s : PS} {N : Nat} (h : Lt s N) : ser ((List.range N).map s.f) = s := by
  ext n
  rw [ser_f, getD_range]
  by_cases z : n < N
  · rw [if_pos z]
  · rw [if_neg z, h n (by omega)]
theorem lt_ser (p : List Rat) : Lt (ser p) p.length := fun k hk => by rw [ser_f]; simp [hk]
theorem pl_ser (p : List Rat) : Pl (ser p) := ⟨_, lt_ser p⟩
open Classical in
noncomputable def toL (s : PS) : List Rat := if h : Pl s then trim ((List.range h.choose).map s.f) else []
theorem ser_toL {s : PS} (h : Pl s) : ser (toL s) = s := by
  unfold toL
  rw [dif_pos h, ser_trim, ser_range h.choose_spec]
theorem trim_toL (s : PS) : trim (toL s) = toL s := by
  unfold toL
  split
  · rw [trim_trim]
  · rfl
theorem toL_ser (p : List Rat) : toL (ser p) = trim p := by
  rw [← trim_toL]
  exact trim_ext (ser_toL (pl_ser p))
theorem toL_inj {a b : PS} (ha : Pl a) (hb : Pl b) (h : toL a = toL b) : a = b := by rw [← ser_toL ha, h, ser_toL hb]
theorem toL_zero : toL 0 = [] := toL_ser []
theorem toL_dg {s : PS} {n : Nat} (h : Dg s n) : toL s = (List.range (n + 1)).map s.f := by
  have e1 : ser (toL s) = ser ((List.range (n + 1)).map s.f) := by rw [ser_toL h.pl, ser_range h.1]
  have e2 := trim_ext e1
  rw [trim_toL] at e2
  rw [e2, List.range_succ, List.map_append]
  show trim (_ ++ [s.f n]) = _
  rw [trim_snoc, if_neg h.2]
  rfl
theorem toL_len {s : PS} {n : Nat} (h : Dg s n) : (toL s).length = n + 1 := by rw [toL_dg h]; simp
theorem toL_le {s : PS} {n : Nat} (h : Lt s n) : (toL s).length ≤ n := by
  by_cases z : s = 0
  · rw [z, toL_zero]; exact Nat.zero_le _
  · obtain ⟨m, hm⟩ := (show Pl s from ⟨_, h⟩).dg z
    rw [toL_len hm]
    exact hm.lt h
theorem toL_lt {s : PS} (h : Pl s) : Lt s (toL s).length := by
  have := lt_ser (toL s)
  rw [ser_toL h] at this
  exact this
theorem toL_getD {s : PS} (h : Pl s) (i : Nat) : (toL s).getD i 0 = s.f i := by rw [← ser_f, ser_toL h]
theorem toL_get {s : PS} (h : Pl s) {i : Nat} (hi : i < (toL s).length) : (toL s)[i]? = some (s.f i) := by
  have := toL_getD h i
  rw [List.getElem?_eq_getElem hi]
  rw [List.getD_eq_getElem?_getD, List.getElem?_eq_getElem hi] at this
  exact congrArg some this
theorem toL_nil {s : PS} (h : Pl s) : toL s = [] ↔ s = 0 := ⟨fun e => toL_inj h Pl.zero (by rw [e, toL_zero]), fun e => by rw [e, toL_zero]⟩
theorem toL_last {s : PS} {n : Nat} (h : Dg s n) : toL s = (List.range n).map s.f ++ [s.f n] := by rw [toL_dg h, List.range_succ, List.map_append]; rfl
/-! ### bits -/
theorem Bd.of_whole {b : Nat} {x : Rat} {k z : Int} (hk : k ≠ 0) (h1 : k.natAbs ≤ 2 ^ b) (e : (k : Rat) * x = z) (h2 : z.natAbs ≤ 2 ^ b) : Bd b x := by
  have hk' := int_ne hk
  have ex : x = Rat.divInt z k := by
    rw [Rat.divInt_eq_div, ← e]
    grind
  have := divInt_le (a := z) (b := k) hk
  rw [← ex] at this
  exact ⟨Nat.le_trans this.1 h2, Nat.le_trans this.2 h1⟩
theorem Hb.bd {b : Nat} {s : PS} (h : Hb b s) (i : Nat) : Bd b (s.f i) := by
  obtain ⟨k, h1, h2, h3⟩ := h
  obtain ⟨z, h4, h5⟩ := h3 i
  exact Bd.of_whole h1 h2 h4 h5
theorem Hb.bdL {b : Nat} {s : PS} (h : Hb b s) (p : Pl s) : BdL b (toL s) := fun x hx => by
  obtain ⟨i, hi⟩ := List.mem_iff_getElem?.mp hx
  have hlt := (List.getElem?_eq_some_iff.mp hi).1
  rw [toL_get p hlt] at hi
  rw [← Option.some.inj hi]
  exact h.bd i
theorem Hb.C {b : Nat} {c : Rat} (h : Bd b c) : Hb b (PS.C c) := by
  refine ⟨c.den, by have := c.den_nz; omega, by simpa using h.2, fun i => ?_⟩
  have e : (((c.den : Int) : Rat)) * c = c.num := by
    have e1 := Rat.num_divInt_den c
    rw [Rat.divInt_eq_div] at e1
    have hd' : ((c.den : Int) : Rat) ≠ 0 := int_ne (by have := c.den_nz; omega)
    generalize ((c.den : Int) : Rat) = d at *
    rw [← e1]
    grind
  show ∃ z : Int, _ * (if i = 0 then c else 0) = _ ∧ _
  by_cases z : i = 0
  · rw [if_pos z]; exact ⟨c.num, e, h.1⟩
  · rw [if_neg z]; exact ⟨0, by rw [Rat.mul_zero]; rfl, Nat.zero_le _⟩
theorem Hb.ofC {a b : Nat} {s : PS} {c : Rat} (hc : Bd a c) (h : Hb b s) : Hb (a + b) (PS.C c * s) := Hb.smul hc h
theorem Hb.one (b : Nat) : Hb b 1 := (Hb.C (c := 1) (Bd.one b))
theorem Hb.ser {b : Nat} : ∀ {p : List Rat}, BdL b p → Hb (p.length * (b + 1)) (ser p)
  | [], _ => Hb.zero _
  | a :: p, h => by
    have h1 := Hb.C (h a List.mem_cons_self)
    have h2 := (Hb.ser (p := p) fun x hx => h x (List.mem_cons_of_mem _ hx)).X_mul
    refine (h1.add h2).mono ?_
    rw [List.length_cons, Nat.add_mul]
    omega
/-! ### data -/
@[simp] theorem s2_isb (a b : Bool) : sem2 .is_ (.bool a) (.bool b) = v1 (.bool (a == b)) := rfl
@[simp] theorem s2_isnb (a b : Bool) : sem2 .isn (.bool a) (.bool b) = v1 (.bool (!(a == b))) := rfl
@[simp] theorem s2_isn (d : D) : sem2 .is_ d .none = v1 (.bool (match d with | .none => true | _ => false)) := by cases d <;> rfl
@[simp] theorem s2_isnn (d : D) : sem2 .isn d .none = v1 (.bool (match d with | .none => false | _ => true)) := by cases d <;> rfl
noncomputable def po (s : PS) : D := pol (toL s)
theorem pol_trim (p : List Rat) : pol (trim p) = po (ser p) := by unfold po; rw [toL_ser]
theorem po_zero : po 0 = .tuple [] := by unfold po; rw [toL_zero]; rfl
theorem po_one : po 1 = .tuple [fr 1] := by
  unfold po
  rw [toL_dg Mn.one.dg]
  rfl
theorem po_inj {a b : PS} (ha : Pl a) (hb : Pl b) : po a = po b ↔ a = b := ⟨fun h => by
  refine toL_inj ha hb ?_
  have e := eqv_pol (toL a) (toL b)
  rw [show pol (toL a) = pol (toL b) from h, eqv_pol] at e
  have : decide (toL b = toL b) = true := by simp
  rw [this] at e
  exact of_decide_eq_true e.symm, fun h => by rw [h]⟩
open Classical in
theorem eq_po {a b : PS} (ha : Pl a) (hb : Pl b) : sem2 .eq (po a) (po b) = v1 (.bool (decide (a = b))) := by
  unfold po
  rw [eq_pol]
  have : (toL a = toL b) ↔ a = b := ⟨toL_inj ha hb, fun h => by rw [h]⟩
  simp [this]
open Classical in
theorem ne_po {a b : PS} (ha : Pl a) (hb : Pl b) : sem2 .ne (po a) (po b) = v1 (.bool (!decide (a = b))) := by
  unfold po
  rw [ne_pol]
  have : (toL a = toL b) ↔ a = b := ⟨toL_inj ha hb, fun h => by rw [h]⟩
  simp [this]
@[simp] theorem eq_self (a : PS) : sem2 .eq (po a) (po a) = v1 (.bool true) := by unfold po; rw [eq_pol]; simp
@[simp] theorem ne_self (a : PS) : sem2 .ne (po a) (po a) = v1 (.bool false) := by unfold po; rw [ne_pol]; simp
open Classical in
theorem ne_po0 {a : PS} (ha : Pl a) : sem2 .ne (po a) (.tuple []) = v1 (.bool (!decide (a = 0))) := by rw [← po_zero]; exact ne_po ha Pl.zero
open Classical in
theorem eq_po0 {a : PS} (ha : Pl a) : sem2 .eq (po a) (.tuple []) = v1 (.bool (decide (a = 0))) := by rw [← po_zero]; exact eq_po ha Pl.zero
@[simp] theorem len_po (s : PS) : sem1 .len (po s) = v1 (.int (toL s).length) := by unfold po pol; rw [s1_lent, List.length_map]
@[simp] theorem seq_po (s : PS) : seqR (po s) = .ok ((toL s).map fr) := rfl
theorem idx_po {s : PS} (h : Pl s) {i : Nat} (hi : i < (toL s).length) : sem2 .idx (po s) (.int (i : Nat)) = v1 (fr (s.f i)) := by
  unfold po pol
  rw [s2_idxt, atD_nat (d := fr (s.f i))]
  rw [List.getElem?_map, toL_get h hi]
  rfl
theorem idx_last {s : PS} {n : Nat} (h : Dg s n) : sem2 .idx (po s) (.int (-1)) = v1 (fr (s.f n)) := by
  unfold po pol
  rw [s2_idxt, toL_last h, List.map_append]
  exact atD_last
/-- a series that ends before n, of few bits -/
structure Z (n h : Nat) (s : PS) : Prop where
  lt : Lt s n
  hb : Hb h s
theorem Z.pl {n h : Nat} {s : PS} (z : Z n h s) : Pl s := ⟨_, z.lt⟩
theorem Z.mono {m n h k : Nat} {s : PS} (z : Z m h s) (l1 : m ≤ n) (l2 : h ≤ k) : Z n k s := ⟨z.lt.mono l1, z.hb.mono l2⟩
theorem Z.zero (n h : Nat) : Z n h 0 := ⟨Lt.zero n, Hb.zero h⟩
theorem Z.one (n h : Nat) (hn : 1 ≤ n) : Z n h 1 := ⟨Lt.one.mono hn, Hb.one h⟩
theorem Z.add {m n h k : Nat} {a b : PS} (x : Z m h a) (y : Z n k b) : Z (max m n) (h + k + 1) (a + b) := ⟨(x.lt.mono (Nat.le_max_left _ _)).add (y.lt.mono (Nat.le_max_right _ _)), x.hb.add y.hb⟩
theorem Z.sub {m n h k : Nat} {a b : PS} (x : Z m h a) (y : Z n k b) : Z (max m n) (h + k + 1) (a - b) := ⟨(x.lt.mono (Nat.le_max_left _ _)).sub (y.lt.mono (Nat.le_max_right _ _)), x.hb.sub y.hb⟩
theorem Z.mul {m n h k l : Nat} {a b : PS} (x : Z m h a) (y : Z n k b) (hl : m ≤ 2 ^ l) : Z (m + n - 1) (h + k + l) (a * b) := ⟨x.lt.mul' y.lt (by omega), x.hb.mul y.hb x.lt hl⟩
theorem Z.smul {n h k : Nat} {c : Rat} {a : PS} (hc : Bd h c) (y : Z n k a) : Z n (h + k) (PS.C c * a) := ⟨y.lt.smul c, y.hb.ofC hc⟩
theorem Z.mon {n h : Nat} {a : PS} (x : Z n h a) : Z n h (AW.mon a) := ⟨mon_lt x.lt, x.hb.mon' x.pl⟩
theorem Z.bd {n h : Nat} {a : PS} (x : Z n h a) (i : Nat) : Bd h (a.f i) := x.hb.bd i
theorem Z.okL {n h : Nat} {a : PS} (x : Z n h a) (l : h ≤ 40000000) : OkL (toL a) := OkL.of (x.hb.bdL x.pl) l
theorem Z.ln {n h : Nat} {a : PS} (x : Z n h a) (l : n ≤ 100000) : Ln (toL a) := Nat.le_trans (toL_le x.lt) l
section
variable {G : Nat → D} {c : Nat → List Sl → R (D × Bool)} {T : List Fn} {nm : Nm}
theorem SpSum.z {j : Nat} (hs : SpSum c j) {a b : PS} {n h : Nat} (x : Z n h a) (y : Z n h b) (l : n ≤ 100000 ∧ h ≤ 40000000) : c j [.va (po a), .va (po b)] = va (po (a + b)) := by
  have e := hs (toL a) (toL b) (x.okL l.2) (y.okL l.2) (x.ln l.1) (y.ln l.1)
  rw [pol_trim, ser_add, ser_toL x.pl, ser_toL y.pl] at e
  exact e
theorem SpScaled.z {j : Nat} (hs : SpScaled c j) {a : PS} {x : Rat} {n h : Nat} (z : Z n h a) (hx : Bd h x) (l : n ≤ 100000 ∧ h ≤ 40000000) : c j [.va (po a), .va (fr x)] = va (po (PS.C x * a)) := by
  have e := hs (toL a) x (z.okL l.2) (Ok.of hx l.2) (z.ln l.1)
  rw [pol_trim, ser_smul, ser_toL z.pl] at e
  exact e
/-- the slope -/
def der (s : PS) : PS := ⟨fun n => ((n + 1 : Nat) : Rat) * s.f (n + 1)⟩
theorem ser_enum : ∀ (p : List Rat) (k : Nat), ser ((enumN k p).map fun (z : Nat × Rat) => (((z.1 + 1 : Nat) : Int) : Rat) * z.2) = ⟨fun n => (((k + n + 1 : Nat) : Int) : Rat) * p.getD n 0⟩
  | [], k => by
    ext n
    show (0 : PS).f n = _ * ([] : List Rat).getD n 0
    rw [PS.zero_f]
    simp
  | a :: p, k => by
    ext n
    show (PS.C ((((k + 1 : Nat) : Int) : Rat) * a) + PS.X * ser ((enumN (k + 1) p).map _)).f n = _
    rw [PS.add_f, PS.X_mul, ser_enum p (k + 1)]
    cases n with
    | zero =>
      show (if 0 = 0 then (((k + 1 : Nat) : Int) : Rat) * a else 0) + 0 = _ * a
      rw [if_pos rfl, Nat.add_zero]
      grind
    | succ n =>
      show (if n + 1 = 0 then (((k + 1 : Nat) : Int) : Rat) * a else (0 : Rat)) + (((k + 1 + n + 1 : Nat) : Int) : Rat) * p.getD n 0 = (((k + (n + 1) + 1 : Nat) : Int) : Rat) * p.getD n 0
      rw [if_neg (by omega), show k + 1 + n + 1 = k + (n + 1) + 1 by omega]
      grind
theorem ser_der (p : List Rat) : ser (derL p) = der (ser p) := by
  unfold derL
  rw [ser_enum]
  ext n
  show (((0 + n + 1 : Nat) : Int) : Rat) * (p.drop 1).getD n 0 = ((n + 1 : Nat) : Rat) * (ser p).f (n + 1)
  rw [ser_f, Nat.zero_add]
  have : (p.drop 1).getD n 0 = p.getD (n + 1) 0 := by cases p <;> simp
  rw [this]
  rfl
theorem Lt.der {s : PS} {n : Nat} (h : Lt s n) : Lt (AW.der s) (n - 1) := fun k hk => by
  show _ * s.f (k + 1) = 0
  rw [h (k + 1) (by omega)]
  grind
theorem Hb.der {s : PS} {n b l : Nat} (h : Hb b s) (z : Lt s n) (hl : n ≤ 2 ^ l) : Hb (b + l) (AW.der s) := by
  obtain ⟨k, h1, h2, h3⟩ := h
  refine ⟨k, h1, Nat.le_trans h2 (Nat.pow_le_pow_right (by decide) (by omega)), fun i => ?_⟩
  obtain ⟨w, h4, h5⟩ := h3 (i + 1)
  rcases Nat.lt_or_ge (i + 1) n with q | q
  · refine ⟨((i + 1 : Nat) : Int) * w, ?_, ?_⟩
    · show _ * (((i + 1 : Nat) : Rat) * s.f (i + 1)) = _
      rw [Rat.intCast_mul, ← h4]
      show _ = ((i + 1 : Nat) : Rat) * _
      grind
    · have := natAbs_mul_le (show (((i + 1 : Nat) : Int)).natAbs ≤ 2 ^ l by omega) h5
      rw [Nat.add_comm l b] at this
      exact this
  · refine ⟨0, ?_, Nat.zero_le _⟩
    show _ * (_ * s.f (i + 1)) = _
    rw [z _ q, Rat.mul_zero, Rat.mul_zero]
    rfl
theorem Z.der {n h l : Nat} {a : PS} (x : Z n h a) (hl : n ≤ 2 ^ l) : Z (n - 1) (h + l) (AW.der a) := ⟨x.lt.der, x.hb.der x.lt hl⟩
theorem SpSlope.z {j : Nat} (hs : SpSlope c j) {a : PS} {n h : Nat} (x : Z n h a) (l : n ≤ 100000 ∧ h ≤ 40000000) : c j [.va (po a)] = va (po (der a)) := by
  have e := hs (toL a) (x.okL l.2) (x.ln l.1)
  rw [pol_trim, ser_der, ser_toL x.pl] at e
  exact e
end
end AW

/-! AwGau: values of series that end; whole ones; a monic divisor has few bits. -/
namespace AW
open PS
/-! ### values -/
noncomputable def ev (s : PS) (x : Rat) : Rat := hv (toL s) x
theorem ev_ser (p : List Rat) (x : Rat) : ev (ser p) x = hv p x := by unfold ev; rw [toL_ser, hv_trim]
theorem ev_add {a b : PS} (ha : Pl a) (hb : Pl b) (x : Rat) : ev (a + b) x = ev a x + ev b x := by
  rw [← ser_toL ha, ← ser_toL hb, ← ser_add, ev_ser, ev_ser, ev_ser, hv_add]
theorem ev_mul {a b : PS} (ha : Pl a) (hb : Pl b) (x : Rat) : ev (a * b) x = ev a x * ev b x := by
  rw [← ser_toL ha, ← ser_toL hb, ← ser_mul, ev_ser, ev_ser, ev_ser, hv_mul]
theorem ev_C (c x : Rat) : ev (PS.C c) x = c := by
  have : PS.C c = ser [c] := by show _ = PS.C c + X * 0; grind
  rw [this, ev_ser]
  show c + x * 0 = c
  grind
theorem ev_zero (x : Rat) : ev 0 x = 0 := by rw [← C_zero, ev_C]
theorem ev_X (x : Rat) : ev X x = x := by
  have : X = ser [0, 1] := by show _ = PS.C 0 + X * (PS.C 1 + X * 0); rw [C_zero, C_one]; grind
  rw [this, ev_ser]
  show 0 + x * (1 + x * 0) = x
  grind
theorem ev_neg {a : PS} (ha : Pl a) (x : Rat) : ev (-a) x = -ev a x := by
  have := ev_add ha ha.neg x
  rw [show a + -a = (0 : PS) by grind, ev_zero] at this
  grind
theorem ev_sub {a b : PS} (ha : Pl a) (hb : Pl b) (x : Rat) : ev (a - b) x = ev a x - ev b x := by
  rw [show a - b = a + -b by grind, ev_add ha hb.neg, ev_neg hb]
  grind
/-! ### whole ones -/
def IP (s : PS) : Prop := ∀ i, ∃ z : Int, s.f i = z
theorem IP.add {a b : PS} (h : IP a) (k : IP b) : IP (a + b) := fun i => by
  obtain ⟨x, hx⟩ := h i; obtain ⟨y, hy⟩ := k i
  exact ⟨x + y, by rw [add_f, hx, hy, Rat.intCast_add]⟩
theorem IP.sub {a b : PS} (h : IP a) (k : IP b) : IP (a - b) := fun i => by
  obtain ⟨x, hx⟩ := h i; obtain ⟨y, hy⟩ := k i
  exact ⟨x - y, by rw [sub_f, hx, hy, Rat.intCast_sub]⟩
theorem conv_int : ∀ (n : Nat) (f g : Nat → Rat), (∀ i, ∃ z : Int, f i = z) → (∀ i, ∃ z : Int, g i = z) → ∃ z : Int, conv f g n = z
  | 0, f, g, h, k => by
    obtain ⟨x, hx⟩ := h 0; obtain ⟨y, hy⟩ := k 0
    exact ⟨x * y, by rw [conv, hx, hy, Rat.intCast_mul]⟩
  | n + 1, f, g, h, k => by
    obtain ⟨x, hx⟩ := h 0; obtain ⟨y, hy⟩ := k (n + 1)
    obtain ⟨w, hw⟩ := conv_int n (fun k => f (k + 1)) g (fun i => h (i + 1)) k
    exact ⟨x * y + w, by rw [conv, hx, hy, hw, Rat.intCast_add, Rat.intCast_mul]⟩
theorem IP.mul {a b : PS} (h : IP a) (k : IP b) : IP (a * b) := fun i => conv_int i a.f b.f h k
theorem IP.C (z : Int) : IP (PS.C z) := fun i => by
  show ∃ w : Int, (if i = 0 then (z : Rat) else 0) = w
  by_cases h : i = 0
  · rw [if_pos h]; exact ⟨z, rfl⟩
  · rw [if_neg h]; exact ⟨0, rfl⟩
theorem IP.X : IP X := fun i => by
  show ∃ w : Int, (if i = 1 then (1 : Rat) else 0) = w
  by_cases h : i = 1
  · rw [if_pos h]; exact ⟨1, rfl⟩
  · rw [if_neg h]; exact ⟨0, rfl⟩
theorem IP.Xpow (j : Nat) : IP (PS.X ^ j : PS) := fun i => by
  rw [Xpow_f]
  by_cases q : i = j
  · rw [if_pos q]; exact ⟨1, rfl⟩
  · rw [if_neg q]; exact ⟨0, rfl⟩
theorem IP.sh {a : PS} (h : IP a) : IP (AW.sh a) := fun i => h (i + 1)
theorem IP.ev {a : PS} (h : IP a) (p : Pl a) (n : Int) : ∃ z : Int, ev a n = z := by
  have go : ∀ p : List Rat, (∀ x ∈ p, ∃ z : Int, x = z) → ∃ z : Int, hv p n = z := fun p => by
    induction p with
    | nil => intro _; exact ⟨0, rfl⟩
    | cons a p ih =>
      intro h
      obtain ⟨x, hx⟩ := h a List.mem_cons_self
      obtain ⟨y, hy⟩ := ih fun x hx => h x (List.mem_cons_of_mem _ hx)
      exact ⟨x + n * y, by show a + n * hv p n = _; rw [hx, hy, Rat.intCast_add, Rat.intCast_mul]⟩
  refine go (toL a) fun x hx => ?_
  obtain ⟨i, hi⟩ := List.mem_iff_getElem?.mp hx
  have hlt := (List.getElem?_eq_some_iff.mp hi).1
  rw [toL_get p hlt] at hi
  rw [← Option.some.inj hi]
  exact h i
/-! ### primes -/
def Pr (l : Nat) : Prop := 1 < l ∧ ∀ a b : Int, (l : Int) ∣ a * b → (l : Int) ∣ a ∨ (l : Int) ∣ b
theorem prime_ex (N : Nat) (h : 1 < N) : ∃ l, Pr l ∧ l ∣ N := by
  have h0 : ∃ l, 1 < l ∧ l ∣ N := ⟨N, h, Nat.dvd_refl _⟩
  have min : ∀ m, (∃ l, l < m ∧ 1 < l ∧ l ∣ N) → ∃ l, (1 < l ∧ l ∣ N) ∧ ∀ k, k < l → ¬ (1 < k ∧ k ∣ N) := fun m => by
    induction m with
    | zero => rintro ⟨l, h, _⟩; omega
    | succ m ih =>
      rintro ⟨l, h1, h2⟩
      by_cases z : ∃ l, l < m ∧ 1 < l ∧ l ∣ N
      · exact ih z
      · refine ⟨l, h2, fun k hk hk2 => z ⟨k, by omega, hk2⟩⟩
  obtain ⟨l, ⟨h1, h2⟩, h3⟩ := min (N + 1) ⟨N, by omega, h, Nat.dvd_refl _⟩
  refine ⟨l, ⟨h1, fun a b hab => ?_⟩, h2⟩
  by_cases z : (l : Int) ∣ a
  · exact .inl z
  · right
    have hg : Nat.gcd l a.natAbs = 1 := by
      have d1 := Nat.gcd_dvd_left l a.natAbs
      have d2 := Nat.gcd_dvd_right l a.natAbs
      have le := Nat.le_of_dvd (by omega) d1
      rcases Nat.eq_or_lt_of_le le with e | e
      · rw [e] at d2
        exact absurd (Int.ofNat_dvd_left.mpr d2) z
      · have := h3 _ e
        have pos := Nat.gcd_pos_of_pos_left a.natAbs (show 0 < l by omega)
        rcases Nat.lt_or_ge 1 (Nat.gcd l a.natAbs) with q | q
        · exact absurd ⟨q, Nat.dvd_trans d1 h2⟩ this
        · omega
    have hab' : l ∣ a.natAbs * b.natAbs := by rw [← Int.natAbs_mul]; exact Int.ofNat_dvd_left.mp hab
    exact Int.ofNat_dvd_left.mpr (Nat.Coprime.dvd_of_dvd_mul_left hg hab')
/-! ### Gauss -/
theorem peel {l : Nat} {s : PS} (hs : IP s) : ∀ j, (∀ i, i < j → ∃ z : Int, s.f i = ((l : Int) * z : Int)) → ∃ t u, IP t ∧ IP u ∧ s = PS.C ((l : Int) : Rat) * t + X ^ j * u
  | 0, _ => ⟨0, s, fun i => ⟨0, by rw [zero_f]; rfl⟩, hs, by grind⟩
  | j + 1, h => by
    obtain ⟨t, u, ht, hu, e⟩ := peel hs j fun i hi => h i (by omega)
    obtain ⟨z, hz⟩ := h j (by omega)
    have eu := sh_eq u
    have e0 : u.f 0 = ((l : Int) : Rat) * (z - t.f j) := by
      have : s.f j = ((l : Int) : Rat) * t.f j + u.f 0 := by
        rw [e, add_f, C_mul, Xpow_mul, if_pos (Nat.le_refl _), Nat.sub_self]
      rw [hz, Rat.intCast_mul] at this
      grind
    obtain ⟨w, hw⟩ := ht j
    refine ⟨t + X ^ j * PS.C (((z - w : Int)) : Rat), sh u, ht.add ?_, hu.sh, ?_⟩
    · exact (IP.Xpow j).mul (IP.C _)
    · have ec : PS.C (u.f 0) = PS.C ((l : Int) : Rat) * PS.C ((z - w : Int) : Rat) := by
        rw [← PS.C_mulC, e0, hw, Rat.intCast_sub]
      rw [e]
      conv => lhs; rw [eu, ec]
      grind
theorem l_ne {l : Nat} (h : Pr l) : ((l : Int) : Rat) ≠ 0 := int_ne (by have := h.1; omega)
/-- a prime that divides a product, but not the one, divides the other -/
theorem prime_mul {l : Nat} (hl : Pr l) {a b t : PS} (ha : IP a) (hb : IP b) (ht : IP t) (e : a * b = PS.C ((l : Int) : Rat) * t) {i : Nat} (h0 : ∀ k, k < i → ∃ z : Int, a.f k = ((l : Int) * z : Int)) (h1 : ¬ ∃ z : Int, a.f i = ((l : Int) * z : Int)) : ∀ j, ∃ z : Int, b.f j = ((l : Int) * z : Int) := by
  obtain ⟨t1, a', ht1, ha', ea⟩ := peel ha i h0
  have h1' : ¬ ∃ z : Int, a'.f 0 = ((l : Int) * z : Int) := fun ⟨z, hz⟩ => h1 (by
    obtain ⟨w, hw⟩ := ht1 i
    refine ⟨w + z, ?_⟩
    rw [ea, add_f, C_mul, Xpow_mul, if_pos (Nat.le_refl _), Nat.sub_self, hz, hw]
    grind)
  have go : ∀ j, ∀ k, k < j → ∃ z : Int, b.f k = ((l : Int) * z : Int) := fun j => by
    induction j with
    | zero => intro k hk; omega
    | succ j ih =>
      intro k hk
      rcases Nat.lt_or_ge k j with q | q
      · exact ih k q
      · have : k = j := by omega
        subst this
        obtain ⟨t2, b', ht2, hb', eb⟩ := peel hb k ih
        -- the product of a' and b' at 0
        have e2 : X ^ (i + k) * (a' * b') = PS.C ((l : Int) : Rat) * (t - t1 * b - X ^ i * (a' * t2)) := by
          have : a * b = PS.C ((l : Int) : Rat) * (t1 * b) + PS.C ((l : Int) : Rat) * (X ^ i * (a' * t2)) + X ^ (i + k) * (a' * b') := by
            conv => lhs; rw [ea]
            conv => lhs; rw [show (PS.C ((l : Int) : Rat) * t1 + X ^ i * a') * b = PS.C ((l : Int) : Rat) * (t1 * b) + X ^ i * a' * b by grind]
            have ex : (X ^ (i + k) : PS) = X ^ i * X ^ k := by grind
            rw [ex]
            conv => lhs; rhs; rw [eb]
            grind
          grind
        have ip : IP (t - t1 * b - X ^ i * (a' * t2)) := by
          exact (ht.sub (ht1.mul hb)).sub ((IP.Xpow i).mul (ha'.mul ht2))
        obtain ⟨w, hw⟩ := ip (i + k)
        have e3 : a'.f 0 * b'.f 0 = ((l : Int) * w : Int) := by
          have q : (X ^ (i + k) * (a' * b')).f (i + k) = (PS.C ((l : Int) : Rat) * (t - t1 * b - X ^ i * (a' * t2))).f (i + k) := by rw [e2]
          rw [Xpow_mul, if_pos (Nat.le_refl _), Nat.sub_self, C_mul, hw] at q
          rw [Rat.intCast_mul, ← q]
          rfl
        obtain ⟨x, hx⟩ := ha' 0
        obtain ⟨y, hy⟩ := hb' 0
        rw [hx, hy, ← Rat.intCast_mul] at e3
        have e4 : x * y = (l : Int) * w := Rat.intCast_inj.mp e3
        rcases hl.2 x y ⟨w, e4⟩ with ⟨z, hz⟩ | ⟨z, hz⟩
        · exact absurd ⟨z, by rw [hx, hz]⟩ h1'
        · obtain ⟨v, hv⟩ := ht2 k
          refine ⟨v + z, ?_⟩
          rw [eb, add_f, C_mul, Xpow_mul, if_pos (Nat.le_refl _), Nat.sub_self, hy, hz, hv]
          grind
  exact fun j => go (j + 1) j (by omega)
/-- the least of some numbers -/
theorem least {P : Nat → Prop} {n : Nat} (h : P n) : ∃ m, P m ∧ ∀ k, k < m → ¬ P k := by
  have go : ∀ m, (∃ l, l < m ∧ P l) → ∃ l, P l ∧ ∀ k, k < l → ¬ P k := fun m => by
    induction m with
    | zero => rintro ⟨l, h, _⟩; omega
    | succ m ih =>
      rintro ⟨l, h1, h2⟩
      by_cases z : ∃ l, l < m ∧ P l
      · exact ih z
      · exact ⟨l, h2, fun k hk hk2 => z ⟨k, by omega, hk2⟩⟩
  exact go (n + 1) ⟨n, by omega, h⟩
/-- a monic one over its least number below: no prime divides all its numbers -/
theorem primitive {g : PS} {d b : Nat} (hg : Mn g d) (h : Hb b g) : ∃ k : Nat, 0 < k ∧ IP (PS.C ((k : Int) : Rat) * g) ∧ ∀ l, Pr l → ∃ i, (∀ j, j < i → ∃ z : Int, (PS.C ((k : Int) : Rat) * g).f j = ((l : Int) * z : Int)) ∧ ¬ ∃ z : Int, (PS.C ((k : Int) : Rat) * g).f i = ((l : Int) * z : Int) := by
  obtain ⟨K, k1, k2, k3⟩ := h
  have h0 : 0 < K.natAbs ∧ IP (PS.C ((K.natAbs : Int) : Rat) * g) := ⟨by omega, fun i => by
    obtain ⟨z, hz, _⟩ := k3 i
    rw [C_mul]
    rcases Int.natAbs_eq K with e | e
    · rw [← e]; exact ⟨z, hz⟩
    · rw [show ((K.natAbs : Int) : Rat) = -(K : Rat) by rw [← Rat.intCast_neg]; congr 1; omega]
      exact ⟨-z, by rw [Rat.intCast_neg, ← hz]; grind⟩⟩
  obtain ⟨k, ⟨kp, ki⟩, kmin⟩ := least (P := fun k => 0 < k ∧ IP (PS.C ((k : Int) : Rat) * g)) h0
  refine ⟨k, kp, ki, fun l hl => ?_⟩
  have hex : ∃ i, ¬ ∃ z : Int, (PS.C ((k : Int) : Rat) * g).f i = ((l : Int) * z : Int) := Classical.byContradiction fun q => by
    have q : ∀ i, ∃ z : Int, (PS.C ((k : Int) : Rat) * g).f i = ((l : Int) * z : Int) := fun i => Classical.byContradiction fun r => q ⟨i, r⟩
    obtain ⟨w, hw⟩ := q d
    rw [C_mul, hg.2, show ((k : Int) : Rat) * 1 = ((k : Int) : Rat) by grind] at hw
    have hw := Rat.intCast_inj.mp hw
    have hl1 := hl.1
    have wpos : 0 < w := by
      rcases (by omega : w ≤ 0 ∨ 0 < w) with r | r
      · have : (l : Int) * w ≤ 0 := Int.mul_nonpos_of_nonneg_of_nonpos (by omega) r
        omega
      · exact r
    have hwk : w.toNat < k := by
      have : (2 : Int) * w ≤ (l : Int) * w := Int.mul_le_mul_of_nonneg_right (by omega) (by omega)
      omega
    refine kmin _ hwk ⟨by omega, fun i => ?_⟩
    obtain ⟨z, hz⟩ := q i
    refine ⟨z, ?_⟩
    rw [C_mul] at hz ⊢
    rw [Int.toNat_of_nonneg (by omega)]
    have l0 := l_ne hl
    rw [hw, Rat.intCast_mul, Rat.intCast_mul] at hz
    grind
  obtain ⟨i, hi⟩ := hex
  obtain ⟨m, hm, hmin⟩ := least (P := fun i => ¬ ∃ z : Int, (PS.C ((k : Int) : Rat) * g).f i = ((l : Int) * z : Int)) hi
  exact ⟨m, fun j hj => Classical.byContradiction fun q => hmin j hj q, hm⟩
/-- Gauss: a whole one parted by a primitive one is whole -/
theorem gauss {a q : PS} {b n : Nat} (ha : IP a) (hpr : ∀ l, Pr l → ∃ i, (∀ j, j < i → ∃ z : Int, a.f j = ((l : Int) * z : Int)) ∧ ¬ ∃ z : Int, a.f i = ((l : Int) * z : Int)) (hq : Hb b q) (h : IP (a * q)) : IP q := by
  obtain ⟨K, k1, k2, k3⟩ := hq
  have h0 : 0 < K.natAbs ∧ IP (PS.C ((K.natAbs : Int) : Rat) * q) := ⟨by omega, fun i => by
    obtain ⟨z, hz, _⟩ := k3 i
    rw [C_mul]
    rcases Int.natAbs_eq K with e | e
    · rw [← e]; exact ⟨z, hz⟩
    · rw [show ((K.natAbs : Int) : Rat) = -(K : Rat) by rw [← Rat.intCast_neg]; congr 1; omega]
      exact ⟨-z, by rw [Rat.intCast_neg, ← hz]; grind⟩⟩
  obtain ⟨k, ⟨kp, ki⟩, kmin⟩ := least (P := fun k => 0 < k ∧ IP (PS.C ((k : Int) : Rat) * q)) h0
  rcases Nat.lt_or_ge 1 k with hk | hk
  · exfalso
    obtain ⟨l, hl, w, hw⟩ := prime_ex k hk
    obtain ⟨i, h1, h2⟩ := hpr l hl
    have l0 := l_ne hl
    have ek : ((k : Int) : Rat) = ((l : Int) : Rat) * ((w : Int) : Rat) := by rw [← Rat.intCast_mul, hw]; rfl
    have e : a * (PS.C ((k : Int) : Rat) * q) = PS.C ((l : Int) : Rat) * (PS.C ((w : Int) : Rat) * (a * q)) := by
      rw [ek, PS.C_mulC]; grind
    have hb := prime_mul hl ha ki ((IP.C _).mul h) e h1 h2
    have hw1 : 0 < w := by
      rcases Nat.eq_zero_or_pos w with r | r
      · subst r; omega
      · exact r
    have hl1 := hl.1
    have hwk : w < k := by
      have : 2 * w ≤ l * w := Nat.mul_le_mul_right _ (by omega)
      omega
    refine kmin w hwk ⟨hw1, fun i => ?_⟩
    obtain ⟨z, hz⟩ := hb i
    refine ⟨z, ?_⟩
    rw [C_mul, ek, Rat.intCast_mul] at hz
    rw [C_mul]
    grind
  · have : k = 1 := by omega
    subst this
    intro i
    obtain ⟨z, hz⟩ := ki i
    refine ⟨z, ?_⟩
    rw [C_mul] at hz
    rw [← hz]
    show q.f i = ((1 : Int) : Rat) * q.f i
    grind
end AW

/-! AwB2: bodies. -/
namespace AW
open PySem
/-- turned: p0 NoFraction, p1 fraction -/
def b_turned (p0 p1 : Nat) : Ss :=
  (.cons (.ite (.op2 .eq (.op2 .idx (.var 0) (.con (.int 0))) (.con (.int 0))) (.cons (.rai p0) .nil) (.nil))
    (.cons (.ret (.call p1 (.cons (.op2 .idx (.var 0) (.con (.int 1))) (.cons (.op2 .idx (.var 0) (.con (.int 0))) .nil)) 0)) .nil))
/-- monic: p0 scaled, p1 turned -/
def b_monic (p0 p1 : Nat) : Ss :=
  (.cons (.ret (.ife (.op2 .ne (.var 0) (.tup .nil)) (.call p0 (.cons (.var 0) (.cons (.call p1 (.cons (.op2 .idx (.var 0) (.op1 .neg (.con (.int 1)))) .nil) 0) .nil)) 0) (.tup .nil))) .nil)
/-- negated:  -/
def b_negated : Ss :=
  (.cons (.ret (.tup (.cons (.op1 .neg (.op2 .idx (.var 0) (.con (.int 0)))) (.cons (.op2 .idx (.var 0) (.con (.int 1))) .nil)))) .nil)
/-- poly_parted: p0 NoPoly, p1 turned, p2 NOUGHT, p3 by, p4 plus, p5 negated, p6 trimmed -/
def b_poly_parted (p0 p1 p2 p3 p4 p5 p6 : Nat) : Ss :=
  (.cons (.ite (.op2 .eq (.var 1) (.tup .nil)) (.cons (.rai p0) .nil) (.nil))
    (.cons (.asg (.nm 2) (.call p1 (.cons (.op2 .idx (.var 1) (.op1 .neg (.con (.int 1)))) .nil) 0))
    (.cons (.asgO 3 (.op1 .list (.var 0)))
    (.cons (.asgO 4 (.rep (.cons (.glb p2) .nil) (.op2 .max2 (.con (.int 0)) (.op2 .add (.op2 .sub (.op1 .len (.var 0)) (.op1 .len (.var 1))) (.con (.int 1))))))
    (.cons (.for_ (.nm 5) (.revr (.op1 .len (.peek 4))) (.cons (.asg (.nm 6) (.call p3 (.cons (.op2 .idx (.peek 3) (.op2 .sub (.op2 .add (.var 5) (.op1 .len (.var 1))) (.con (.int 1)))) (.cons (.var 2) .nil)) 0))
    (.cons (.setI 4 (.var 5) (.var 6))
    (.cons (.for_ (.tp (.cons (.nm 7) (.cons (.nm 8) .nil))) (.enum (.var 1)) (.cons (.setI 3 (.op2 .add (.var 5) (.var 7)) (.call p4 (.cons (.op2 .idx (.peek 3) (.op2 .add (.var 5) (.var 7))) (.cons (.call p5 (.cons (.call p3 (.cons (.var 6) (.cons (.var 8) .nil)) 0) .nil) 0) .nil)) 0)) .nil)) .nil))))
    (.cons (.frz 4)
    (.cons (.frz 3)
    (.cons (.ret (.tup (.cons (.call p6 (.cons (.var 4) .nil) 0) (.cons (.call p6 (.cons (.var 3) .nil) 0) .nil)))) .nil))))))))
/-- common: p0 monic, p1 poly_parted -/
def b_common (p0 p1 : Nat) : Ss :=
  (.cons (.whl (.op2 .ne (.var 1) (.tup .nil)) (.cons (.par [0, 1] (.cons (.var 1) (.cons (.call p0 (.cons (.op2 .idx (.call p1 (.cons (.var 0) (.cons (.var 1) .nil)) 0) (.con (.int 1))) .nil) 0) .nil))) .nil))
    (.cons (.ret (.call p0 (.cons (.var 0) .nil) 0)) .nil))
/-- often_in: p0 poly_parted -/
def b_often_in (p0 : Nat) : Ss :=
  (.cons (.ret (.op2 .idx (.call p0 (.cons (.var 0) (.cons (.var 1) .nil)) 0) (.con (.int 0)))) .nil)
/-- simple_parts: p0 NoPoly, p1 monic, p2 poly_slope, p3 common, p4 often_in, p5 poly_sum, p6 scaled, p7 negated -/
def b_simple_parts (p0 p1 p2 p3 p4 p5 p6 p7 : Nat) : Ss :=
  (.cons (.ite (.op2 .eq (.var 0) (.tup .nil)) (.cons (.rai p0) .nil) (.nil))
    (.cons (.asg (.nm 0) (.call p1 (.cons (.var 0) .nil) 0))
    (.cons (.asg (.nm 1) (.call p2 (.cons (.var 0) .nil) 0))
    (.cons (.asg (.nm 2) (.call p3 (.cons (.var 0) (.cons (.var 1) .nil)) 0))
    (.cons (.asg (.nm 3) (.call p4 (.cons (.var 0) (.cons (.var 2) .nil)) 0))
    (.cons (.asg (.nm 4) (.call p5 (.cons (.call p4 (.cons (.var 1) (.cons (.var 2) .nil)) 0) (.cons (.call p6 (.cons (.call p2 (.cons (.var 3) .nil) 0) (.cons (.call p7 (.cons (.tup (.cons (.con (.int 1)) (.cons (.con (.int 1)) .nil))) .nil) 0) .nil)) 0) .nil)) 0))
    (.cons (.asgO 5 (.lst .nil))
    (.cons (.asg (.nm 6) (.con (.int 1)))
    (.cons (.whl (.op2 .gt (.op1 .len (.var 3)) (.con (.int 1))) (.cons (.asg (.nm 7) (.call p3 (.cons (.var 3) (.cons (.var 4) .nil)) 0))
    (.cons (.ite (.op2 .gt (.op1 .len (.var 7)) (.con (.int 1))) (.cons (.app 5 (.tup (.cons (.var 7) (.cons (.var 6) .nil)))) .nil) (.nil))
    (.cons (.asg (.nm 3) (.call p4 (.cons (.var 3) (.cons (.var 7) .nil)) 0))
    (.cons (.asg (.nm 4) (.call p5 (.cons (.call p4 (.cons (.var 4) (.cons (.var 7) .nil)) 0) (.cons (.call p6 (.cons (.call p2 (.cons (.var 3) .nil) 0) (.cons (.call p7 (.cons (.tup (.cons (.con (.int 1)) (.cons (.con (.int 1)) .nil))) .nil) 0) .nil)) 0) .nil)) 0))
    (.cons (.aug 6 .add (.con (.int 1))) .nil))))))
    (.cons (.retO 5) .nil))))))))))
end AW

/-! AwDiv: turned, negated, monic, products by bits, division with rest. -/
namespace AW
open PySem PySem.Spec PyProof.Rows
/-! ### whole over one number -/
def Nb (K : Int) (L : Nat) (x : Rat) : Prop := ∃ z : Int, (K : Rat) * x = z ∧ z.natAbs ≤ L
theorem Nb.mono {K : Int} {L M : Nat} {x : Rat} (h : Nb K L x) (l : L ≤ M) : Nb K M x := by obtain ⟨z, h1, h2⟩ := h; exact ⟨z, h1, Nat.le_trans h2 l⟩
theorem Nb.zero (K : Int) (L : Nat) : Nb K L 0 := ⟨0, by rw [Rat.mul_zero]; rfl, Nat.zero_le _⟩
theorem Nb.add {K : Int} {L M : Nat} {x y : Rat} (h : Nb K L x) (k : Nb K M y) : Nb K (L + M) (x + y) := by
  obtain ⟨z, h1, h2⟩ := h
  obtain ⟨w, k1, k2⟩ := k
  refine ⟨z + w, by rw [Rat.intCast_add, ← h1, ← k1]; grind, ?_⟩
  have := Int.natAbs_add_le z w
  omega
theorem Nb.mul {K J : Int} {L M : Nat} {x y : Rat} (h : Nb K L x) (k : Nb J M y) : Nb (K * J) (L * M) (x * y) := by
  obtain ⟨z, h1, h2⟩ := h
  obtain ⟨w, k1, k2⟩ := k
  refine ⟨z * w, by rw [Rat.intCast_mul, Rat.intCast_mul, ← h1, ← k1]; grind, ?_⟩
  rw [Int.natAbs_mul]
  exact Nat.mul_le_mul h2 k2
theorem Nb.neg {K : Int} {L : Nat} {x : Rat} (h : Nb K L x) : Nb K L (-x) := by
  obtain ⟨z, h1, h2⟩ := h
  exact ⟨-z, by rw [Rat.intCast_neg, ← h1]; grind, by omega⟩
theorem Nb.scale {K J : Int} {L M : Nat} {x : Rat} (h : Nb K L x) (l : J.natAbs ≤ M) : Nb (K * J) (L * M) x := by
  obtain ⟨z, h1, h2⟩ := h
  refine ⟨z * J, by rw [Rat.intCast_mul, Rat.intCast_mul, ← h1]; grind, ?_⟩
  rw [Int.natAbs_mul]
  exact Nat.mul_le_mul h2 l
theorem Nb.bd {K : Int} {L b : Nat} {x : Rat} (h : Nb K L x) (hK : K ≠ 0) (h1 : K.natAbs ≤ 2 ^ b) (h2 : L ≤ 2 ^ b) : Bd b x := by
  obtain ⟨z, e, l⟩ := h
  exact Bd.of_whole hK h1 e (Nat.le_trans l h2)
section
variable {G : Nat → D} {c : Nat → List Sl → R (D × Bool)} {T : List Fn} {nm : Nm}
/-! ### fractions -/
def SpNeg (c : Nat → List Sl → R (D × Bool)) (j : Nat) : Prop := ∀ p : Rat, c j [.va (fr p)] = va (fr (-p))
theorem negated_ok (p : Rat) : bo G c T b_negated [.va (fr p)] 0 = va (fr (-p)) := by
  have c2 : (2 : Nat) ≤ line := by unfold line; omega
  unfold bo b_negated
  simp [val, c2]
  unfold fr
  rw [Rat.neg_num, Rat.neg_den]
def SpTurn (c : Nat → List Sl → R (D × Bool)) (j : Nat) : Prop := ∀ p : Rat, p ≠ 0 → c j [.va (fr p)] = va (fr p⁻¹)
theorem inv_divInt {p : Rat} (h : p ≠ 0) : Rat.divInt p.den p.num = p⁻¹ := by
  have e := Rat.num_divInt_den p
  rw [Rat.divInt_eq_div] at e ⊢
  have hd : ((p.den : Int) : Rat) ≠ 0 := int_ne (by have := p.den_nz; omega)
  have hn : (p.num : Rat) ≠ 0 := int_ne (by rw [Ne, Rat.num_eq_zero]; exact h)
  generalize ((p.den : Int) : Rat) = d at *
  generalize (p.num : Rat) = n at *
  rw [← e]
  grind
theorem turned_ok {e jf : Nat} (hf : SpFrac c jf) {p : Rat} (h : p ≠ 0) : bo G c T (b_turned e jf) [.va (fr p)] 0 = va (fr p⁻¹) := by
  have hn : p.num ≠ 0 := by rw [Ne, Rat.num_eq_zero]; exact h
  have e1 := hf p.den p.num hn
  rw [inv_divInt h] at e1
  unfold bo b_turned
  simp [val, hn, e1, h]
/-! ### made monic -/
def SpMon (c : Nat → List Sl → R (D × Bool)) (j : Nat) : Prop := ∀ (a : PS) (n h : Nat), Z n h a → n ≤ 40000 ∧ h ≤ 40000000 → c j [.va (po a)] = va (po (mon a))
theorem monic_ok {js jt : Nat} (hs : SpScaled c js) (ht : SpTurn c jt) {a : PS} {n h : Nat} (z : Z n h a) (l : n ≤ 40000 ∧ h ≤ 40000000) : bo G c T (b_monic js jt) [.va (po a)] 0 = va (po (mon a)) := by
  have c0 : (0 : Nat) ≤ line := Nat.zero_le _
  have e0 := ne_po0 z.pl
  unfold bo b_monic
  by_cases h0 : a = 0
  · subst h0
    simp [val, c0, e0]
    rw [mon_zero, po_zero]
  · obtain ⟨m, hm⟩ := z.pl.dg h0
    have e1 := idx_last hm
    have e2 := ht (a.f m) hm.2
    have b1 : Bd h (a.f m)⁻¹ := by
      have b := z.bd m
      have nz : (a.f m).num ≠ 0 := by rw [Ne, Rat.num_eq_zero]; exact hm.2
      rw [← inv_divInt hm.2]
      have := divInt_le (a := ((a.f m).den : Int)) (b := (a.f m).num) nz
      exact ⟨Nat.le_trans this.1 (by simpa using b.2), Nat.le_trans this.2 b.1⟩
    have e3 := hs.z z b1 ⟨by omega, l.2⟩
    simp [val, c0, e0, h0, e1, e2, e3]
    unfold mon
    rw [lc_eq hm]
/-! ### products -/
def SpProdZ (c : Nat → List Sl → R (D × Bool)) (j : Nat) : Prop := ∀ (a b : PS) (m n h k l : Nat), Z m h a → Z n k b → m ≤ 2 ^ l ∧ h + k + l ≤ 40000000 ∧ m ≤ 40000 ∧ n ≤ 40000 → c j [.va (po a), .va (po b)] = va (po (a * b))
theorem prodZ_ok {kN jp jb jt : Nat} (hG : G kN = fr 0) (hp : SpPlus c jp) (hb : SpBy c jb) (ht : SpTrim c jt) {a b : PS} {m0 n0 h0 k0 l0 : Nat} (za : Z m0 h0 a) (zb : Z n0 k0 b) (hz : m0 ≤ 2 ^ l0 ∧ h0 + k0 + l0 ≤ 40000000 ∧ m0 ≤ 40000 ∧ n0 ≤ 40000) :
    bo G c T (b_poly_product kN jp jb jt) [.va (po a), .va (po b)] 5 = va (po (a * b)) := by
  obtain ⟨hl, hs, hm0, hn0⟩ := hz
  have pa := za.pl
  have pb := zb.pl
  obtain ⟨ka, ka1, ka2, ka3⟩ := za.hb
  obtain ⟨kb, kb1, kb2, kb3⟩ := zb.hb
  have l1 := toL_le za.lt
  have l2 := toL_le zb.lt
  have sea := ser_toL pa
  have seb := ser_toL pb
  have geta := fun {i : Nat} (h : i < (toL a).length) => toL_get pa h
  have getb := fun {i : Nat} (h : i < (toL b).length) => toL_get pb h
  unfold po
  generalize hP : toL a = p at *
  generalize hQ : toL b = q at *
  obtain ⟨n, hn, hm⟩ : ∃ n : Nat, max 0 ((p.length : Int) + (q.length : Int) - 1) = (n : Int) ∧ n = p.length + q.length - 1 := ⟨p.length + q.length - 1, by omega, rfl⟩
  have c1 : (-1000000 : Int) ≤ (n : Int) := by omega
  have c2 : (n : Int) ≤ 1000000 := by omega
  have c3 : n ≤ line := by unfold line; omega
  have c4 : (1 : Nat) ≤ line := by unfold line; omega
  have lp : sem1 .len (pol p) = v1 (.int p.length) := by simp [pol]
  have lq : sem1 .len (pol q) = v1 (.int q.length) := by simp [pol]
  have sp : seqR (pol p) = .ok (p.map fr) := rfl
  have sq : seqR (pol q) = .ok (q.map fr) := rfl
  have hpow : (2 : Nat) ^ (h0 + k0) = 2 ^ h0 * 2 ^ k0 := Nat.pow_add _ _ _
  have small : ∀ {i : Nat} {x : Rat}, i ≤ p.length → Nb (ka * kb) (i * 2 ^ (h0 + k0)) x → Ok x := fun {i x} hi h => by
    refine Ok.of (h.bd (b := h0 + k0 + l0) (Int.mul_ne_zero ka1 kb1) ?_ ?_) hs
    · exact Nat.le_trans (natAbs_mul_le ka2 kb2) (Nat.pow_le_pow_right (by decide) (by omega))
    · rw [Nat.pow_add _ _ l0, Nat.mul_comm]
      exact Nat.mul_le_mul (Nat.le_refl _) (by omega)
  unfold bo b_poly_product
  simp [val, hG, es_for, lp, lq, hn, c1, c2, c3, c4, sp, sq]
  have e0 : List.replicate n (fr 0) = (List.replicate n (0 : Rat)).map fr := by simp
  rw [e0, enumD_map]
  refine forR_then (P := fun r => outF (r.bind _) = _) (I := fun i en => ∃ F z3 z4 z5 z6, en = [.va (pol p), .va (pol q), .ow (F.map fr), z3, z4, z5, z6] ∧ F.length = n ∧ ser F = ser (p.take i) * ser q ∧ ∀ x ∈ F, Nb (ka * kb) (i * 2 ^ (h0 + k0)) x) ?_ ⟨List.replicate n 0, _, _, _, _, rfl, by simp, ?_, ?_⟩ ?_
  · rintro i en d hi ⟨F0, z3, z4, z5, z6, rfl, k1, k2, k3⟩
    rw [List.getElem?_map, enumN_get] at hi
    cases hx : p[i]? with
    | none => rw [hx] at hi; cases hi
    | some x =>
      rw [hx] at hi
      cases Option.some.inj hi
      have hil := (List.getElem?_eq_some_iff.mp hx).1
      have ex : x = a.f i := by have := geta hil; rw [hx] at this; exact Option.some.inj this
      have bx : Bd h0 x := by rw [ex]; exact za.bd i
      have nx : Nb ka (2 ^ h0) x := by rw [ex]; exact ka3 i
      simp [val, es_for, sq]
      rw [enumD_map]
      generalize hR : forR _ _ _ _ = r
      have key : ∃ en', r = .ok (.nx en') ∧ ∃ F z5 z6, en' = [.va (pol p), .va (pol q), .ow (F.map fr), .va (.int (i : Nat)), .va (fr x), z5, z6] ∧ F.length = n ∧ ser F = ser F0 + PS.X ^ i * (PS.C x * ser q) ∧ ∀ x ∈ F, Nb (ka * kb) ((i + 1) * 2 ^ (h0 + k0)) x := by
       rw [← hR]
       refine forR_ex (I := fun k en => ∃ F z5 z6, en = [.va (pol p), .va (pol q), .ow (F.map fr), .va (.int (i : Nat)), .va (fr x), z5, z6] ∧ F.length = n ∧
        ser F = ser F0 + PS.X ^ i * (PS.C x * ser (q.take k)) ∧ (∀ x ∈ F, Nb (ka * kb) ((i + 1) * 2 ^ (h0 + k0)) x) ∧ ∀ m, i + k ≤ m → F.getD m 0 = F0.getD m 0) ⟨F0, _, _, rfl, k1, ?_, fun x hx => (k3 x hx).mono (Nat.mul_le_mul_right _ (by omega)), fun m _ => rfl⟩ ?_ ?_
       · rw [List.take_zero]
         show ser F0 = ser F0 + PS.X ^ i * (PS.C x * 0)
         grind
       · rintro k en d hk ⟨F, y5, y6, rfl, f1, f2, f3, f4⟩
         rw [List.getElem?_map, enumN_get] at hk
         cases hy : q[k]? with
         | none => rw [hy] at hk; cases hk
         | some y =>
           rw [hy] at hk
           cases Option.some.inj hk
           have hkl := (List.getElem?_eq_some_iff.mp hy).1
           have ey : y = b.f k := by have := getb hkl; rw [hy] at this; exact Option.some.inj this
           have by_ : Bd k0 y := by rw [ey]; exact zb.bd k
           have ny : Nb kb (2 ^ k0) y := by rw [ey]; exact kb3 k
           have hlt : i + k < F.length := by omega
           have eF : (F.map fr)[i + k]? = some (fr (F.getD (i + k) 0)) := by simp [hlt]
           have b0 : Nb (ka * kb) (i * 2 ^ (h0 + k0)) (F.getD (i + k) 0) := by
             rw [f4 (i + k) (by omega)]
             have : (F0.getD (i + k) 0) ∈ F0 := by
               have hlt' : i + k < F0.length := by omega
               simp [hlt']
             exact k3 _ this
           have b1 : Nb (ka * kb) (2 ^ (h0 + k0)) (x * y) := by rw [hpow]; exact nx.mul ny
           have e1 := hb x y (Ok.of bx (by omega)) (Ok.of by_ (by omega))
           have e2 := hp (F.getD (i + k) 0) (x * y) (small (by omega) b0) (small (i := 1) (by omega) (by rw [Nat.one_mul]; exact b1))
           have e3 : ((i : Int) + (k : Int)) = ((i + k : Nat) : Int) := by omega
           have e4 := atD_nat eF
           have e5 : setD (F.map fr) ((i + k : Nat) : Int) (fr (F.getD (i + k) 0 + x * y)) = .ok ((F.set (i + k) (F.getD (i + k) 0 + x * y)).map fr) := by
             rw [setD_nat (by rw [List.length_map]; exact hlt), List.map_set]
           generalize hv : F.getD (i + k) 0 = v at *
           refine ⟨[.va (pol p), .va (pol q), .ow ((F.set (i + k) (v + x * y)).map fr), .va (.int (i : Nat)), .va (fr x), .va (.int (k : Nat)), .va (fr y)], .inl ?_, F.set (i + k) (v + x * y), _, _, rfl, by rw [List.length_set]; exact f1, ?_, ?_, ?_⟩
           · simp only [Nat.zero_add, bindT_tpt, bindTs_cons, bindT_nm, bindTs_nil, R.bind_ok, List.set_cons_succ, List.set_cons_zero]
             simp [val, e3, e4, e1, e2, e5, -Int.natCast_add]
           · rw [ser_set F (i + k) _ hlt, f2, ser_take_succ hy, hv, show v + x * y - v = x * y by grind, PS.C_mulC]
             grind
           · intro w hw
             rcases List.mem_or_eq_of_mem_set hw with hw | rfl
             · exact f3 w hw
             · exact (b0.add b1).mono (by rw [Nat.add_mul]; omega)
           · intro m hm'
             rw [← f4 m (by omega)]
             have hne : i + k ≠ m := by omega
             simp [List.getElem?_set_ne hne]
       · rintro en ⟨F, y5, y6, rfl, f1, f2, f3, f4⟩
         refine ⟨F, _, _, rfl, f1, ?_, f3⟩
         rw [f2, List.length_map, enumN_len, List.take_length]
      obtain ⟨en', rfl, F, y5, y6, rfl, f1, f2, f3⟩ := key
      refine ⟨_, .inl rfl, F, ⟨_, _, _, _, rfl⟩, f1, ?_, f3⟩
      rw [f2, k2, ser_take_succ hx]
      grind
  · rw [ser_zeros, List.take_zero]
    show (0 : PS) = 0 * ser q
    grind
  · intro x hx
    rw [(List.mem_replicate.mp hx).2]
    exact Nb.zero _ _
  · rintro en ⟨F, z3, z4, z5, z6, rfl, k1, k2, k3⟩
    rw [List.length_map, enumN_len, List.take_length] at k2
    have e1 := ht.1 F
    rw [pol_trim, k2, sea, seb] at e1
    simp [val, e1]
    rfl
end
end AW

/-! AwDv2: division with rest as the program does it. -/
namespace AW
open PySem PySem.Spec PyProof.Rows
/-- behind the places from p on: the rest R, the often S -/
structure DivSt (a b : PS) (n g : Nat) (ka kb L : Int) (h k p : Nat) (R S : PS) : Prop where
  eq : R = a - S * b
  ltR : Lt R (p + n)
  low : ∀ j, j < p → S.f j = 0
  ltS : Lt S g
  wR : ∀ j, Nb (ka * L ^ (g - p)) (2 ^ (h + (g - p) * (k + 1))) (R.f j)
  wS : ∀ j, Nb (ka * L ^ (g - p)) (2 ^ (h + (g - p) * (k + 1))) (S.f j)
theorem DivSt.init {a b : PS} {n g : Nat} {ka kb L : Int} {h k : Nat} (lt : Lt a (g + n)) (ha : ∀ j, Nb ka (2 ^ h) (a.f j)) : DivSt a b n g ka kb L h k g a 0 :=
  ⟨by grind, lt, fun j _ => PS.zero_f j, Lt.zero _, fun j => by rw [Nat.sub_self, Nat.zero_mul, Nat.add_zero]; simpa using ha j, fun j => by rw [PS.zero_f]; exact Nb.zero _ _⟩
theorem DivSt.step {a b : PS} {n g : Nat} {ka kb L : Int} {h k p : Nat} {R S : PS} (st : DivSt a b n g ka kb L h k (p + 1) R S) (hp : p < g) (hb : Dg b n) (wb : ∀ j, Nb kb (2 ^ k) (b.f j)) (eL : (kb : Rat) * b.f n = L) (bL : L.natAbs ≤ 2 ^ k) (bk : kb.natAbs ≤ 2 ^ k) :
    DivSt a b n g ka kb L h k p (R - PS.C (R.f (p + n) * (b.f n)⁻¹) * (PS.X ^ p * b)) (S + PS.C (R.f (p + n) * (b.f n)⁻¹) * PS.X ^ p) := by
  have eg : g - p = g - (p + 1) + 1 := by omega
  have hbn := hb.2
  -- the new number
  have hM : 2 ^ (h + (g - (p + 1)) * (k + 1)) * 2 ^ k + 2 ^ (h + (g - (p + 1)) * (k + 1)) * 2 ^ k = 2 ^ (h + (g - p) * (k + 1)) := by
    rw [eg, Nat.add_mul, Nat.one_mul, ← Nat.add_assoc, Nat.pow_add _ _ (k + 1), Nat.pow_succ 2 k, ← Nat.mul_assoc]
    omega
  generalize hMM : 2 ^ (h + (g - (p + 1)) * (k + 1)) = M at *
  have wR := st.wR
  have wS := st.wS
  rw [hMM] at wR wS
  have hK : ka * L ^ (g - p) = ka * L ^ (g - (p + 1)) * L := by rw [eg, Int.pow_succ, Int.mul_assoc]
  have wnum : ∀ y : Rat, Nb kb (2 ^ k) y → Nb (ka * L ^ (g - p)) (M * 2 ^ k) (R.f (p + n) * (b.f n)⁻¹ * y) := fun y hy => by
    obtain ⟨z, z1, z2⟩ := wR (p + n)
    obtain ⟨w, w1, w2⟩ := hy
    refine ⟨z * w, ?_, ?_⟩
    · rw [hK, Rat.intCast_mul, ← eL, Rat.intCast_mul z w, ← z1, ← w1]
      grind
    · rw [Int.natAbs_mul]; exact Nat.mul_le_mul z2 w2
  have hexp : ∀ j, Nb (ka * L ^ (g - p)) (M * 2 ^ k) (R.f j) := fun j => by rw [hK]; exact (wR j).scale bL
  have hexpS : ∀ j, Nb (ka * L ^ (g - p)) (M * 2 ^ k) (S.f j) := fun j => by rw [hK]; exact (wS j).scale bL
  refine ⟨?_, ?_, ?_, ?_, ?_, ?_⟩
  · rw [st.eq]; grind
  · intro j hj
    rw [PS.sub_f, PS.C_mul, Xpow_mul, if_pos (by omega)]
    rcases Nat.eq_or_lt_of_le hj with e | e
    · subst e
      rw [show p + n - p = n by omega]
      grind
    · rw [st.ltR j (by omega), hb.1 (j - p) (by omega)]
      grind
  · intro j hj
    rw [PS.add_f, PS.C_mul, Xpow_f, if_neg (by omega), st.low j (by omega)]
    grind
  · exact st.ltS.add (((Xpow_lt p).mono (by omega)).smul _)
  · intro j
    rw [PS.sub_f, PS.C_mul, Xpow_mul, ← hM]
    split
    · have := (hexp j).add (wnum _ (wb (j - p))).neg
      rw [show R.f j - R.f (p + n) * (b.f n)⁻¹ * b.f (j - p) = R.f j + -(R.f (p + n) * (b.f n)⁻¹ * b.f (j - p)) by grind]
      exact this
    · rw [show R.f j - R.f (p + n) * (b.f n)⁻¹ * 0 = R.f j by grind]
      exact (hexp j).mono (by omega)
  · intro j
    rw [PS.add_f, PS.C_mul, Xpow_f, ← hM]
    by_cases e : j = p
    · subst e
      rw [if_pos rfl, st.low j (by omega)]
      have := wnum 1 ⟨kb, by grind, bk⟩
      rw [show (0 : Rat) + R.f (j + n) * (b.f n)⁻¹ * 1 = R.f (j + n) * (b.f n)⁻¹ * 1 by grind]
      exact this.mono (by omega)
    · rw [if_neg e, show S.f j + R.f (p + n) * (b.f n)⁻¹ * 0 = S.f j by grind]
      exact (hexpS j).mono (by omega)
theorem rng_rev_get {g i : Nat} {d : D} (h : (rngD 0 g).reverse[i]? = some d) : i < g ∧ d = .int ((g - 1 - i : Nat) : Int) := by
  have hl : (rngD 0 g).length = g := by unfold rngD; simp
  have hi := (List.getElem?_eq_some_iff.mp h).1
  rw [List.length_reverse, hl] at hi
  refine ⟨hi, ?_⟩
  rw [List.getElem?_reverse (by rw [hl]; exact hi), hl] at h
  unfold rngD at h
  rw [List.getElem?_map, List.getElem?_range (by omega)] at h
  have := Option.some.inj h
  rw [← this]
  simp
theorem small_le {i : Int} (h : i.natAbs ≤ 1000000) : small i = true := by
  unfold small
  rw [Nat.ble_eq]
  have h2 : i.natAbs ≤ 2 ^ 20 := Nat.le_trans h (by decide)
  have := log2_of_le h2
  omega
theorem rngR_zero {n : Nat} (h : n ≤ 1000000) : rngR 0 (n : Int) = .ok (rngD 0 n) := by
  unfold rngR
  rw [small_le (show (0 : Int).natAbs ≤ 1000000 by decide), small_le (show ((n : Int)).natAbs ≤ 1000000 by omega)]
  simp
section
variable {G : Nat → D} {c : Nat → List Sl → R (D × Bool)} {T : List Fn} {nm : Nm}
def SpDiv (c : Nat → List Sl → R (D × Bool)) (j : Nat) : Prop := ∀ (a b : PS) (m n h k : Nat), Z m h a → Z n k b → b ≠ 0 → m ≤ 20000 ∧ n ≤ 20000 ∧ h + (m + 2) * (k + 1) ≤ 39000000 → c j [.va (po a), .va (po b)] = va (.tuple [po (quo a b), po (rem a b)])
theorem parted_ok {e jt kN jb jp jn jr : Nat} (hG : G kN = fr 0) (ht : SpTurn c jt) (hb : SpBy c jb) (hp : SpPlus c jp) (hn : SpNeg c jn) (hr : SpTrim c jr) {a b : PS} {m0 n0 h k : Nat} (za : Z m0 h a) (zb : Z n0 k b) (b0 : b ≠ 0)
    (hz : m0 ≤ 20000 ∧ n0 ≤ 20000 ∧ h + (m0 + 2) * (k + 1) ≤ 39000000) : bo G c T (b_poly_parted e jt kN jb jp jn jr) [.va (po a), .va (po b)] 7 = va (.tuple [po (quo a b), po (rem a b)]) := by
  obtain ⟨hm0, hn0, hs⟩ := hz
  obtain ⟨n, db⟩ := zb.pl.dg b0
  have lb := toL_len db
  have la := toL_le za.lt
  have nn := db.lt zb.lt
  obtain ⟨ka, ka1, ka2, ka3⟩ := za.hb
  obtain ⟨kb, kb1, kb2, kb3⟩ := zb.hb
  obtain ⟨L, eL, bL⟩ := kb3 n
  have L0 : L ≠ 0 := fun z => by
    have := int_ne kb1
    have := db.2
    rw [z] at eL
    have eL : (kb : Rat) * b.f n = 0 := eL
    grind
  obtain ⟨g, hg, hg'⟩ : ∃ g : Nat, max 0 (((toL a).length : Int) - ((toL b).length : Int) + 1) = (g : Int) ∧ g = (toL a).length - n := ⟨(toL a).length - n, by omega, rfl⟩
  have e0 : sem2 .eq (po b) (.tuple []) = v1 (.bool false) := by rw [eq_po0 zb.pl]; simp [b0]
  have e1 := idx_last db
  have e2 := ht _ db.2
  have c1 : (-1000000 : Int) ≤ (g : Int) := by omega
  have c2 : (g : Int) ≤ 1000000 := by omega
  have c3 : g ≤ line := by unfold line; omega
  have c4 : (1 : Nat) ≤ line := by unfold line; omega
  have c5 : (2 : Nat) ≤ line := by unfold line; omega
  have c0 : (0 : Nat) ≤ line := by unfold line; omega
  have sl : sem1 .list (po a) = .ok (.list ((toL a).map fr), true) := by unfold po pol; simp
  have e3 : List.replicate g (fr 0) = (List.replicate g (0 : Rat)).map fr := by simp
  have hgm : g * (k + 1) ≤ m0 * (k + 1) := Nat.mul_le_mul_right _ (by omega)
  rw [Nat.add_mul] at hs
  have small : ∀ {i : Nat} {x : Rat}, i ≤ g → Nb (ka * L ^ i) (2 ^ (h + i * (k + 1))) x → Bd (h + g * (k + 1)) x := fun {i x} hi w => by
    have hik : i * (k + 1) ≤ g * (k + 1) := Nat.mul_le_mul_right _ hi
    refine w.bd (Int.mul_ne_zero ka1 (Int.pow_ne_zero L0)) ?_ (Nat.pow_le_pow_right (by decide) (by omega))
    rw [Int.natAbs_mul, Int.natAbs_pow]
    refine Nat.le_trans (Nat.mul_le_mul ka2 (Nat.pow_le_pow_left bL i)) ?_
    rw [← Nat.pow_mul, ← Nat.pow_add]
    refine Nat.pow_le_pow_right (by decide) ?_
    have : k * i ≤ i * (k + 1) := by rw [Nat.mul_comm]; exact Nat.mul_le_mul_left _ (by omega)
    omega
  unfold bo b_poly_parted
  simp [val, hG, es_for, e0, c0, e1, e2, sl, hg, c1, c2, c3, c4, c5, rngR_zero (n := g) (by omega)]
  rw [e3]
  refine forR_then (P := fun r => outF (r.bind _) = _) (I := fun i en => ∃ Rl Ol z5 z6 z7 z8, en = [.va (po a), .va (po b), .va (fr (b.f n)⁻¹), .ow (List.map fr Rl), .ow (List.map fr Ol), z5, z6, z7, z8] ∧ Rl.length = (toL a).length ∧ Ol.length = g ∧ DivSt a b n g ka kb L h k (g - i) (ser Rl) (ser Ol)) ?_
    ⟨toL a, List.replicate g 0, _, _, _, _, rfl, rfl, by simp, by
      rw [Nat.sub_zero, ser_toL za.pl, ser_zeros]
      exact DivSt.init ((toL_lt za.pl).mono (by omega)) ka3⟩ ?_
  · rintro i en d hi ⟨Rl, Ol, z5, z6, z7, z8, rfl, f1, f2, st⟩
    obtain ⟨hig, rfl⟩ := rng_rev_get hi
    generalize hp' : g - 1 - i = p at *
    have eqi : g - i = p + 1 := by omega
    have eqi' : g - (i + 1) = p := by omega
    rw [eqi] at st
    rw [eqi']
    have pg : p < g := by omega
    have st2 := st.step pg db kb3 eL bL kb2
    have lR : p + n < Rl.length := by omega
    have eI : ((p : Int) + ((n + 1 : Nat) : Int) - 1) = ((p + n : Nat) : Int) := by omega
    have eT : (Rl.map fr)[p + n]? = some (fr ((ser Rl).f (p + n))) := by rw [ser_f]; simp [lR]
    have eT' := atD_nat eT
    have bT : Bd (h + g * (k + 1)) ((ser Rl).f (p + n)) := small (i := g - (p + 1)) (by omega) (st.wR _)
    have bInv : Bd k (b.f n)⁻¹ := by
      have bb := zb.bd n
      have nz : (b.f n).num ≠ 0 := by rw [Ne, Rat.num_eq_zero]; exact db.2
      rw [← inv_divInt db.2]
      have := divInt_le (a := ((b.f n).den : Int)) (b := (b.f n).num) nz
      exact ⟨Nat.le_trans this.1 (by simpa using bb.2), Nat.le_trans this.2 bb.1⟩
    have eB := hb _ _ (Ok.of bT (by omega)) (Ok.of bInv (by omega))
    have bN : Bd (h + g * (k + 1)) ((ser Rl).f (p + n) * (b.f n)⁻¹) := by
      have := small (i := g - p) (by omega) (st2.wS p)
      rw [PS.add_f, PS.C_mul, Xpow_f, if_pos rfl, st.low p (by omega)] at this
      rw [show (ser Rl).f (p + n) * (b.f n)⁻¹ = 0 + (ser Rl).f (p + n) * (b.f n)⁻¹ * 1 by grind]
      exact this
    have eS : setD (Ol.map fr) (p : Int) (fr ((ser Rl).f (p + n) * (b.f n)⁻¹)) = .ok ((Ol.set p ((ser Rl).f (p + n) * (b.f n)⁻¹)).map fr) := by
      rw [setD_nat (by rw [List.length_map]; omega), List.map_set]
    have lowp : (ser Ol).f p = 0 := st.low p (by omega)
    have lR' : Lt (ser Rl) (p + 1 + n) := st.ltR
    generalize hN : (ser Rl).f (p + n) * (b.f n)⁻¹ = N at *
    simp [val, lb, eI, eT', eB, eS, es_for, -Int.natCast_add]
    rw [enumD_map]
    generalize hR : forR _ _ _ _ = r
    have key : ∃ en', r = .ok (.nx en') ∧ ∃ R2 z7 z8, en' = [.va (po a), .va (po b), .va (fr (b.f n)⁻¹), .ow (R2.map fr), .ow ((Ol.set p N).map fr), .va (.int (p : Nat)), .va (fr N), z7, z8] ∧ R2.length = (toL a).length ∧ ser R2 = ser Rl - PS.C N * (PS.X ^ p * b) := by
      rw [← hR]
      refine forR_ex (I := fun j en => ∃ R2 z7 z8, en = [.va (po a), .va (po b), .va (fr (b.f n)⁻¹), .ow (R2.map fr), .ow ((Ol.set p N).map fr), .va (.int (p : Nat)), .va (fr N), z7, z8] ∧ R2.length = (toL a).length ∧
        ser R2 = ser Rl - PS.C N * (PS.X ^ p * ser ((toL b).take j)) ∧ ∀ i, p + j ≤ i → R2.getD i 0 = Rl.getD i 0) ⟨Rl, z7, z8, by simp, f1, ?_, fun _ _ => rfl⟩ ?_ ?_
      · rw [List.take_zero]
        show ser Rl = ser Rl - PS.C N * (PS.X ^ p * 0)
        grind
      · rintro j en d hj ⟨R2, y7, y8, rfl, g1, g2, g3⟩
        rw [List.getElem?_map, enumN_get] at hj
        cases hy : (toL b)[j]? with
        | none => rw [hy] at hj; cases hj
        | some y =>
          rw [hy] at hj
          cases Option.some.inj hj
          have hjl := (List.getElem?_eq_some_iff.mp hy).1
          have ey : y = b.f j := by have := toL_get zb.pl hjl; rw [hy] at this; exact Option.some.inj this
          have by_ : Bd k y := by rw [ey]; exact zb.bd j
          have hlt : p + j < R2.length := by omega
          have eV : R2.getD (p + j) 0 = (ser Rl).f (p + j) := by rw [g3 (p + j) (by omega), ser_f]
          have eF : (R2.map fr)[p + j]? = some (fr (R2.getD (p + j) 0)) := by simp [hlt]
          have bV : Bd (h + g * (k + 1)) (R2.getD (p + j) 0) := by rw [eV]; exact small (i := g - (p + 1)) (by omega) (st.wR _)
          have q1 := hb N y (Ok.of bN (by omega)) (Ok.of by_ (by omega))
          have q2 := hn (N * y)
          have bNy : Bd (h + g * (k + 1) + k) (-(N * y)) := by
            have := bN.mul by_
            exact ⟨by rw [Rat.neg_num, Int.natAbs_neg]; exact this.1, by rw [Rat.neg_den]; exact this.2⟩
          have q3 := hp (R2.getD (p + j) 0) (-(N * y)) (Ok.of bV (by omega)) (Ok.of bNy (by omega))
          have e3 : ((p : Int) + (j : Int)) = ((p + j : Nat) : Int) := by omega
          have e4 := atD_nat eF
          have e5 : setD (R2.map fr) ((p + j : Nat) : Int) (fr (R2.getD (p + j) 0 + -(N * y))) = .ok ((R2.set (p + j) (R2.getD (p + j) 0 + -(N * y))).map fr) := by
            rw [setD_nat (by rw [List.length_map]; exact hlt), List.map_set]
          generalize hv : R2.getD (p + j) 0 = v at *
          refine ⟨[.va (po a), .va (po b), .va (fr (b.f n)⁻¹), .ow ((R2.set (p + j) (v + -(N * y))).map fr), .ow ((Ol.set p N).map fr), .va (.int (p : Nat)), .va (fr N), .va (.int (j : Nat)), .va (fr y)], .inl ?_, R2.set (p + j) (v + -(N * y)), _, _, rfl, by rw [List.length_set]; exact g1, ?_, ?_⟩
          · simp only [Nat.zero_add, bindT_tpt, bindTs_cons, bindT_nm, bindTs_nil, R.bind_ok, List.set_cons_succ, List.set_cons_zero]
            simp [val, e3, e4, q1, q2, q3, e5, -Int.natCast_add, -List.map_set]
          · rw [ser_set R2 (p + j) _ hlt, g2, ser_take_succ hy, hv, show v + -(N * y) - v = -(N * y) by grind, PS.C_neg, PS.C_mulC]
            grind
          · intro i hi
            rw [← g3 i (by omega)]
            have hne : p + j ≠ i := by omega
            simp [List.getElem?_set_ne hne]
      · rintro en ⟨R2, y7, y8, rfl, g1, g2, g3⟩
        refine ⟨R2, _, _, rfl, g1, ?_⟩
        rw [g2, List.length_map, enumN_len, List.take_length, ser_toL zb.pl]
    obtain ⟨en', rfl, R2, y7, y8, rfl, g1, g2⟩ := key
    refine ⟨_, .inl rfl, R2, Ol.set p N, ⟨_, _, _, _, rfl⟩, g1, by rw [List.length_set]; exact f2, ?_⟩
    have sO : ser (Ol.set p N) = ser Ol + PS.C N * PS.X ^ p := by
      rw [ser_set Ol p N (by omega), ← ser_f, lowp, show N - 0 = N by grind]
      grind
    rw [g2, sO]
    exact st2
  · rintro en ⟨Rl, Ol, z5, z6, z7, z8, rfl, f1, f2, st⟩
    have hlen : (rngD 0 g).reverse.length = g := by unfold rngD; simp
    rw [hlen, Nat.sub_self] at st
    obtain ⟨u1, u2⟩ := quo_eq db ⟨_, st.ltS⟩ (by have := st.ltR; rwa [Nat.zero_add] at this) (show a = ser Ol * b + ser Rl by rw [st.eq]; grind)
    have q1 := hr.1 Ol
    have q2 := hr.1 Rl
    rw [pol_trim, ← u1] at q1
    rw [pol_trim, ← u2] at q2
    simp [val, q1, q2, c5]
theorem Z.div {m n h k : Nat} {a b : PS} (za : Z m h a) (zb : Z (n + 1) k b) (db : Dg b n) : Z (m - n) (h + m * (k + 1)) (quo a b) ∧ Z n (h + m * (k + 1)) (rem a b) := by
  obtain ⟨ka, ka1, ka2, ka3⟩ := za.hb
  obtain ⟨kb, kb1, kb2, kb3⟩ := zb.hb
  obtain ⟨L, eL, bL⟩ := kb3 n
  have L0 : L ≠ 0 := fun z => by
    have := int_ne kb1
    have := db.2
    rw [z] at eL
    have eL : (kb : Rat) * b.f n = 0 := eL
    grind
  have go : ∀ p, p ≤ m - n → ∃ R S, DivSt a b n (m - n) ka kb L h k (m - n - p) R S := fun p => by
    induction p with
    | zero => intro _; exact ⟨a, 0, by rw [Nat.sub_zero]; exact DivSt.init (za.lt.mono (by omega)) ka3⟩
    | succ p ih =>
      intro hp
      obtain ⟨R, S, st⟩ := ih (by omega)
      rw [show m - n - p = m - n - (p + 1) + 1 by omega] at st
      exact ⟨_, _, st.step (by omega) db kb3 eL bL kb2⟩
  obtain ⟨R, S, st⟩ := go (m - n) (Nat.le_refl _)
  rw [Nat.sub_self] at st
  obtain ⟨u1, u2⟩ := quo_eq db ⟨_, st.ltS⟩ (by have := st.ltR; rwa [Nat.zero_add] at this) (show a = S * b + R by rw [st.eq]; grind)
  rw [u1, u2]
  have hmn : (m - n) * (k + 1) ≤ m * (k + 1) := Nat.mul_le_mul_right _ (by omega)
  have w1 : ka * L ^ (m - n) ≠ 0 := Int.mul_ne_zero ka1 (Int.pow_ne_zero L0)
  have w2 : (ka * L ^ (m - n)).natAbs ≤ 2 ^ (h + m * (k + 1)) := by
    rw [Int.natAbs_mul, Int.natAbs_pow]
    refine Nat.le_trans (Nat.mul_le_mul ka2 (Nat.pow_le_pow_left bL _)) ?_
    rw [← Nat.pow_mul, ← Nat.pow_add]
    refine Nat.pow_le_pow_right (by decide) ?_
    have : k * (m - n) ≤ (m - n) * (k + 1) := by rw [Nat.mul_comm]; exact Nat.mul_le_mul_left _ (by omega)
    omega
  have w3 : (2 : Nat) ^ (h + (m - n - 0) * (k + 1)) ≤ 2 ^ (h + m * (k + 1)) := Nat.pow_le_pow_right (by decide) (by rw [Nat.sub_zero]; omega)
  exact ⟨⟨st.ltS, _, w1, w2, fun j => (st.wS j).mono w3⟩, ⟨by have := st.ltR; rwa [Nat.zero_add] at this, _, w1, w2, fun j => (st.wR j).mono w3⟩⟩
end
end AW

/-! AwDvb: a monic divisor of a polynomial of few bits has few bits. -/
namespace AW
open PS
def ipK : Nat → Nat → Nat
  | 0, _ => 1
  | d + 1, n => (2 * (n + 1) + 1) * ipK d (n + 1)
theorem ipK_le : ∀ (d n : Nat), ipK d n ≤ (2 * (n + d) + 1) ^ d
  | 0, n => Nat.le_refl _
  | d + 1, n => by
    have ih := ipK_le d (n + 1)
    show (2 * (n + 1) + 1) * ipK d (n + 1) ≤ (2 * (n + (d + 1)) + 1) ^ (d + 1)
    rw [Nat.pow_succ, Nat.mul_comm]
    rw [show n + 1 + d = n + (d + 1) by omega] at ih
    exact Nat.mul_le_mul ih (by omega)
/-- parted by x - n -/
theorem synth (n : Int) : ∀ {m : Nat} {g : PS}, Lt g (m + 1) → IP g → ∃ s, ∃ c : Int, IP s ∧ Lt s m ∧ g = s * (X - PS.C n) + PS.C c
  | 0, g, h, hi => by
    obtain ⟨c, hc⟩ := hi 0
    exact ⟨0, c, fun i => ⟨0, by rw [zero_f]; rfl⟩, Lt.zero _, by rw [← hc]; have := Dg.const h; grind⟩
  | m + 1, g, h, hi => by
    obtain ⟨s, c, h1, h2, e⟩ := synth n h.sh hi.sh
    obtain ⟨g0, hg⟩ := hi 0
    refine ⟨X * s + PS.C c, g0 + n * c, (IP.X.mul h1).add (IP.C c), (h2.X_mul).add ((Lt.C _).mono (by omega)), ?_⟩
    have e0 := sh_eq g
    rw [e0, e, hg, Rat.intCast_add, Rat.intCast_mul, PS.C_add, PS.C_mulC]
    grind
theorem interp (V : Nat) : ∀ (d n : Nat) (W : Nat) (g : PS), Lt g (d + 1) → IP g → (∀ i, i ≤ d → ∃ z : Int, ev g (((n + i : Nat) : Int)) = z ∧ z.natAbs ≤ W) → ∀ i, ∃ z : Int, g.f i = z ∧ z.natAbs ≤ W * ipK d n
  | 0, n, W, g, hl, hi, h, i => by
    obtain ⟨z, hz, hW⟩ := h 0 (Nat.le_refl _)
    have e := Dg.const hl
    rw [e, ev_C] at hz
    rw [e]
    show ∃ w : Int, (if i = 0 then g.f 0 else 0) = w ∧ _
    by_cases q : i = 0
    · rw [if_pos q]; exact ⟨z, hz, by show _ ≤ W * 1; omega⟩
    · rw [if_neg q]; exact ⟨0, rfl, Nat.zero_le _⟩
  | d + 1, n, W, g, hl, hi, h, i => by
    obtain ⟨s, c, h1, h2, e⟩ := synth (n : Int) hl hi
    have ps : Pl s := ⟨_, h2⟩
    have px : Pl (X - PS.C (n : Int)) := Pl.X.sub (Pl.C _)
    have evg : ∀ x : Rat, ev g x = ev s x * (x - ((n : Int) : Rat)) + (c : Rat) := fun x => by
      rw [e, ev_add (ps.mul px) (Pl.C _), ev_mul ps px, ev_sub Pl.X (Pl.C _), ev_X, ev_C, ev_C]
    have hc : c.natAbs ≤ W := by
      obtain ⟨z, hz, hW⟩ := h 0 (by omega)
      rw [evg, Nat.add_zero, show (((n : Int) : Rat) - ((n : Int) : Rat)) = 0 by grind, Rat.mul_zero, Rat.zero_add] at hz
      rw [Rat.intCast_inj.mp hz]
      exact hW
    have ih := interp V d (n + 1) (2 * W) s h2 h1 fun j hj => by
      obtain ⟨z, hz, hW⟩ := h (j + 1) (by omega)
      obtain ⟨w, hw⟩ := h1.ev ps ((n + 1 + j : Nat) : Int)
      refine ⟨w, hw, ?_⟩
      rw [show n + (j + 1) = n + 1 + j by omega, evg, hw, ← Rat.intCast_sub, ← Rat.intCast_mul, ← Rat.intCast_add] at hz
      have hz := Rat.intCast_inj.mp hz
      have e2 : w * (((n + 1 + j : Nat) : Int) - (n : Int)) = z - c := by omega
      have e3 : ((n + 1 + j : Nat) : Int) - (n : Int) = ((j + 1 : Nat) : Int) := by omega
      rw [e3] at e2
      have e4 : w.natAbs * (j + 1) = (z - c).natAbs := by rw [← e2, Int.natAbs_mul]; rfl
      have e5 : w.natAbs * 1 ≤ w.natAbs * (j + 1) := Nat.mul_le_mul_left _ (by omega)
      omega
    obtain ⟨a, ha, hA⟩ : ∃ a : Int, (X * s).f i = a ∧ a.natAbs ≤ 2 * W * ipK d (n + 1) := by
      rw [PS.X_mul]
      cases i with
      | zero => exact ⟨0, rfl, Nat.zero_le _⟩
      | succ i => exact ih i
    obtain ⟨b, hb, hB⟩ := ih i
    have kp : 1 ≤ ipK d (n + 1) := by
      have : ∀ d n, 1 ≤ ipK d n := fun d => by
        induction d with
        | zero => intro n; exact Nat.le_refl _
        | succ d ih =>
          intro n
          show 1 ≤ (2 * (n + 1) + 1) * ipK d (n + 1)
          have := Nat.mul_le_mul (show 1 ≤ 2 * (n + 1) + 1 by omega) (ih (n + 1))
          omega
      exact this d (n + 1)
    have hk : W * 1 ≤ W * ipK d (n + 1) := Nat.mul_le_mul_left _ kp
    obtain ⟨x, hx, hX⟩ : ∃ x : Int, (PS.C (c : Rat)).f i = x ∧ x.natAbs ≤ W * ipK d (n + 1) := by
      show ∃ x : Int, (if i = 0 then (c : Rat) else 0) = x ∧ _
      by_cases q : i = 0
      · rw [if_pos q]; exact ⟨c, rfl, by omega⟩
      · rw [if_neg q]; exact ⟨0, rfl, Nat.zero_le _⟩
    refine ⟨a - n * b + x, ?_, ?_⟩
    · have : g = X * s - PS.C ((n : Int) : Rat) * s + PS.C (c : Rat) := by rw [e]; grind
      rw [this, add_f, sub_f, C_mul, ha, hb, hx, Rat.intCast_add, Rat.intCast_sub, Rat.intCast_mul]
    · have t1 := Int.natAbs_add_le (a - n * b) x
      have t2 := Int.natAbs_sub_le a (n * b)
      rw [Int.natAbs_mul, Int.natAbs_natCast] at t2
      have t3 : n * b.natAbs ≤ n * (2 * W * ipK d (n + 1)) := Nat.mul_le_mul_left _ hB
      have t4 : W * ((2 * (n + 1) + 1) * ipK d (n + 1)) = n * (2 * W * ipK d (n + 1)) + 2 * W * ipK d (n + 1) + W * ipK d (n + 1) := by
        simp only [Nat.add_mul, Nat.mul_add, Nat.mul_one, Nat.one_mul, Nat.mul_assoc, Nat.mul_left_comm]
      show _ ≤ W * ((2 * (n + 1) + 1) * ipK d (n + 1))
      omega
/-- far out a value isn't nought, and no greater than -/
theorem hv_far {H : Nat} {x : Nat} (hx : H + 1 ≤ x) : ∀ {p : List Rat}, (∀ a ∈ p, ∃ z : Int, a = z ∧ z.natAbs ≤ H) → ∃ z : Int, hv p ((x : Int) : Rat) = z ∧ z.natAbs ≤ H * (x + 1) ^ p.length ∧ (trim p ≠ [] → z ≠ 0)
  | [], _ => ⟨0, rfl, Nat.zero_le _, fun h => absurd rfl h⟩
  | a :: p, h => by
    obtain ⟨z, h1, h2, h3⟩ := hv_far hx (p := p) fun a ha => h a (List.mem_cons_of_mem _ ha)
    obtain ⟨w, w1, w2⟩ := h a List.mem_cons_self
    refine ⟨w + x * z, ?_, ?_, ?_⟩
    · show a + ((x : Int) : Rat) * hv p ((x : Int) : Rat) = _
      rw [h1, w1, Rat.intCast_add, Rat.intCast_mul]
    · have t := Int.natAbs_add_le w (x * z)
      rw [Int.natAbs_mul, Int.natAbs_natCast] at t
      have t2 : x * z.natAbs ≤ x * (H * (x + 1) ^ p.length) := Nat.mul_le_mul_left _ h2
      have t3 : H * 1 ≤ H * (x + 1) ^ p.length := Nat.mul_le_mul_left _ (Nat.one_le_pow _ _ (by omega))
      have t4 : H * (x + 1) ^ (p.length + 1) = x * (H * (x + 1) ^ p.length) + H * (x + 1) ^ p.length := by
        rw [Nat.pow_succ, Nat.mul_comm _ (x + 1), ← Nat.mul_assoc, Nat.mul_comm H, Nat.mul_assoc, Nat.add_mul, Nat.one_mul]
      show _ ≤ H * (x + 1) ^ (p.length + 1)
      omega
    · intro hne
      by_cases q : trim p = []
      · unfold trim at hne
        rw [q] at hne
        have ha0 : a ≠ 0 := fun e => hne (by simp [e])
        have hz : z = 0 := by
          have e : hv p ((x : Int) : Rat) = 0 := by rw [← hv_trim, q]; rfl
          rw [h1] at e
          exact Rat.intCast_eq_zero_iff.mp e
        subst hz
        intro e
        have : w = 0 := by omega
        exact ha0 (by rw [w1, this]; rfl)
      · have hz := h3 q
        intro e
        have e2 : (x : Int) * z = -w := by omega
        have e3 : x * z.natAbs = w.natAbs := by
          have := congrArg Int.natAbs e2
          rw [Int.natAbs_mul, Int.natAbs_natCast, Int.natAbs_neg] at this
          exact this
        have : x * 1 ≤ x * z.natAbs := Nat.mul_le_mul_left _ (by omega)
        omega
theorem lt_pow_self (n : Nat) : n ≤ 2 ^ n := Nat.le_of_lt Nat.lt_two_pow_self
/-- a monic divisor's bits -/
def db (N h l : Nat) : Nat := (2 * N + 1) * (h + l + 2)
theorem dv_hb {g p : PS} {d N h l : Nat} (hg : Mn g d) (zp : Z N h p) (p0 : p ≠ 0) (dv : Dv g p) (hl : N + 2 ≤ 2 ^ l) : Hb (db N h l) g := by
  obtain ⟨q, pq, e⟩ := dv
  obtain ⟨kp, kp1, kp2, kp3⟩ := zp.hb
  obtain ⟨m, dp⟩ := zp.pl.dg p0
  have hmN := dp.lt zp.lt
  have q0 : q ≠ 0 := fun z => p0 (by rw [e, z]; grind)
  have hdm : d ≤ m := Dv.dg ⟨q, pq, e⟩ hg.dg dp
  -- some bits of g and q
  have exb : ∀ {s : PS}, Pl s → ∃ b, Hb b s := fun {s} ps => by
    have go : ∀ L : List Rat, ∃ b, BdL b L := fun L => by
      induction L with
      | nil => exact ⟨0, BdL.nil 0⟩
      | cons a L ih =>
        obtain ⟨b, hb⟩ := ih
        refine ⟨b + a.num.natAbs + a.den, BdL.cons ⟨?_, ?_⟩ (hb.mono (by omega))⟩
        · exact Nat.le_trans (lt_pow_self _) (Nat.pow_le_pow_right (by decide) (by omega))
        · exact Nat.le_trans (lt_pow_self _) (Nat.pow_le_pow_right (by decide) (by omega))
    obtain ⟨b, hb⟩ := go (toL s)
    have := Hb.ser hb
    rw [ser_toL ps] at this
    exact ⟨_, this⟩
  obtain ⟨bg, hbg⟩ := exb hg.dg.pl
  obtain ⟨k, kpos, ik, hpr⟩ := primitive hg hbg
  have k0 : ((k : Int) : Rat) ≠ 0 := int_ne (by omega)
  obtain ⟨bq, hbq⟩ := exb (s := PS.C ((kp : Rat) * ((k : Int) : Rat)⁻¹) * q) ((Pl.C _).mul pq)
  have eP : (PS.C ((k : Int) : Rat) * g) * (PS.C ((kp : Rat) * ((k : Int) : Rat)⁻¹) * q) = PS.C (kp : Rat) * p := by
    rw [e, PS.C_mulC]
    have := C_cancel k0
    grind
  have iP : IP (PS.C (kp : Rat) * p) := fun i => by
    obtain ⟨z, hz, _⟩ := kp3 i
    exact ⟨z, by rw [C_mul]; exact hz⟩
  have iQ := gauss (n := 0) ik hpr hbq (by rw [eP]; exact iP)
  have pG : Pl (PS.C ((k : Int) : Rat) * g) := (Pl.C _).mul hg.dg.pl
  have pQ : Pl (PS.C ((kp : Rat) * ((k : Int) : Rat)⁻¹) * q) := (Pl.C _).mul pq
  have pP : Pl (PS.C (kp : Rat) * p) := (Pl.C _).mul zp.pl
  have nP : PS.C (kp : Rat) * p ≠ 0 := Pl.mul_ne (Pl.C _) zp.pl (Dg.C (int_ne kp1)).ne p0
  -- values far out
  have far : ∀ i, i ≤ d → ∃ z : Int, ev (PS.C ((k : Int) : Rat) * g) (((2 ^ h + 1 + i : Nat) : Int)) = z ∧ z.natAbs ≤ 2 ^ (h + N * (h + l + 1)) := fun i hi => by
    obtain ⟨z, hz⟩ := ik.ev pG ((2 ^ h + 1 + i : Nat) : Int)
    refine ⟨z, hz, ?_⟩
    obtain ⟨w, hw⟩ := iQ.ev pQ ((2 ^ h + 1 + i : Nat) : Int)
    have ep := ev_mul pG pQ (((2 ^ h + 1 + i : Nat) : Int) : Rat)
    rw [eP, hz, hw, ← Rat.intCast_mul] at ep
    obtain ⟨v, v1, v2, v3⟩ := hv_far (H := 2 ^ h) (x := 2 ^ h + 1 + i) (by omega) (p := toL (PS.C (kp : Rat) * p)) fun a ha => by
      obtain ⟨i, hi⟩ := List.mem_iff_getElem?.mp ha
      have hlt := (List.getElem?_eq_some_iff.mp hi).1
      rw [toL_get pP hlt] at hi
      rw [← Option.some.inj hi, C_mul]
      exact kp3 i
    have v3 := v3 (by rw [trim_toL]; exact fun z => nP ((toL_nil pP).mp z))
    have ev' : ev (PS.C (kp : Rat) * p) (((2 ^ h + 1 + i : Nat) : Int) : Rat) = v := v1
    rw [ev'] at ep
    have ep := Rat.intCast_inj.mp ep
    have len := toL_le (zp.lt.smul (kp : Rat))
    have hw0 : w ≠ 0 := fun z => v3 (by rw [ep, z]; omega)
    have e1 : v.natAbs = z.natAbs * w.natAbs := by rw [ep, Int.natAbs_mul]
    have e2 : z.natAbs * 1 ≤ z.natAbs * w.natAbs := Nat.mul_le_mul_left _ (by omega)
    have e3 : 2 ^ h + 1 + i + 1 ≤ 2 ^ (h + l + 1) := by
      have a1 : 2 ^ h ≤ 2 ^ (h + l) := Nat.pow_le_pow_right (by decide) (by omega)
      have a2 : 2 ^ l ≤ 2 ^ (h + l) := Nat.pow_le_pow_right (by decide) (by omega)
      rw [Nat.pow_succ 2 (h + l)]
      omega
    have e4 : 2 ^ h * (2 ^ h + 1 + i + 1) ^ (toL (PS.C (kp : Rat) * p)).length ≤ 2 ^ (h + N * (h + l + 1)) := by
      rw [Nat.pow_add]
      refine Nat.mul_le_mul_left _ ?_
      refine Nat.le_trans (Nat.pow_le_pow_left e3 _) ?_
      rw [← Nat.pow_mul, Nat.mul_comm]
      exact Nat.pow_le_pow_right (by decide) (Nat.mul_le_mul_right _ len)
    omega
  have res := interp 0 d (2 ^ h + 1) _ _ (hg.1.smul ((k : Int) : Rat)) ik far
  have hK : 2 ^ (h + N * (h + l + 1)) * ipK d (2 ^ h + 1) ≤ 2 ^ (db N h l) := by
    have b1 := ipK_le d (2 ^ h + 1)
    have b2 : 2 * (2 ^ h + 1 + d) + 1 ≤ 2 ^ (h + l + 2) := by
      have a1 : 2 ^ h ≤ 2 ^ (h + l) := Nat.pow_le_pow_right (by decide) (by omega)
      have a2 : 2 ^ l ≤ 2 ^ (h + l) := Nat.pow_le_pow_right (by decide) (by omega)
      rw [Nat.pow_succ 2 (h + l + 1), Nat.pow_succ 2 (h + l)]
      omega
    have b3 : (2 * (2 ^ h + 1 + d) + 1) ^ d ≤ 2 ^ ((h + l + 2) * N) := by
      refine Nat.le_trans (Nat.pow_le_pow_left b2 d) ?_
      rw [← Nat.pow_mul]
      exact Nat.pow_le_pow_right (by decide) (Nat.mul_le_mul_left _ (by omega))
    refine Nat.le_trans (Nat.mul_le_mul_left _ (Nat.le_trans b1 b3)) ?_
    rw [← Nat.pow_add]
    refine Nat.pow_le_pow_right (by decide) ?_
    unfold db
    have c1 : N * (h + l + 1) ≤ N * (h + l + 2) := Nat.mul_le_mul_left _ (by omega)
    have c2 : (h + l + 2) * N = N * (h + l + 2) := Nat.mul_comm _ _
    have c3 : (2 * N + 1) * (h + l + 2) = N * (h + l + 2) + N * (h + l + 2) + (h + l + 2) := by rw [Nat.add_mul, Nat.one_mul, Nat.mul_assoc]; omega
    omega
  refine ⟨(k : Int), by omega, ?_, fun i => ?_⟩
  · obtain ⟨z, hz, hb⟩ := res d
    rw [C_mul, hg.2, show ((k : Int) : Rat) * 1 = ((k : Int) : Rat) by grind] at hz
    rw [Rat.intCast_inj.mp hz]
    exact Nat.le_trans hb hK
  · obtain ⟨z, hz, hb⟩ := res i
    rw [C_mul] at hz
    exact ⟨z, hz, Nat.le_trans hb hK⟩
end AW

/-! AwYun: slopes; no common part; the simple parts. -/
namespace AW
open PS
/-! ### slopes -/
theorem der_add (a b : PS) : der (a + b) = der a + der b := by
  ext n; show _ * (a.f (n + 1) + b.f (n + 1)) = _ * a.f (n + 1) + _ * b.f (n + 1); grind
theorem der_smul (c : Rat) (a : PS) : der (PS.C c * a) = PS.C c * der a := by
  ext n; rw [C_mul]; show _ * (PS.C c * a).f (n + 1) = c * (_ * a.f (n + 1)); rw [C_mul]; grind
theorem der_C (c : Rat) : der (PS.C c) = 0 := by
  ext n; rw [zero_f]; show _ * (if n + 1 = 0 then c else 0) = 0; rw [if_neg (by omega)]; grind
theorem der_one : der 1 = 0 := der_C 1
theorem der_X_mul (a : PS) : der (X * a) = a + X * der a := by
  ext n
  rw [add_f, PS.X_mul]
  show _ * (X * a).f (n + 1) = _
  rw [PS.X_mul]
  cases n with
  | zero =>
    show ((1 : Nat) : Rat) * a.f 0 = a.f 0 + 0
    have : ((1 : Nat) : Rat) = 1 := rfl
    rw [this]; grind
  | succ n =>
    show ((n + 1 + 1 : Nat) : Rat) * a.f (n + 1) = a.f (n + 1) + ((n + 1 : Nat) : Rat) * a.f (n + 1)
    have : ((n + 1 + 1 : Nat) : Rat) = ((n + 1 : Nat) : Rat) + 1 := by rw [Rat.natCast_add]; rfl
    rw [this]; grind
theorem der_mul (a b : PS) : der (a * b) = der a * b + a * der b := by
  have go : ∀ n, ∀ a : PS, (der (a * b)).f n = (der a * b + a * der b).f n := fun n => by
    induction n with
    | zero =>
      intro a
      show ((1 : Nat) : Rat) * conv a.f b.f 1 = ((1 : Nat) : Rat) * a.f 1 * b.f 0 + a.f 0 * (((1 : Nat) : Rat) * b.f 1)
      have : ((1 : Nat) : Rat) = 1 := rfl
      rw [this]
      simp only [conv]
      grind
    | succ n ih =>
      intro a
      have e := sh_eq a
      have e1 : der a = sh a + X * der (sh a) := by
        conv => lhs; rw [e]
        rw [der_add, der_C, der_X_mul]; grind
      have e2 : der (a * b) = PS.C (a.f 0) * der b + sh a * b + X * der (sh a * b) := by
        conv => lhs; rw [e]
        rw [show (PS.C (a.f 0) + X * sh a) * b = PS.C (a.f 0) * b + X * (sh a * b) by grind, der_add, der_smul, der_X_mul]
        grind
      have e3 : der a * b + a * der b = PS.C (a.f 0) * der b + sh a * b + X * (der (sh a) * b + sh a * der b) := by
        rw [e1]
        conv => lhs; rhs; rw [e]
        grind
      rw [e2, e3, add_f, PS.X_mul, add_f _ (X * _), PS.X_mul]
      show _ + (der (sh a * b)).f n = _ + (der (sh a) * b + sh a * der b).f n
      rw [ih]
  ext n
  exact go n a
theorem Pl.der {a : PS} : Pl a → Pl (AW.der a) := fun ⟨n, h⟩ => ⟨_, h.der⟩
theorem der_pow (f : PS) : ∀ e : Nat, der (f ^ (e + 1)) = PS.C ((e + 1 : Nat) : Rat) * f ^ e * der f
  | 0 => by
    have : ((0 + 1 : Nat) : Rat) = 1 := rfl
    rw [this, C_one, show (f ^ (0 + 1) : PS) = f by grind]; grind
  | e + 1 => by
    have h : (f ^ (e + 1 + 1) : PS) = f ^ (e + 1) * f := by grind
    rw [h, der_mul, der_pow f e, show ((e + 1 + 1 : Nat) : Rat) = ((e + 1 : Nat) : Rat) + 1 by rw [Rat.natCast_add]; rfl, C_add, C_one]
    have : (f ^ (e + 1) : PS) = f ^ e * f := by grind
    rw [this]
    grind
theorem Dg.der {a : PS} {n : Nat} (h : Dg a (n + 1)) : Dg (AW.der a) n := ⟨h.1.der.mono (by omega), by
  show ((n + 1 : Nat) : Rat) * a.f (n + 1) ≠ 0
  have h1 := h.2
  have h2 : ((n + 1 : Nat) : Rat) ≠ 0 := by
    have : (((n + 1 : Nat) : Int) : Rat) ≠ 0 := int_ne (by omega)
    exact this
  intro z
  rcases Rat.mul_eq_zero.mp z with q | q
  · exact h2 q
  · exact h1 q⟩
/-! ### no common part -/
def Cop (a b : PS) : Prop := ∃ u v, Pl u ∧ Pl v ∧ u * a + v * b = 1
theorem Cop.symm {a b : PS} : Cop a b → Cop b a := fun ⟨u, v, h1, h2, e⟩ => ⟨v, u, h2, h1, by grind⟩
theorem Cop.one (a : PS) : Cop a 1 := ⟨0, 1, Pl.zero, Pl.one, by grind⟩
theorem Cop.mul {a b c : PS} (pa : Pl a) (pb : Pl b) (pc : Pl c) : Cop a b → Cop a c → Cop a (b * c) := fun ⟨u, v, h1, h2, e⟩ ⟨s, t, k1, k2, f⟩ =>
  ⟨u + v * b * s, v * t, h1.add ((h2.mul pb).mul k1), h2.mul k2, by
    have : (u + v * b * s) * a + v * t * (b * c) = u * a + v * b * (s * a + t * c) := by grind
    rw [this, f]
    grind⟩
theorem Cop.mul_l {a b c : PS} (pa : Pl a) (pb : Pl b) (pc : Pl c) (h : Cop a c) (k : Cop b c) : Cop (a * b) c := (Cop.mul pc pa pb h.symm k.symm).symm
theorem Cop.pow {a b : PS} (pa : Pl a) (pb : Pl b) (h : Cop a b) : ∀ n : Nat, Cop a (b ^ n)
  | 0 => Cop.one a
  | n + 1 => (Cop.mul pa (pb.pow n) pb (Cop.pow pa pb h n) h)
theorem Cop.dv {a b d : PS} (h : Cop a b) (k : Dv d b) : Cop a d := by
  obtain ⟨u, v, h1, h2, e⟩ := h
  obtain ⟨s, ps, rfl⟩ := k
  exact ⟨u, v * s, h1, h2.mul ps, by rw [← e]; grind⟩
theorem Cop.dv_l {a b d : PS} (h : Cop a b) (k : Dv d a) : Cop d b := (h.symm.dv k).symm
theorem Cop.dv_mul {a b c : PS} (pc : Pl c) (h : Cop a b) (k : Dv a (b * c)) : Dv a c := by
  obtain ⟨u, v, h1, h2, e⟩ := h
  obtain ⟨s, ps, es⟩ := k
  refine ⟨u * c + v * s, (h1.mul pc).add (h2.mul ps), ?_⟩
  have : c = (u * a + v * b) * c := by rw [e]; grind
  rw [this]
  have : v * b * c = v * s * a := by rw [show v * b * c = v * (b * c) by grind, es]; grind
  grind
theorem Cop.add_mul {a b : PS} (h : Cop a b) {s : PS} (ps : Pl s) : Cop a (b + s * a) := by
  obtain ⟨u, v, pu, pv, e⟩ := h
  exact ⟨u - v * s, v, pu.sub (pv.mul ps), pv, by rw [← e]; grind⟩
theorem Cop.smul {a b : PS} {c : Rat} (h : Cop a b) (hc : c ≠ 0) : Cop a (PS.C c * b) := by
  obtain ⟨u, v, pu, pv, e⟩ := h
  have := C_cancel hc
  exact ⟨u, PS.C c⁻¹ * v, pu, (Pl.C _).mul pv, by rw [← e]; grind⟩
theorem Cop.gcd {a b : PS} (pa : Pl a) (pb : Pl b) (h : Cop a b) : AW.gcd a b = 1 := by
  obtain ⟨u, v, pu, pv, e⟩ := h
  exact gcd_eq (IsG.of pa pb Mn.one ⟨a, pa, by grind⟩ ⟨b, pb, by grind⟩ pu pv e.symm)
theorem cop_of_gcd {a b : PS} (pa : Pl a) (pb : Pl b) (h : gcd a b = 1) : Cop a b := by
  obtain ⟨u, v, pu, pv, e⟩ := (gcd_is pa pb).comb
  exact ⟨u, v, pu, pv, by rw [← e, h]⟩
/-- the common part of multiples -/
theorem gcd_mul {a b d : PS} {n : Nat} (pa : Pl a) (pb : Pl b) (hd : Mn d n) (h : Cop a b) : gcd (d * a) (d * b) = d := by
  obtain ⟨u, v, pu, pv, e⟩ := h
  have pd := hd.dg.pl
  exact gcd_eq (IsG.of (pd.mul pa) (pd.mul pb) hd ⟨a, pa, by grind⟩ ⟨b, pb, by grind⟩ pu pv (by
    rw [show u * (d * a) + v * (d * b) = (u * a + v * b) * d by grind, e]; grind))
/-! ### products of powers of simple ones -/
def Lp : List (PS × Nat) → PS
  | [] => 1
  | z :: F => z.1 * Lp F
def Pw : List (PS × Nat) → PS
  | [] => 1
  | z :: F => z.1 ^ z.2 * Pw F
/-- with each times less one by k -/
def Pm (k : Nat) : List (PS × Nat) → PS
  | [] => 1
  | z :: F => z.1 ^ (z.2 - k) * Pm k F
def Rk (k : Nat) : List (PS × Nat) → PS
  | [] => 0
  | z :: F => PS.C ((z.2 : Rat) - (k : Rat)) * der z.1 * Lp F + z.1 * Rk k F
def Good : List (PS × Nat) → Prop
  | [] => True
  | z :: F => (∃ m, Mn z.1 (m + 1)) ∧ Cop z.1 (der z.1) ∧ 1 ≤ z.2 ∧ (∀ y ∈ F, Cop z.1 y.1) ∧ Good F
theorem Good.mn {F : List (PS × Nat)} (h : Good F) : ∀ z ∈ F, (∃ m, Mn z.1 (m + 1)) ∧ Cop z.1 (der z.1) ∧ 1 ≤ z.2 := by
  induction F with
  | nil => intro z hz; cases hz
  | cons y F ih =>
    obtain ⟨h1, h2, h3, h4, h5⟩ := h
    intro z hz
    rcases List.mem_cons.mp hz with rfl | hz
    · exact ⟨h1, h2, h3⟩
    · exact ih h5 z hz
theorem Good.filter {F : List (PS × Nat)} (h : Good F) (q : PS × Nat → Bool) : Good (F.filter q) := by
  induction F with
  | nil => exact h
  | cons y F ih =>
    obtain ⟨h1, h2, h3, h4, h5⟩ := h
    rw [List.filter_cons]
    split
    · exact ⟨h1, h2, h3, fun z hz => h4 z (List.mem_filter.mp hz).1, ih h5⟩
    · exact ih h5
theorem Lp_mn {F : List (PS × Nat)} (h : Good F) : ∃ n, Mn (Lp F) n := by
  induction F with
  | nil => exact ⟨0, Mn.one⟩
  | cons y F ih =>
    obtain ⟨⟨m, h1⟩, _, _, _, h5⟩ := h
    obtain ⟨n, hn⟩ := ih h5
    exact ⟨_, h1.mul hn⟩
theorem Pw_mn {F : List (PS × Nat)} (h : Good F) : ∃ n, Mn (Pw F) n := by
  induction F with
  | nil => exact ⟨0, Mn.one⟩
  | cons y F ih =>
    obtain ⟨⟨m, h1⟩, _, _, _, h5⟩ := h
    obtain ⟨n, hn⟩ := ih h5
    exact ⟨_, (h1.pow y.2).mul hn⟩
theorem Pm_mn (k : Nat) {F : List (PS × Nat)} (h : Good F) : ∃ n, Mn (Pm k F) n := by
  induction F with
  | nil => exact ⟨0, Mn.one⟩
  | cons y F ih =>
    obtain ⟨⟨m, h1⟩, _, _, _, h5⟩ := h
    obtain ⟨n, hn⟩ := ih h5
    exact ⟨_, (h1.pow (y.2 - k)).mul hn⟩
theorem Lp_pl {F : List (PS × Nat)} (h : Good F) : Pl (Lp F) := by obtain ⟨n, hn⟩ := Lp_mn h; exact hn.dg.pl
theorem Rk_pl (k : Nat) {F : List (PS × Nat)} (h : Good F) : Pl (Rk k F) := by
  induction F with
  | nil => exact Pl.zero
  | cons y F ih =>
    obtain ⟨⟨m, h1⟩, _, _, _, h5⟩ := h
    exact (((Pl.C _).mul h1.dg.pl.der).mul (Lp_pl h5)).add (h1.dg.pl.mul (ih h5))
/-- the slope of the product of simple ones -/
theorem der_Lp (k : Nat) (F : List (PS × Nat)) : Rk k F - der (Lp F) = Rk (k + 1) F := by
  induction F with
  | nil => show (0 : PS) - der 1 = 0; rw [der_one]; grind
  | cons y F ih =>
    show PS.C ((y.2 : Rat) - (k : Rat)) * der y.1 * Lp F + y.1 * Rk k F - der (y.1 * Lp F) = PS.C ((y.2 : Rat) - ((k + 1 : Nat) : Rat)) * der y.1 * Lp F + y.1 * Rk (k + 1) F
    rw [← ih, der_mul, show (y.2 : Rat) - (k : Rat) = ((y.2 : Rat) - ((k + 1 : Nat) : Rat)) + 1 by rw [Rat.natCast_add]; show _ = _ - (_ + 1) + 1; grind, C_add, C_one]
    grind
/-- with all times above k: the slope of the product of powers less by k -/
theorem der_Pm (k : Nat) {F : List (PS × Nat)} (h : ∀ z ∈ F, k < z.2) : der (Pm k F) = Pm (k + 1) F * Rk k F ∧ Pm k F = Lp F * Pm (k + 1) F := by
  induction F with
  | nil => exact ⟨by show der 1 = 1 * 0; rw [der_one]; grind, by show (1 : PS) = 1 * 1; grind⟩
  | cons y F ih =>
    obtain ⟨e1, e2⟩ := ih fun z hz => h z (List.mem_cons_of_mem _ hz)
    have hy := h y List.mem_cons_self
    obtain ⟨t, ht⟩ : ∃ t, y.2 - k = t + 1 := ⟨y.2 - k - 1, by omega⟩
    have ht' : y.2 - (k + 1) = t := by omega
    have hc : ((t + 1 : Nat) : Rat) = (y.2 : Rat) - (k : Rat) := by
      have : y.2 = t + 1 + k := by omega
      rw [this, Rat.natCast_add (t + 1) k]
      grind
    constructor
    · show der (y.1 ^ (y.2 - k) * Pm k F) = y.1 ^ (y.2 - (k + 1)) * Pm (k + 1) F * (PS.C ((y.2 : Rat) - (k : Rat)) * der y.1 * Lp F + y.1 * Rk k F)
      rw [ht, ht', der_mul, der_pow, e1, e2, hc, show (y.1 ^ (t + 1) : PS) = y.1 ^ t * y.1 by grind]
      grind
    · show y.1 ^ (y.2 - k) * Pm k F = y.1 * Lp F * (y.1 ^ (y.2 - (k + 1)) * Pm (k + 1) F)
      rw [ht, ht', e2, show (y.1 ^ (t + 1) : PS) = y.1 ^ t * y.1 by grind]
      grind
theorem Pm_zero (F : List (PS × Nat)) : Pm 0 F = Pw F := by
  induction F with
  | nil => rfl
  | cons y F ih => show y.1 ^ (y.2 - 0) * Pm 0 F = _; rw [ih]; rfl
theorem Cop.Lp {f : PS} {F : List (PS × Nat)} (pf : Pl f) (g : Good F) (h : ∀ y ∈ F, Cop f y.1) : Cop f (AW.Lp F) := by
  induction F with
  | nil => exact Cop.one f
  | cons y F ih =>
    obtain ⟨⟨m, h1⟩, _, _, _, h5⟩ := g
    exact Cop.mul pf h1.dg.pl (Lp_pl h5) (h y List.mem_cons_self) (ih h5 fun z hz => h z (List.mem_cons_of_mem _ hz))
/-- no times is k: nothing common -/
theorem Rk_cop (k : Nat) {F : List (PS × Nat)} (g : Good F) (h : ∀ z ∈ F, z.2 ≠ k) : Cop (Lp F) (Rk k F) := by
  induction F with
  | nil => exact (Cop.one _).symm
  | cons y F ih =>
    obtain ⟨⟨m, h1⟩, h2, h3, h4, h5⟩ := g
    have ih := ih h5 fun z hz => h z (List.mem_cons_of_mem _ hz)
    have hy := h y List.mem_cons_self
    have pf := h1.dg.pl
    have cf : Cop y.1 (Lp F) := Cop.Lp pf h5 h4
    have hc : (y.2 : Rat) - (k : Rat) ≠ 0 := fun z => by
      have e : (y.2 : Rat) = (k : Rat) := by grind
      exact hy (Rat.natCast_inj.mp e)
    show Cop (y.1 * Lp F) (PS.C ((y.2 : Rat) - (k : Rat)) * der y.1 * Lp F + y.1 * Rk k F)
    have pR : Pl (PS.C ((y.2 : Rat) - (k : Rat)) * der y.1 * Lp F + y.1 * Rk k F) := (((Pl.C _).mul pf.der).mul (Lp_pl h5)).add (pf.mul (Rk_pl k h5))
    refine Cop.mul_l pf (Lp_pl h5) pR ?_ ?_
    · have c1 : Cop y.1 (PS.C ((y.2 : Rat) - (k : Rat)) * der y.1 * Lp F) := Cop.mul pf ((Pl.C _).mul pf.der) (Lp_pl h5) (h2.smul hc) cf
      have := c1.add_mul (Rk_pl k h5)
      rw [show y.1 * Rk k F = Rk k F * y.1 by grind]
      exact this
    · have c1 : Cop (Lp F) (y.1 * Rk k F) := Cop.mul (Lp_pl h5) pf (Rk_pl k h5) cf.symm ih
      have := c1.add_mul ((Pl.C ((y.2 : Rat) - (k : Rat))).mul pf.der)
      rw [show PS.C ((y.2 : Rat) - (k : Rat)) * der y.1 * Lp F + y.1 * Rk k F = y.1 * Rk k F + PS.C ((y.2 : Rat) - (k : Rat)) * der y.1 * Lp F by grind]
      exact this
/-- those of times k, and the others -/
def At (k : Nat) (F : List (PS × Nat)) : List (PS × Nat) := F.filter fun z => z.2 == k
def Ov (k : Nat) (F : List (PS × Nat)) : List (PS × Nat) := F.filter fun z => !(z.2 == k)
theorem split_at (k : Nat) (F : List (PS × Nat)) : Lp F = Lp (At k F) * Lp (Ov k F) ∧ Rk k F = Lp (At k F) * Rk k (Ov k F) := by
  induction F with
  | nil => exact ⟨by show (1 : PS) = 1 * 1; grind, by show (0 : PS) = 1 * 0; grind⟩
  | cons y F ih =>
    obtain ⟨e1, e2⟩ := ih
    unfold At Ov at *
    rw [List.filter_cons, List.filter_cons]
    by_cases h : y.2 = k
    · simp only [h, beq_self_eq_true, if_true, Bool.not_true, if_false, Bool.false_eq_true]
      refine ⟨?_, ?_⟩
      · show y.1 * Lp F = y.1 * Lp _ * _
        rw [e1]; grind
      · show PS.C ((y.2 : Rat) - (k : Rat)) * der y.1 * Lp F + y.1 * Rk k F = y.1 * Lp _ * _
        rw [h, show (k : Rat) - (k : Rat) = 0 by grind, C_zero, e2]
        grind
    · simp only [h, beq_iff_eq, if_false, Bool.not_eq_true', beq_eq_false_iff_ne, ne_eq, not_false_eq_true, if_true]
      refine ⟨?_, ?_⟩
      · show y.1 * Lp F = _ * (y.1 * Lp _)
        rw [e1]; grind
      · show PS.C ((y.2 : Rat) - (k : Rat)) * der y.1 * Lp F + y.1 * Rk k F = _ * (PS.C ((y.2 : Rat) - (k : Rat)) * der y.1 * Lp _ + y.1 * Rk k _)
        rw [e2, e1]
        grind
theorem gcd_at (k : Nat) {F : List (PS × Nat)} (g : Good F) : gcd (Lp F) (Rk k F) = Lp (At k F) := by
  obtain ⟨e1, e2⟩ := split_at k F
  rw [e1, e2]
  have g2 : Good (Ov k F) := g.filter _
  obtain ⟨n, hn⟩ := Lp_mn (g.filter (fun z => z.2 == k))
  refine gcd_mul (Lp_pl g2) (Rk_pl k g2) (n := n) hn (Rk_cop k g2 fun z hz => ?_)
  have := (List.mem_filter.mp hz).2
  simpa using this
theorem quo_at (k : Nat) {F : List (PS × Nat)} (g : Good F) : quo (Lp F) (Lp (At k F)) = Lp (Ov k F) ∧ quo (Rk k F) (Lp (At k F)) = Rk k (Ov k F) := by
  obtain ⟨e1, e2⟩ := split_at k F
  have g2 : Good (Ov k F) := g.filter _
  obtain ⟨n, hn⟩ := Lp_mn (g.filter (fun z => z.2 == k))
  have hn : Mn (Lp (At k F)) n := hn
  exact ⟨by rw [e1, show Lp (At k F) * Lp (Ov k F) = Lp (Ov k F) * Lp (At k F) by grind]; exact (quo_mul hn.dg.pl hn.dg.ne (Lp_pl g2)).1,
    by rw [e2, show Lp (At k F) * Rk k (Ov k F) = Rk k (Ov k F) * Lp (At k F) by grind]; exact (quo_mul hn.dg.pl hn.dg.ne (Rk_pl k g2)).1⟩
/-! ### there is such a product -/
theorem irr_ex {p : PS} {n : Nat} (hp : Mn p (n + 1)) : ∃ f m, Mn f (m + 1) ∧ Dv f p ∧ ∀ h, Pl h → Cop f h ∨ Dv f h := by
  obtain ⟨m, ⟨m1, f, hf, hd⟩, hmin⟩ := least (P := fun m => 1 ≤ m ∧ ∃ f, Mn f m ∧ Dv f p) (n := n + 1) ⟨by omega, p, hp, Dv.refl p⟩
  obtain ⟨m, rfl⟩ : ∃ k, m = k + 1 := ⟨m - 1, by omega⟩
  refine ⟨f, m, hf, hd, fun h ph => ?_⟩
  have ig := gcd_is hf.dg.pl ph
  obtain ⟨j, hj⟩ := gcd_mn hf.dg.pl ph (.inl hf.dg.ne)
  have jm := ig.dvl.dg hj.dg hf.dg
  rcases Nat.eq_zero_or_pos j with z | z
  · subst z
    left
    refine cop_of_gcd hf.dg.pl ph ?_
    have := Dg.const hj.1
    rw [this, hj.2, C_one]
  · right
    have hjm : j = m + 1 := by
      rcases Nat.lt_or_ge j (m + 1) with q | q
      · exact absurd ⟨z, _, hj, ig.dvl.trans hd⟩ (hmin j q)
      · omega
    subst hjm
    -- the divisor has the whole degree
    have e : gcd f h = f := by
      obtain ⟨s, ps, e⟩ := ig.dvl
      have s0 : s ≠ 0 := fun q => hf.dg.ne (by rw [e, q]; grind)
      obtain ⟨l, hl⟩ := ps.dg s0
      have q := hl.mul hj.dg
      rw [← e] at q
      have q := q.uniq hf.dg
      have : l = 0 := by omega
      subst this
      have cs := Dg.const hl.1
      have t := hf.2
      rw [e, cs, C_mul, hj.2] at t
      have : s = 1 := by rw [cs, show s.f 0 = 1 by grind, C_one]
      rw [this] at e
      rw [show (1 : PS) * gcd f h = gcd f h by grind] at e
      exact e.symm
    have := ig.dvr
    rw [e] at this
    exact this
theorem max_pow {f : PS} {m : Nat} (hf : Mn f (m + 1)) : ∀ (n : Nat) {p : PS}, Mn p n → ∃ e q j, p = f ^ e * q ∧ Mn q j ∧ ¬ Dv f q ∧ n = (m + 1) * e + j := fun n => by
  induction n using Nat.strongRecOn with
  | _ n ih =>
    intro p hp
    by_cases d : Dv f p
    · obtain ⟨s, ps, e⟩ := d
      have s0 : s ≠ 0 := fun q => hp.dg.ne (by rw [e, q]; grind)
      obtain ⟨l, hl⟩ := ps.dg s0
      have q := hl.mul hf.dg
      rw [← e] at q
      have q := q.uniq hp.dg
      have hs : Mn s l := ⟨hl.1, by
        have t := hp.2
        rw [e, ← q, top_mul hf.1 hl.1, hf.2] at t
        grind⟩
      obtain ⟨e', q', j, h1, h2, h3, h4⟩ := ih l (by omega) hs
      refine ⟨e' + 1, q', j, by rw [e, h1, show (f ^ (e' + 1) : PS) = f ^ e' * f by grind]; grind, h2, h3, ?_⟩
      rw [Nat.mul_add]
      omega
    · exact ⟨0, p, n, by rw [show (f ^ 0 : PS) = 1 by grind]; grind, hp, d, by omega⟩
theorem Pw_dv {F : List (PS × Nat)} (g : Good F) : ∀ z ∈ F, Dv z.1 (Pw F) := by
  induction F with
  | nil => intro z hz; cases hz
  | cons y F ih =>
    obtain ⟨⟨m, h1⟩, _, h3, _, h5⟩ := g
    intro z hz
    have pP : Pl (Pw F) := by obtain ⟨n, hn⟩ := Pw_mn h5; exact hn.dg.pl
    rcases List.mem_cons.mp hz with rfl | hz
    · refine Dv.mul_r _ pP ?_
      refine ⟨z.1 ^ (z.2 - 1), h1.dg.pl.pow _, ?_⟩
      obtain ⟨t, ht⟩ : ∃ t, z.2 = t + 1 := ⟨z.2 - 1, by omega⟩
      rw [ht, Nat.add_sub_cancel]
      grind
    · exact (ih h5 z hz).mul _ (h1.dg.pl.pow _)
theorem good_ex : ∀ (n : Nat) {p : PS}, Mn p n → ∃ F, Good F ∧ Pw F = p := fun n => by
  induction n using Nat.strongRecOn with
  | _ n ih =>
    intro p hp
    cases n with
    | zero =>
      refine ⟨[], trivial, ?_⟩
      have := Dg.const hp.1
      rw [this, hp.2, C_one]
      rfl
    | succ n =>
      obtain ⟨f, m, hf, hd, irr⟩ := irr_ex hp
      obtain ⟨e, q, j, h1, h2, h3, h4⟩ := max_pow hf _ hp
      have e1 : 1 ≤ e := by
        rcases Nat.eq_zero_or_pos e with z | z
        · subst z
          rw [show (f ^ 0 : PS) * q = q by grind] at h1
          rw [h1] at hd
          exact absurd hd h3
        · exact z
      have hj : j < n + 1 := by
        have : (m + 1) * 1 ≤ (m + 1) * e := Nat.mul_le_mul_left _ e1
        omega
      obtain ⟨F, gF, eF⟩ := ih j hj h2
      have cq : Cop f q := (irr q h2.dg.pl).resolve_right h3
      refine ⟨(f, e) :: F, ⟨⟨m, hf⟩, ?_, e1, fun y hy => ?_, gF⟩, ?_⟩
      · rcases irr (der f) hf.dg.pl.der with c | c
        · exact c
        · have := c.dg hf.dg hf.dg.der
          omega
      · have := Pw_dv gF y hy
        rw [eF] at this
        exact cq.dv this
      · show f ^ e * Pw F = p
        rw [eF, ← h1]
end AW

/-! AwCom: the common part. -/
namespace AW
open PySem PySem.Spec PyProof.Rows
/-- what the walk of rests has ahead -/
def ComSt (h s : Nat) (x y : PS) : Prop := y = 0 ∨ x = 0 ∨ ∃ (p q : PS) (m n : Nat), Dg p m ∧ Dg q n ∧ Hb h p ∧ Hb h q ∧ m + n ≤ s ∧ ((x = p ∧ y = q) ∨ ∃ j, EuI p q m n x y j)
theorem ComSt.step {h s l : Nat} {x y : PS} (st : ComSt h s x y) (px : Pl x) (py : Pl y) (hy : y ≠ 0) (hl : 2 * s + 1 ≤ 2 ^ l) :
    ComSt h s y (mon (rem x y)) ∧ (Hb (s * (h + l)) (mon (rem x y)) ∨ Hb h (mon (rem x y))) := by
  obtain ⟨n', dy⟩ := py.dg hy
  obtain ⟨mx, lx⟩ := px
  obtain ⟨e, hr, hs⟩ := quo_rem dy lx
  by_cases hr0 : rem x y = 0
  · rw [hr0, mon_zero]
    exact ⟨.inl rfl, .inl (Hb.zero _)⟩
  have pr : Pl (rem x y) := ⟨_, hr⟩
  obtain ⟨jr, dr⟩ := pr.dg hr0
  have cne : (lc (rem x y))⁻¹ ≠ 0 := by have := lc_ne pr hr0; grind
  rcases st with h1 | h1 | ⟨p, q, m, n, dp, dq, hp, hq, hmn, h1⟩
  · exact absurd h1 hy
  · subst h1
    exact absurd (quo_eq dy Pl.zero (Lt.zero _) (show (0 : PS) = 0 * y + 0 by grind)).2 hr0
  · rcases h1 with ⟨rfl, rfl⟩ | ⟨j, eu⟩
    · have := dy.uniq dq
      subst this
      rcases Nat.lt_or_ge m n' with z | z
      · have e1 := (quo_eq dq Pl.zero (dp.1.mono (by omega)) (show x = 0 * y + x by grind)).2
        rw [e1]
        exact ⟨.inr (.inr ⟨y, mon x, n', m, dq, (mon_mn dp).dg, hq, hp.mon' dp.pl, by omega, .inl ⟨rfl, rfl⟩⟩), .inr (hp.mon' dp.pl)⟩
      · have eu := EuI.start dp.1 dq z e hr (hs := (quo_rem dy dp.1).2.2) cne
        have ht := eu.ht (l := l) hp hq dp dq (mon_mn dr) (by omega)
        exact ⟨.inr (.inr ⟨x, y, m, n', dp, dq, hp, hq, hmn, .inr ⟨_, eu⟩⟩), .inl (ht.mono (Nat.mul_le_mul_right _ hmn))⟩
    · have eu2 := eu.step dy e hr (quo_rem dy eu.1.1).2.2 cne
      have ht := eu2.ht (l := l) hp hq dp dq (mon_mn dr) (by omega)
      exact ⟨.inr (.inr ⟨p, q, m, n, dp, dq, hp, hq, hmn, .inr ⟨_, eu2⟩⟩), .inl (ht.mono (Nat.mul_le_mul_right _ hmn))⟩
/-- the bits of a common part -/
def cb (m n h l : Nat) : Nat := (m + n) * (h + l)
section
variable {G : Nat → D} {c : Nat → List Sl → R (D × Bool)} {T : List Fn} {nm : Nm}
def ComOk (m n h l : Nat) : Prop := 2 * (m + n) + 1 ≤ 2 ^ l ∧ m + n ≤ 10000 ∧ cb m n h l + (m + n + 2) * (cb m n h l + 1) ≤ 39000000
def SpCom (c : Nat → List Sl → R (D × Bool)) (j : Nat) : Prop := ∀ (a b : PS) (m n h l : Nat), Z m h a → Z n h b → ComOk m n h l → c j [.va (po a), .va (po b)] = va (po (gcd a b))
theorem common_ok {jm jp : Nat} (hm : SpMon c jm) (hp : SpDiv c jp) {a b : PS} {m n h l : Nat} (za : Z m h a) (zb : Z n h b) (hz : ComOk m n h l) : bo G c T (b_common jm jp) [.va (po a), .va (po b)] 0 = va (po (gcd a b)) := by
  obtain ⟨hl, hmn, hB⟩ := hz
  rcases Nat.eq_zero_or_pos (m + n) with z0 | z0
  · have ea : a = 0 := (za.lt.mono (by omega)).nil
    have eb : b = 0 := (zb.lt.mono (by omega)).nil
    subst ea; subst eb
    have e := hm 0 0 0 (Z.zero _ _) (by omega)
    rw [gcd_zero Pl.zero, po_zero]
    rw [po_zero] at e
    have c0 : (0 : Nat) ≤ line := Nat.zero_le _
    have q : sem2 .ne (.tuple []) (.tuple []) = v1 (.bool false) := by rw [← po_zero]; exact ne_self 0
    unfold bo b_common
    simp [val, es_whl]
    rw [whileR_stop (by simp [val, q])]
    simp [val, e]
  have hBh : h ≤ cb m n h l := by
    unfold cb
    have : 1 * (h + l) ≤ (m + n) * (h + l) := Nat.mul_le_mul_right _ z0
    omega
  have c0 : (0 : Nat) ≤ line := Nat.zero_le _
  have init : ComSt h (m + n) a b := by
    by_cases a0 : a = 0
    · exact .inr (.inl a0)
    by_cases b0 : b = 0
    · exact .inl b0
    obtain ⟨da, ha⟩ := za.pl.dg a0
    obtain ⟨db, hb⟩ := zb.pl.dg b0
    have := ha.lt za.lt
    have := hb.lt zb.lt
    exact .inr (.inr ⟨a, b, da, db, ha, hb, za.hb, zb.hb, by omega, .inl ⟨rfl, rfl⟩⟩)
  generalize hBB : cb m n h l = B at *
  rw [Nat.add_mul] at hB
  unfold bo b_common
  simp [val, es_whl]
  refine whileR_then (P := fun r => outF (r.bind _) = _) (I := fun en => ∃ x y, en = [.va (po x), .va (po y)] ∧ Z (m + n) B x ∧ Z (m + n) B y ∧ gcd x y = gcd a b ∧ ComSt h (m + n) x y) (m := fun en => match en with
    | [_, .va (.tuple ds)] => ds.length
    | _ => 0) ?_ ⟨a, b, rfl, za.mono (by omega) hBh, zb.mono (by omega) hBh, rfl, init⟩
  rintro en ⟨x, y, rfl, zx, zy, hg, st⟩
  have e0 := ne_po0 zy.pl
  by_cases hy : y = 0
  · left
    subst hy
    have e1 := hm x _ _ zx (by omega)
    rw [gcd_zero zx.pl] at hg
    rw [hg] at e1
    refine ⟨by simp [val, c0, e0], by simp [val, e1]⟩
  · right
    obtain ⟨n', dy⟩ := zy.pl.dg hy
    have dl := dy.lt zy.lt
    have e1 := hp x y _ _ _ _ zx zy hy (by rw [Nat.add_mul]; omega)
    obtain ⟨e2, hr, hs⟩ := quo_rem dy zx.lt
    have zr := (Z.div zx ⟨dy.1, zy.hb⟩ dy).2
    have e3 := hm (rem x y) _ _ zr (by omega)
    obtain ⟨s1, s2⟩ := st.step zx.pl zy.pl hy (l := l) hl
    have hbr : Hb B (mon (rem x y)) := by
      rcases s2 with s2 | s2
      · rw [← hBB]; exact s2
      · exact s2.mono hBh
    refine ⟨by simp [val, c0, e0, hy], [.va (po y), .va (po (mon (rem x y)))], by simp [val, e1, e3], ⟨y, _, rfl, zy, ⟨mon_lt (hr.mono (by omega)), hbr⟩, ?_, s1⟩, ?_⟩
    · rw [← hg, gcd_step ⟨_, hs⟩ ⟨_, hr⟩ zy.pl e2]
    · have l1 := toL_le (mon_lt hr)
      have l2 := toL_len dy
      show ((toL (mon (rem x y))).map fr).length < ((toL y).map fr).length
      rw [List.length_map, List.length_map]
      omega
theorem Z.gcd {a b : PS} {m n h l : Nat} (za : Z m h a) (zb : Z n h b) (hl : 2 * (m + n) + 1 ≤ 2 ^ l) : Hb (cb m n h l) (AW.gcd a b) := by
  rcases Nat.eq_zero_or_pos (m + n) with z0 | z0
  · have ea : a = 0 := (za.lt.mono (by omega)).nil
    have eb : b = 0 := (zb.lt.mono (by omega)).nil
    subst ea; subst eb
    rw [gcd_zero Pl.zero, mon_zero]
    exact Hb.zero _
  have hBh : h ≤ cb m n h l := by
    unfold cb
    have : 1 * (h + l) ≤ (m + n) * (h + l) := Nat.mul_le_mul_right _ z0
    omega
  have go : ∀ (k : Nat) (x y : PS), Pl x → Lt y k → Hb (cb m n h l) x → Hb (cb m n h l) y → ComSt h (m + n) x y → Hb (cb m n h l) (AW.gcd x y) := by
    intro k
    induction k with
    | zero =>
      intro x y px ly hx hy st
      rw [ly.nil, gcd_zero px]
      exact hx.mon' px
    | succ k ih =>
      intro x y px ly hx hy st
      by_cases y0 : y = 0
      · rw [y0, gcd_zero px]; exact hx.mon' px
      · obtain ⟨n', dy⟩ := (show Pl y from ⟨_, ly⟩).dg y0
        have dl := dy.lt ly
        obtain ⟨mx, lx⟩ := px
        obtain ⟨e2, hr, hs⟩ := quo_rem dy lx
        obtain ⟨s1, s2⟩ := st.step ⟨_, lx⟩ dy.pl y0 (l := l) hl
        rw [gcd_step ⟨_, hs⟩ ⟨_, hr⟩ dy.pl e2]
        exact ih y (AW.mon (rem x y)) dy.pl (mon_lt (hr.mono (by omega))) hy (by
          rcases s2 with s2 | s2
          · exact s2
          · exact s2.mono hBh) s1
  refine go n a b za.pl zb.lt (za.hb.mono hBh) (zb.hb.mono hBh) ?_
  by_cases a0 : a = 0
  · exact .inr (.inl a0)
  by_cases b0 : b = 0
  · exact .inl b0
  obtain ⟨da, ha⟩ := za.pl.dg a0
  obtain ⟨db, hb⟩ := zb.pl.dg b0
  have := ha.lt za.lt
  have := hb.lt zb.lt
  exact .inr (.inr ⟨a, b, da, db, ha, hb, za.hb, zb.hb, by omega, .inl ⟨rfl, rfl⟩⟩)
end
end AW

/-! AwPrt: the program's simple parts. -/
namespace AW
open PySem PySem.Spec PyProof.Rows
/-- those of times k and more -/
def Ge (k : Nat) (F : List (PS × Nat)) : List (PS × Nat) := F.filter fun z => decide (k ≤ z.2)
theorem at_ge (k : Nat) (F : List (PS × Nat)) : At k (Ge k F) = At k F := by
  unfold At Ge
  rw [List.filter_filter]
  refine List.filter_congr fun z _ => ?_
  by_cases h : z.2 = k <;> simp [h]
theorem ov_ge (k : Nat) (F : List (PS × Nat)) : Ov k (Ge k F) = Ge (k + 1) F := by
  unfold Ov Ge
  rw [List.filter_filter]
  refine List.filter_congr fun z _ => ?_
  by_cases h : z.2 = k
  · subst h; simp
  · by_cases h2 : k ≤ z.2
    · have : k + 1 ≤ z.2 := by omega
      simp [h, h2, this]
    · have : ¬ k + 1 ≤ z.2 := by omega
      simp [h2, this]
theorem ge_one {F : List (PS × Nat)} (g : Good F) : Ge 1 F = F := by
  unfold Ge
  rw [List.filter_eq_self]
  intro z hz
  have := (g.mn z hz).2.2
  simpa using this
theorem Good.pair {F : List (PS × Nat)} (g : Good F) : ∀ z ∈ F, ∀ y ∈ F, z.2 ≠ y.2 → Cop z.1 y.1 := by
  induction F with
  | nil => intro z hz; cases hz
  | cons w F ih =>
    obtain ⟨h1, h2, h3, h4, h5⟩ := g
    intro z hz y hy hne
    rcases List.mem_cons.mp hz with e1 | h1'
    · rcases List.mem_cons.mp hy with e2 | h2'
      · exact absurd (by rw [e1, e2]) hne
      · rw [e1]; exact h4 y h2'
    · rcases List.mem_cons.mp hy with e2 | h2'
      · rw [e2]; exact (h4 z h1').symm
      · exact ih h5 z h1' y h2' hne
/-! ### divisors -/
theorem Pw_filter_dv {F : List (PS × Nat)} (g : Good F) (q : PS × Nat → Bool) : Dv (Pw (F.filter q)) (Pw F) := by
  induction F with
  | nil => exact Dv.refl _
  | cons y F ih =>
    obtain ⟨⟨m, h1⟩, _, _, _, h5⟩ := g
    rw [List.filter_cons]
    split
    · exact (Dv.refl _).mul_mul (ih h5)
    · exact (ih h5).mul _ (h1.dg.pl.pow _)
theorem pow_dv {f : PS} (pf : Pl f) {a b : Nat} (h : a ≤ b) : Dv (f ^ a) (f ^ b) := by
  obtain ⟨c, rfl⟩ : ∃ c, b = c + a := ⟨b - a, by omega⟩
  exact ⟨f ^ c, pf.pow c, by grind⟩
theorem Lp_dv {F : List (PS × Nat)} (g : Good F) : Dv (Lp F) (Pw F) := by
  induction F with
  | nil => exact Dv.refl _
  | cons y F ih =>
    obtain ⟨⟨m, h1⟩, _, h3, _, h5⟩ := g
    have := pow_dv h1.dg.pl h3
    rw [show (y.1 ^ 1 : PS) = y.1 by grind] at this
    exact this.mul_mul (ih h5)
theorem Pm_dv (k : Nat) {F : List (PS × Nat)} (g : Good F) : Dv (Pm k F) (Pw F) := by
  induction F with
  | nil => exact Dv.refl _
  | cons y F ih =>
    obtain ⟨⟨m, h1⟩, _, _, _, h5⟩ := g
    exact (pow_dv h1.dg.pl (Nat.sub_le _ _)).mul_mul (ih h5)
/-! ### the told parts -/
def partsF (F : List (PS × Nat)) : Nat → List (PS × Nat)
  | 0 => []
  | K + 1 => partsF F K ++ (if At (K + 1) F = [] then [] else [(Lp (At (K + 1) F), K + 1)])
def SP (p : PS) (L : List (PS × Nat)) : Prop := ∃ F K, Good F ∧ Pw F = mon p ∧ (∀ z ∈ F, z.2 ≤ K) ∧ L = partsF F K
theorem partsF_mem {F : List (PS × Nat)} {K : Nat} : ∀ z ∈ partsF F K, 1 ≤ z.2 ∧ z.2 ≤ K ∧ z.1 = Lp (At z.2 F) ∧ At z.2 F ≠ [] := by
  induction K with
  | zero => intro z hz; cases hz
  | succ K ih =>
    intro z hz
    rcases List.mem_append.mp hz with hz | hz
    · obtain ⟨h1, h2, h3⟩ := ih z hz
      exact ⟨h1, by omega, h3⟩
    · by_cases h : At (K + 1) F = []
      · rw [if_pos h] at hz; cases hz
      · rw [if_neg h] at hz
        rcases List.mem_cons.mp hz with rfl | hz
        · exact ⟨by omega, Nat.le_refl _, rfl, h⟩
        · cases hz
theorem at_mn {F : List (PS × Nat)} (g : Good F) {k : Nat} (h : At k F ≠ []) : ∃ m, Mn (Lp (At k F)) (m + 1) := by
  have g2 : Good (At k F) := g.filter _
  cases hA : At k F with
  | nil => exact absurd hA h
  | cons y A =>
    rw [hA] at g2
    obtain ⟨⟨m, h1⟩, _, _, _, h5⟩ := g2
    obtain ⟨n, hn⟩ := Lp_mn h5
    have := h1.mul hn
    exact ⟨m + n, by rw [show m + n + 1 = m + 1 + n by omega]; exact this⟩
theorem at_der {F : List (PS × Nat)} (g : Good F) {k : Nat} (hk : 1 ≤ k) : Cop (Lp (At k F)) (der (Lp (At k F))) := by
  have g2 : Good (At k F) := g.filter _
  have ht : ∀ z ∈ At k F, z.2 = k := fun z hz => by simpa using (List.mem_filter.mp hz).2
  have e1 := der_Lp (k - 1) (At k F)
  rw [show k - 1 + 1 = k by omega] at e1
  have e0 : ∀ A : List (PS × Nat), (∀ z ∈ A, z.2 = k) → Rk k A = 0 := fun A => by
    induction A with
    | nil => intro _; rfl
    | cons y A ih =>
      intro h
      show PS.C ((y.2 : Rat) - (k : Rat)) * der y.1 * Lp A + y.1 * Rk k A = 0
      rw [ih fun z hz => h z (List.mem_cons_of_mem _ hz), h y List.mem_cons_self, show (k : Rat) - (k : Rat) = 0 by grind, PS.C_zero]
      grind
  rw [e0 _ ht] at e1
  have e2 : der (Lp (At k F)) = Rk (k - 1) (At k F) := by grind
  rw [e2]
  exact Rk_cop _ g2 fun z hz => by have := ht z hz; omega
theorem at_cop {F : List (PS × Nat)} (g : Good F) {i j : Nat} (h : i ≠ j) : Cop (Lp (At i F)) (Lp (At j F)) := by
  have g1 : Good (At i F) := g.filter _
  have g2 : Good (At j F) := g.filter _
  refine Cop.Lp (Lp_pl g1) g2 fun y hy => (Cop.Lp (g2.mn y hy).1.choose_spec.dg.pl g1 fun z hz => ?_).symm
  have e1 : z.2 = i := by simpa using (List.mem_filter.mp hz).2
  have e2 : y.2 = j := by simpa using (List.mem_filter.mp hy).2
  exact g.pair y (List.mem_filter.mp hy).1 z (List.mem_filter.mp hz).1 (by omega)
theorem good_snoc {L : List (PS × Nat)} {a : PS} {k : Nat} (g : Good L) (h1 : ∃ m, Mn a (m + 1)) (h2 : Cop a (der a)) (h3 : 1 ≤ k) (h4 : ∀ z ∈ L, Cop z.1 a) : Good (L ++ [(a, k)]) := by
  induction L with
  | nil => exact ⟨h1, h2, h3, (fun y hy => by cases hy), trivial⟩
  | cons y L ih =>
    obtain ⟨g1, g2, g3, g4, g5⟩ := g
    refine ⟨g1, g2, g3, fun z hz => ?_, ih g5 fun z hz => h4 z (List.mem_cons_of_mem _ hz)⟩
    rcases List.mem_append.mp hz with hz | hz
    · exact g4 z hz
    · rcases List.mem_cons.mp hz with rfl | hz
      · exact h4 y List.mem_cons_self
      · cases hz
theorem partsF_good {F : List (PS × Nat)} (g : Good F) : ∀ K, Good (partsF F K)
  | 0 => trivial
  | K + 1 => by
    show Good (partsF F K ++ _)
    by_cases h : At (K + 1) F = []
    · rw [if_pos h, List.append_nil]; exact partsF_good g K
    · rw [if_neg h]
      refine good_snoc (partsF_good g K) (at_mn g h) (at_der g (by omega)) (by omega) fun z hz => ?_
      obtain ⟨h1, h2, h3, h4⟩ := partsF_mem z hz
      rw [h3]
      exact at_cop g (by omega)
theorem Pw_append (A B : List (PS × Nat)) : Pw (A ++ B) = Pw A * Pw B := by
  induction A with
  | nil => show Pw B = 1 * Pw B; grind
  | cons y A ih => show y.1 ^ y.2 * Pw (A ++ B) = y.1 ^ y.2 * Pw A * Pw B; rw [ih]; grind
theorem mul_pow' (a b : PS) : ∀ n : Nat, (a * b) ^ n = a ^ n * b ^ n
  | 0 => by grind
  | n + 1 => by
    rw [show (a * b) ^ (n + 1) = (a * b) ^ n * (a * b) by grind, mul_pow' a b n, show a ^ (n + 1) = a ^ n * a by grind, show b ^ (n + 1) = b ^ n * b by grind]
    grind
theorem one_pow' : ∀ n : Nat, (1 : PS) ^ n = 1
  | 0 => by grind
  | n + 1 => by rw [show (1 : PS) ^ (n + 1) = 1 ^ n * 1 by grind, one_pow' n]; grind
theorem partsF_Pw {F : List (PS × Nat)} {K : Nat} (h : ∀ z ∈ F, 1 ≤ z.2 ∧ z.2 ≤ K) : Pw (partsF F K) = Pw F := by
  let Q : Nat → List (PS × Nat) → PS := fun K F => (List.range K).foldr (fun j a => Lp (At (j + 1) F) ^ (j + 1) * a) 1
  have e1 : ∀ K, Pw (partsF F (K + 1)) = Pw (partsF F K) * Lp (At (K + 1) F) ^ (K + 1) := fun K => by
    show Pw (partsF F K ++ _) = _
    rw [Pw_append]
    by_cases h : At (K + 1) F = []
    · rw [if_pos h, h]
      show _ * (1 : PS) = _ * (1 : PS) ^ (K + 1)
      rw [one_pow']
    · rw [if_neg h]
      show _ * (Lp (At (K + 1) F) ^ (K + 1) * 1) = _
      grind
  have go : ∀ K, Pw (partsF F K) = Pw (F.filter fun z => decide (z.2 ≤ K)) * 1 := fun K => by
    induction K with
    | zero =>
      have : F.filter (fun z => decide (z.2 ≤ 0)) = [] := by
        rw [List.filter_eq_nil_iff]
        intro z hz
        have := (h z hz).1
        simp; omega
      rw [this]
      show (1 : PS) = 1 * 1
      grind
    | succ K ih =>
      rw [e1, ih]
      have sp : ∀ A : List (PS × Nat), Pw (A.filter fun z => decide (z.2 ≤ K + 1)) = Pw (A.filter fun z => decide (z.2 ≤ K)) * Lp (At (K + 1) A) ^ (K + 1) := fun A => by
        induction A with
        | nil => show (1 : PS) = 1 * (1 : PS) ^ (K + 1); rw [one_pow']; grind
        | cons y A ih =>
          unfold At at *
          rw [List.filter_cons, List.filter_cons, List.filter_cons]
          by_cases h1 : y.2 = K + 1
          · have h2 : ¬ y.2 ≤ K := by omega
            simp only [h1, h2, Nat.le_refl, decide_true, if_true, decide_false, beq_self_eq_true, show ¬ (K + 1 ≤ K) by omega]
            show y.1 ^ y.2 * Pw _ = _ * (y.1 * Lp _) ^ (K + 1)
            rw [ih, mul_pow', h1]
            grind
          · by_cases h2 : y.2 ≤ K
            · have h3 : y.2 ≤ K + 1 := by omega
              simp only [h2, h3, decide_true, if_true, beq_iff_eq, h1, if_false]
              show y.1 ^ y.2 * Pw _ = y.1 ^ y.2 * Pw _ * _
              rw [ih]
              grind
            · have h3 : ¬ y.2 ≤ K + 1 := by omega
              simp only [h2, h3, decide_false, beq_iff_eq, h1, if_false]
              exact ih
      rw [sp]
      grind
  rw [go K]
  have : F.filter (fun z => decide (z.2 ≤ K)) = F := by
    rw [List.filter_eq_self]
    intro z hz
    simpa using (h z hz).2
  rw [this]
  grind
theorem partsF_sorted {F : List (PS × Nat)} : ∀ K, (partsF F K).Pairwise fun a b => a.2 < b.2
  | 0 => List.Pairwise.nil
  | K + 1 => by
    show List.Pairwise _ (partsF F K ++ _)
    rw [List.pairwise_append]
    refine ⟨partsF_sorted K, ?_, fun a ha b hb => ?_⟩
    · split
      · exact List.Pairwise.nil
      · exact List.pairwise_singleton _ _
    · have := (partsF_mem a ha).2.1
      split at hb
      · cases hb
      · rcases List.mem_cons.mp hb with rfl | hb
        · show a.2 < K + 1
          omega
        · cases hb
theorem SP.good {p : PS} {L : List (PS × Nat)} (h : SP p L) : Good L ∧ Pw L = mon p ∧ L.Pairwise fun a b => a.2 < b.2 := by
  obtain ⟨F, K, g, e, hK, rfl⟩ := h
  exact ⟨partsF_good g K, by rw [partsF_Pw fun z hz => ⟨(g.mn z hz).2.2, hK z hz⟩, e], partsF_sorted K⟩
/-! ### the walk -/
noncomputable def pd (z : PS × Nat) : D := .tuple [po z.1, .int (z.2 : Nat)]
section
variable {G : Nat → D} {c : Nat → List Sl → R (D × Bool)} {T : List Fn} {nm : Nm}
def SpOft (c : Nat → List Sl → R (D × Bool)) (j : Nat) : Prop := ∀ (a b : PS) (m n h k : Nat), Z m h a → Z n k b → b ≠ 0 → m ≤ 20000 ∧ n ≤ 20000 ∧ h + (m + 2) * (k + 1) ≤ 39000000 → c j [.va (po a), .va (po b)] = va (po (quo a b))
theorem often_ok {jp : Nat} (hp : SpDiv c jp) {a b : PS} {m n h k : Nat} (za : Z m h a) (zb : Z n k b) (b0 : b ≠ 0) (hz : m ≤ 20000 ∧ n ≤ 20000 ∧ h + (m + 2) * (k + 1) ≤ 39000000) : bo G c T (b_often_in jp) [.va (po a), .va (po b)] 0 = va (po (quo a b)) := by
  have e := hp a b m n h k za zb b0 hz
  unfold bo b_often_in
  simp [val, e]
theorem Lp_len {F : List (PS × Nat)} (g : Good F) : ((toL (Lp F)).length > 1) ↔ F ≠ [] := by
  cases F with
  | nil => show (toL 1).length > 1 ↔ _; rw [toL_len Mn.one.dg]; simp
  | cons y F =>
    obtain ⟨⟨m, h1⟩, _, _, _, h5⟩ := g
    obtain ⟨n, hn⟩ := Lp_mn h5
    have := toL_len (h1.mul hn).dg
    show (toL (y.1 * Lp F)).length > 1 ↔ _
    rw [this]
    simp
    omega
end
end AW

/-! AwLaw1: the laws' own reckoning with fractions and rows. -/
namespace AW
open PySem PySem.Spec PyProof.Rows
theorem z01 : PyData.tuple [.int 0, .int 1] = fr 0 := rfl
theorem shp_row (p : List Rat) : Shp 2 (.list (p.map fr)) := Shp.lst fun d hd => by
  obtain ⟨x, _, rfl⟩ := List.mem_map.mp hd
  exact Shp.fr x
theorem ne_row (p : List Rat) : sem2 .ne (.list (p.map fr)) (.list []) = v1 (.bool (!p.isEmpty)) := by
  rw [s2_ne, if_pos ⟨(shp_row p).ok (by decide), (shp_row []).ok (by decide)⟩]
  cases p <;> rfl
theorem Bd.pow {d : Nat} {x : Rat} (h : Bd d x) : ∀ i : Nat, Bd (i * d) (x ^ i)
  | 0 => by rw [Rat.pow_zero]; exact Bd.one _
  | i + 1 => by
    rw [Rat.pow_succ, Nat.add_mul, Nat.one_mul]
    exact (Bd.pow h i).mul h
section
variable {G : Nat → D} {c : Nat → List Sl → R (D × Bool)} {T : List Fn} {nm : Nm}
end
end AW

/-! AwLaw2: the laws' slopes, values, rows put in; the drawn parts. -/
namespace AW
open PySem PySem.Spec PyProof.Rows
section
variable {G : Nat → D} {c : Nat → List Sl → R (D × Bool)} {T : List Fn} {nm : Nm}
/-! ### drawn parts -/
def mixV (x k : Int) : Int := ((((x + 7919 * k) * 48271).fmod 2147483647) * ((((x + 7919 * k) * 48271).fmod 2147483647) + 2 * k + 1)).fmod 2147483629
theorem mixV_nn (x k : Int) : 0 ≤ mixV x k ∧ mixV x k < 2147483629 := by
  unfold mixV
  rw [Int.fmod_eq_emod_of_nonneg _ (by decide)]
  exact ⟨Int.emod_nonneg _ (by decide), Int.emod_lt_of_pos _ (by decide)⟩
def SpMix (c : Nat → List Sl → R (D × Bool)) (j : Nat) : Prop := ∀ x k : Int, k.natAbs < 2 ^ 60 → c j [.va (.int x), .va (.int k)] = va (.int (mixV x k))
theorem mixed_ok (x k : Int) (hk : k.natAbs < 2 ^ 60) : bo G c T b_law_mixed [.va (.int x), .va (.int k)] 1 = va (.int (mixV x k)) := by
  have m1 : mulOk 7919 k = true := mulOk_small_l (by decide)
  have m2 : mulOk (x + 7919 * k) 48271 = true := mulOk_small_r (by decide)
  have m3 : mulOk 2 k = true := mulOk_small_l (by decide)
  have h1 : 0 ≤ ((x + 7919 * k) * 48271).fmod 2147483647 ∧ ((x + 7919 * k) * 48271).fmod 2147483647 < 2147483647 := by
    rw [Int.fmod_eq_emod_of_nonneg _ (by decide)]
    exact ⟨Int.emod_nonneg _ (by decide), Int.emod_lt_of_pos _ (by decide)⟩
  unfold mixV
  unfold bo b_law_mixed
  generalize hg : ((x + 7919 * k) * 48271).fmod 2147483647 = g at *
  have m4 : ∀ z, mulOk g z = true := fun z => mulOk_small_l (by omega)
  simp [val, m1, m2, m3, hg, m4]
end
end AW

/-! AwLaw3: k01's drawn parts and its law. -/
namespace AW
open PySem PySem.Spec PyProof.Rows
theorem Bd.div {o u : Int} {b : Nat} (hu : u ≠ 0) (h1 : o.natAbs ≤ 2 ^ b) (h2 : u.natAbs ≤ 2 ^ b) : Bd b (Rat.divInt o u) := by
  obtain ⟨k1, k2⟩ := divInt_le (a := o) hu
  exact ⟨Nat.le_trans k1 h1, Nat.le_trans k2 h2⟩
section
variable {G : Nat → D} {c : Nat → List Sl → R (D × Bool)} {T : List Fn} {nm : Nm}
def SpPart (c : Nat → List Sl → R (D × Bool)) (j : Nat) : Prop := ∃ f : Int → Rat, ∀ x : Int, 0 ≤ x → x < 2147483629 → Bd 93 (f x) ∧ c j [.va (.int x)] = va (fr (f x))
end
end AW

/-! AwLaw4: k01: drawn rows, what is told of them, the law. -/
namespace AW
open PySem PySem.Spec PyProof.Rows
/-- a drawn row -/
structure Dr (n : Nat) (p : List Rat) : Prop where
  tr : trim p = p
  bd : BdL 93 p
  len : p.length ≤ n
theorem small_nat (s : Nat) (h : s ≤ 1000000) : small (s : Int) = true := by
  have e : (2 : Nat) ^ 20 = 1048576 := by decide
  have := log2_of_le (n := (s : Int).natAbs) (b := 20) (by omega)
  exact Nat.ble_eq_true_of_le (by omega)
theorem rngR_nat (s : Nat) (h : s ≤ 1000000) : rngR 0 (s : Int) = .ok ((List.range s).map fun (k : Nat) => .int (k : Int)) := by
  have h0 : ((s : Int) - 0).toNat = s := by omega
  unfold rngR
  rw [show small 0 = true from small_nat 0 (by omega), small_nat s h, h0]
  simp [rngD]
section
variable {G : Nat → D} {c : Nat → List Sl → R (D × Bool)} {T : List Fn} {nm : Nm}
end
end AW

/-! AwLw1: the laws' own products, divisions, common parts. -/
namespace AW
open PySem PySem.Spec PyProof.Rows
theorem Z.take {n h : Nat} {s : PS} (z : Z n h s) (k : Nat) : Z n h (ser ((toL s).take k)) := by
  have e : ∀ i, (ser ((toL s).take k)).f i = if i < k then s.f i else 0 := fun i => by
    rw [ser_f]
    by_cases hi : i < k
    · rw [if_pos hi, ← toL_getD z.pl]
      simp [hi]
    · rw [if_neg hi]
      have : ((toL s).take k)[i]? = none := by rw [List.getElem?_eq_none]; rw [List.length_take]; omega
      simp [this]
  refine ⟨fun i hi => ?_, ?_⟩
  · rw [e, z.lt i hi]; split <;> rfl
  · obtain ⟨K, k1, k2, k3⟩ := z.hb
    refine ⟨K, k1, k2, fun i => ?_⟩
    rw [e]
    split
    · exact k3 i
    · exact Nb.zero _ _
theorem atD_mem {xs : List D} {i : Int} (h0 : 0 ≤ i) (h1 : i < xs.length) : ∃ d ∈ xs, atD xs i = v1 d := by
  have hl : i.toNat < xs.length := by omega
  refine ⟨xs[i.toNat], List.getElem_mem hl, ?_⟩
  have := atD_nat (xs := xs) (n := i.toNat) (List.getElem?_eq_getElem hl)
  rwa [Int.toNat_of_nonneg h0] at this
section
variable {G : Nat → D} {c : Nat → List Sl → R (D × Bool)} {T : List Fn} {nm : Nm}
end
end AW

/-! AwK12: the law of common parts. -/
namespace AW
open PySem PySem.Spec PyProof.Rows
section
variable {G : Nat → D} {c : Nat → List Sl → R (D × Bool)} {T : List Fn} {nm : Nm}
theorem mn_snoc1 (p : List Rat) : Mn (ser (p ++ [1])) p.length := ⟨by have := lt_ser (p ++ [1]); simpa using this, by rw [ser_f]; simp⟩
end
end AW

/-! AwK12b: two drawn polynomials; the law of common parts. -/
namespace AW
open PySem PySem.Spec PyProof.Rows
theorem Z.C {f : Rat} {b : Nat} (h : Bd b f) : Z 1 b (PS.C f) := ⟨Lt.C f, Hb.C h⟩
section
variable {G : Nat → D} {c : Nat → List Sl → R (D × Bool)} {T : List Fn} {nm : Nm}
end
end AW

/-! AwK11: the law of simple parts. -/
namespace AW
open PySem PySem.Spec PyProof.Rows
theorem Shp.po (s : PS) : Shp 2 (po s) := Shp.pol _
theorem Shp.pd (z : PS × Nat) : Shp 3 (pd z) := Shp.tup fun d hd => by
  rcases List.mem_cons.mp hd with rfl | hd
  · exact Shp.po _
  · rcases List.mem_cons.mp hd with rfl | hd
    · exact (Shp.int _).mono (by decide)
    · cases hd
theorem ne_same {n : Nat} {d : D} (h : Shp n d) (l : n ≤ 64) : sem2 .ne d d = v1 (.bool false) := by
  rw [s2_ne, if_pos ⟨h.ok l, h.ok l⟩, eqv_self d h.1]
  rfl
theorem eq_same {n : Nat} {d : D} (h : Shp n d) (l : n ≤ 64) : sem2 .eq d d = v1 (.bool true) := by
  rw [s2_eq, if_pos ⟨h.ok l, h.ok l⟩, eqv_self d h.1]
open Classical in
section
variable {G : Nat → D} {c : Nat → List Sl → R (D × Bool)} {T : List Fn} {nm : Nm}
/-- a small factor -/
def Fs (a : PS) : Prop := ∃ m, Mn a m ∧ 1 ≤ m ∧ m ≤ 2 ∧ Hb 12 a
theorem Fs.z {a : PS} (h : Fs a) : Z 3 12 a := by obtain ⟨m, h1, h2, h3, h4⟩ := h; exact ⟨h1.1.mono (by omega), h4⟩
end
end AW

/-! AwK11b: the law of simple parts: what is looked at; the law. -/
namespace AW
open PySem PySem.Spec PyProof.Rows
theorem Good.take {L : List (PS × Nat)} (g : Good L) (i : Nat) : Good (L.take i) := by
  induction L generalizing i with
  | nil => rw [List.take_nil]; exact trivial
  | cons y L ih =>
    cases i with
    | zero => exact trivial
    | succ i =>
      obtain ⟨h1, h2, h3, h4, h5⟩ := g
      exact ⟨h1, h2, h3, fun z hz => h4 z (List.mem_of_mem_take hz), ih h5 i⟩
section
variable {G : Nat → D} {c : Nat → List Sl → R (D × Bool)} {T : List Fn} {nm : Nm}
end
end AW

/-! AwB3: bodies. -/
namespace AW
open PySem
/-- is_fraction: p0 is_whole, p1 common_number -/
def b_is_fraction [Nm] (p0 p1 : Nat) : Ss :=
  (.cons (.ite (.or (.not (.isi (.var 0) [.bi "tuple"])) (.or (.op2 .ne (.op1 .len (.var 0)) (.con (.int 2))) (.not (.op1 .all (.cmp (.call p0 (.cons (.var 1) .nil) 0) (.nm 1) (.seq (.var 0)) .none [(Nm.n 1, 1)]))))) (.cons (.ret (.con (.bool false))) .nil) (.nil))
    (.cons (.ret (.and (.op2 .gt (.op2 .idx (.var 0) (.con (.int 1))) (.con (.int 0))) (.op2 .eq (.call p1 (.cons (.op1 .abs (.op2 .idx (.var 0) (.con (.int 0)))) (.cons (.op2 .idx (.var 0) (.con (.int 1))) .nil)) 0) (.con (.int 1))))) .nil))
/-- is_poly: p0 is_fraction, p1 NOUGHT -/
def b_is_poly [Nm] (p0 p1 : Nat) : Ss :=
  (.cons (.ite (.or (.not (.isi (.var 0) [.bi "tuple"])) (.not (.op1 .all (.cmp (.call p0 (.cons (.var 1) .nil) 0) (.nm 1) (.seq (.var 0)) .none [(Nm.n 1, 1)])))) (.cons (.ret (.con (.bool false))) .nil) (.nil))
    (.cons (.ret (.or (.op2 .eq (.var 0) (.tup .nil)) (.op2 .ne (.op2 .idx (.var 0) (.op1 .neg (.con (.int 1)))) (.glb p1)))) .nil))
/-- quotient: p0 is_poly, p1 NoQuotient, p2 common, p3 turned, p4 scaled, p5 poly_parted, p6 monic -/
def b_quotient (p0 p1 p2 p3 p4 p5 p6 : Nat) : Ss :=
  (.cons (.ite (.or (.not (.call p0 (.cons (.var 0) .nil) 0)) (.or (.not (.call p0 (.cons (.var 1) .nil) 0)) (.op2 .eq (.var 1) (.tup .nil)))) (.cons (.rai p1) .nil) (.nil))
    (.cons (.asg (.nm 2) (.call p2 (.cons (.var 0) (.cons (.var 1) .nil)) 0))
    (.cons (.asg (.nm 3) (.call p3 (.cons (.op2 .idx (.var 1) (.op1 .neg (.con (.int 1)))) .nil) 0))
    (.cons (.ret (.tup (.cons (.call p4 (.cons (.op2 .idx (.call p5 (.cons (.var 0) (.cons (.var 2) .nil)) 0) (.con (.int 0))) (.cons (.var 3) .nil)) 0) (.cons (.call p6 (.cons (.op2 .idx (.call p5 (.cons (.var 1) (.cons (.var 2) .nil)) 0) (.con (.int 0))) .nil) 0) .nil)))) .nil))))
/-- q_sum: p0 poly_product, p1 quotient, p2 poly_sum -/
def b_q_sum (p0 p1 p2 : Nat) : Ss :=
  (.cons (.asg (.nm 2) (.call p0 (.cons (.op2 .idx (.var 0) (.con (.int 0))) (.cons (.op2 .idx (.var 1) (.con (.int 1))) .nil)) 0))
    (.cons (.asg (.nm 3) (.call p0 (.cons (.op2 .idx (.var 1) (.con (.int 0))) (.cons (.op2 .idx (.var 0) (.con (.int 1))) .nil)) 0))
    (.cons (.ret (.call p1 (.cons (.call p2 (.cons (.var 2) (.cons (.var 3) .nil)) 0) (.cons (.call p0 (.cons (.op2 .idx (.var 0) (.con (.int 1))) (.cons (.op2 .idx (.var 1) (.con (.int 1))) .nil)) 0) .nil)) 0)) .nil)))
/-- power_of: p0 ONE, p1 poly_product -/
def b_power_of (p0 p1 : Nat) : Ss :=
  (.cons (.asg (.nm 2) (.glb p0))
    (.cons (.for_ (.nm 3) (.rng1 (.var 1)) (.cons (.asg (.nm 2) (.call p1 (.cons (.var 2) (.cons (.var 0) .nil)) 0)) .nil))
    (.cons (.ret (.var 2)) .nil)))
end AW

/-! AwQu: quotients in lowest terms. -/
namespace AW
open PySem PySem.Spec PyProof.Rows
/-! ### plain -/
noncomputable def qc (a b : PS) : PS × PS := (PS.C (lc b)⁻¹ * quo a (gcd a b), mon (quo b (gcd a b)))
noncomputable def qd (q : PS × PS) : D := .tuple [po q.1, po q.2]
/-- q is a over b in lowest terms -/
def IsQ (q : PS × PS) (a b : PS) : Prop := Cop q.1 q.2 ∧ Pl q.1 ∧ (∃ n, Mn q.2 n) ∧ q.1 * b = a * q.2
theorem qc_is {a b : PS} (pa : Pl a) (pb : Pl b) (b0 : b ≠ 0) : IsQ (qc a b) a b := by
  have ig := gcd_is pa pb
  obtain ⟨d, hd⟩ := gcd_mn pa pb (.inr b0)
  obtain ⟨e1, _, p1⟩ := quo_dv hd.dg.pl hd.dg.ne ig.dvl
  obtain ⟨e2, _, p2⟩ := quo_dv hd.dg.pl hd.dg.ne ig.dvr
  unfold qc
  generalize hA : quo a (gcd a b) = A at *
  generalize hB : quo b (gcd a b) = B at *
  have B0 : B ≠ 0 := fun z => b0 (by rw [e2, z]; grind)
  obtain ⟨n, dB⟩ := p2.dg B0
  have hm := mon_mn dB
  have lb : lc b = lc B := by rw [e2, lc_mul p2 hd.dg.pl, hd.lc]; grind
  have lB := lc_ne p2 B0
  have cAB : Cop A B := by
    obtain ⟨u, v, pu, pv, e⟩ := ig.comb
    refine ⟨u, v, pu, pv, ?_⟩
    refine Pl.cancel ((pu.mul p1).add (pv.mul p2)) Pl.one hd.dg.pl hd.dg.ne ?_
    rw [show (u * A + v * B) * gcd a b = u * (A * gcd a b) + v * (B * gcd a b) by grind, ← e1, ← e2, ← e]
    grind
  refine ⟨?_, (Pl.C _).mul p1, ⟨n, hm⟩, ?_⟩
  · have c1 : Cop B (PS.C (lc b)⁻¹ * A) := cAB.symm.smul (by rw [lb]; grind)
    have c2 : Cop (PS.C (lc b)⁻¹ * A) (PS.C (lc B)⁻¹ * B) := c1.symm.smul (by grind)
    exact c2
  · show PS.C (lc b)⁻¹ * A * b = a * (PS.C (lc B)⁻¹ * B)
    rw [lb]
    conv => lhs; rw [e2]
    conv => rhs; lhs; rw [e1]
    grind
theorem IsQ.uniq {q q' : PS × PS} {a b c d : PS} (h : IsQ q a b) (h' : IsQ q' c d) (pa : Pl a) (pb : Pl b) (pc : Pl c) (pd : Pl d) (b0 : b ≠ 0) (d0 : d ≠ 0) (e : a * d = c * b) : q = q' := by
  obtain ⟨t, m⟩ := q
  obtain ⟨t', m'⟩ := q'
  obtain ⟨h1, h2, ⟨n, h3⟩, h4⟩ := h
  obtain ⟨k1, k2, ⟨n', k3⟩, k4⟩ := h'
  simp only at *
  have pm := h3.dg.pl
  have pm' := k3.dg.pl
  have cross : t * m' = t' * m := by
    refine Pl.cancel (h2.mul pm') (k2.mul pm) (pb.mul pd) (Pl.mul_ne pb pd b0 d0) ?_
    have : t * m' * (b * d) = a * m * (m' * d) := by rw [← h4]; grind
    rw [this]
    have : t' * m * (b * d) = c * m' * (m * b) := by rw [← k4]; grind
    rw [this]
    have : a * m * (m' * d) = m * m' * (a * d) := by grind
    rw [this, e]
    grind
  have d1 : Dv m m' := h1.symm.dv_mul pm' ⟨t', k2, by rw [cross]⟩
  have d2 : Dv m' m := k1.symm.dv_mul pm ⟨t, h2, by rw [← cross]⟩
  have em := h3.eq k3 d1 d2
  subst em
  have et := Pl.cancel h2 k2 pm h3.dg.ne cross
  rw [et]
theorem qc_eq {a b c d : PS} (pa : Pl a) (pb : Pl b) (pc : Pl c) (pd : Pl d) (b0 : b ≠ 0) (d0 : d ≠ 0) (e : a * d = c * b) : qc a b = qc c d :=
  (qc_is pa pb b0).uniq (qc_is pc pd d0) pa pb pc pd b0 d0 e
theorem qc_of {q : PS × PS} {a b : PS} (h : IsQ q a b) (pa : Pl a) (pb : Pl b) (b0 : b ≠ 0) : qc a b = q :=
  (qc_is pa pb b0).uniq h pa pb pa pb b0 b0 rfl
theorem qc_one {a : PS} (pa : Pl a) : qc a 1 = (a, 1) := qc_of ⟨Cop.one a, pa, ⟨0, Mn.one⟩, by show a * 1 = a * 1; rfl⟩ pa Pl.one Mn.one.dg.ne
theorem Shp.qd (q : PS × PS) : Shp 3 (qd q) := Shp.tup fun d hd => by
  rcases List.mem_cons.mp hd with rfl | hd
  · exact Shp.po _
  · rcases List.mem_cons.mp hd with rfl | hd
    · exact Shp.po _
    · cases hd
@[simp] theorem idx_qd0 (q : PS × PS) : sem2 .idx (qd q) (.int 0) = v1 (po q.1) := by unfold qd; rw [s2_idxt, atD_0]
@[simp] theorem idx_qd1 (q : PS × PS) : sem2 .idx (qd q) (.int 1) = v1 (po q.2) := by unfold qd; rw [s2_idxt, atD_1]
@[simp] theorem ne_qd (q : PS × PS) : sem2 .ne (qd q) (qd q) = v1 (.bool false) := ne_same (Shp.qd q) (by decide)
@[simp] theorem eq_qd (q : PS × PS) : sem2 .eq (qd q) (qd q) = v1 (.bool true) := eq_same (Shp.qd q) (by decide)
/-- the bits of a quotient in lowest terms, by top and bottom -/
theorem qc_z {a b : PS} {m n ha h l : Nat} (za : Z m ha a) (zb : Z n h b) (b0 : b ≠ 0) (hl : n + 2 ≤ 2 ^ l ∧ m ≤ 2 ^ l) :
    Z n (db n h l) (qc a b).2 ∧ Z m (ha + db n h l + l + (m + n) * (h + 1)) (qc a b).1 := by
  obtain ⟨h1, h2, ⟨k, h3⟩, h4⟩ := qc_is za.pl zb.pl b0
  generalize qc a b = q at *
  obtain ⟨t, u⟩ := q
  simp only at *
  have pu := h3.dg.pl
  -- the bottom divides b
  have d1 : Dv u b := h1.symm.dv_mul zb.pl ⟨a, za.pl, h4⟩
  obtain ⟨nb, dgb⟩ := zb.pl.dg b0
  have ku := d1.dg h3.dg dgb
  have nn := dgb.lt zb.lt
  have zu : Z n (db n h l) u := ⟨h3.1.mono (by omega), dv_hb h3 zb b0 d1 (by omega)⟩
  refine ⟨zu, ?_⟩
  -- the top divides a
  have zau := za.mul zu (l := l) (by omega)
  have q := (Z.div zau ⟨dgb.1, zb.hb⟩ dgb).1
  have e : quo (a * u) b = t := by rw [← h4]; exact (quo_mul zb.pl b0 h2).1
  rw [e] at q
  have hb : Hb (ha + db n h l + l + (m + n) * (h + 1)) t := q.hb.mono (by
    have := Nat.mul_le_mul_right (h + 1) (show m + n - 1 ≤ m + n by omega)
    omega)
  refine ⟨?_, hb⟩
  by_cases t0 : t = 0
  · rw [t0]; exact Lt.zero _
  · have a0 : a ≠ 0 := fun z => by
      rw [z, show (0 : PS) * u = 0 by grind] at h4
      exact Pl.mul_ne h2 zb.pl t0 b0 h4
    obtain ⟨ma, dga⟩ := za.pl.dg a0
    obtain ⟨kt, dgt⟩ := h2.dg t0
    have e1 := dgt.mul dgb
    rw [h4] at e1
    have := e1.uniq (dga.mul h3.dg)
    have := dga.lt za.lt
    exact dgt.1.mono (by omega)
section
variable {G : Nat → D} {c : Nat → List Sl → R (D × Bool)} {T : List Fn} {nm : Nm}
/-! ### what is known -/
def SpIsFr (c : Nat → List Sl → R (D × Bool)) (j : Nat) : Prop := ∀ q : Rat, c j [.va (fr q)] = va (.bool true)
theorem is_fraction_ok {jw jg : Nat} (hw : SpWhole c jw) (hg : SpGcd c jg) (q : Rat) : bo G c T (b_is_fraction jw jg) [.va (fr q)] 1 = va (.bool true) := by
  have c2 : (2 : Nat) ≤ line := by unfold line; omega
  have e1 := hg q.num.natAbs q.den
  have e2 : Nat.gcd q.num.natAbs q.den = 1 := q.reduced
  rw [e2] at e1
  have hd := q.den_nz
  have hp : (0 : Int) < (q.den : Int) := by omega
  unfold bo b_is_fraction
  simp only [ess_cons, es_ite, evT_eq]
  have hc : evF G c (dflT T) (.cmp (.call jw (.cons (.var 1) .nil) 0) (.nm 1) (.seq (.var 0)) .none [(Nm.n 1, 1)]) ([.va (fr q)] ++ List.replicate 1 .un) = .ok (.list [.bool true, .bool true], true) := by
    have := cmp_of (G := G) (c := c) (dfl := dflT T) (elt := (.call jw (.cons (.var 1) .nil) 0)) (tg := .nm 1) (it := .seq (.var 0)) (ifs := .none) (own := [(Nm.n 1, 1)]) (en := [.va (fr q)] ++ List.replicate 1 .un) (xs := [q.num, (q.den : Int)]) (e := .int) (h := fun _ => .bool true) (by simp [val]; rfl) (by simp; omega) (fun x _ => by simp [val, wipe, hw x])
    rw [this]
    rfl
  have ht : isTy (fr q) (.bi "tuple") = true := rfl
  have hl : sem1 .len (fr q) = v1 (.int 2) := rfl
  have e1' : c jg [.va (.int (q.num.natAbs : Int)), .va (.int (q.den : Int))] = va (.int 1) := e1
  simp only [List.cons_append, List.nil_append, List.replicate_succ, List.replicate_zero] at hc ⊢
  have hp2 : 0 < q.den := by omega
  simp [val, ht, hl, hc, allB, e1', hp2]
def SpIsPo (c : Nat → List Sl → R (D × Bool)) (j : Nat) : Prop := ∀ (a : PS) (n : Nat), Lt a n → n ≤ 100000 → c j [.va (po a)] = va (.bool true)
theorem is_poly_ok {jf kN : Nat} (hG : G kN = fr 0) (hf : SpIsFr c jf) {a : PS} {n : Nat} (h : Lt a n) (hn : n ≤ 100000) : bo G c T (b_is_poly jf kN) [.va (po a)] 1 = va (.bool true) := by
  have c0 : (0 : Nat) ≤ line := Nat.zero_le _
  have pa : Pl a := ⟨n, h⟩
  have ll := toL_le h
  have hc : evF G c (dflT T) (.cmp (.call jf (.cons (.var 1) .nil) 0) (.nm 1) (.seq (.var 0)) .none [(Nm.n 1, 1)]) ([.va (po a)] ++ List.replicate 1 .un) = .ok (.list ((toL a).map fun _ => .bool true), true) :=
    cmp_of (xs := toL a) (e := fr) (h := fun _ => .bool true) (by simp [val]) (by unfold line; omega) (fun x _ => by simp [val, wipe, hf x])
  have hall : ∀ L : List Rat, allB (L.map fun _ => PyData.bool true) = .ok true := fun L => by
    induction L with
    | nil => rfl
    | cons x L ih => show (allB (L.map fun _ => PyData.bool true)).bind _ = _; rw [ih]; rfl
  have ht : isTy (po a) (.bi "tuple") = true := rfl
  have e0 := eq_po0 pa
  unfold bo b_is_poly
  simp only [List.cons_append, List.nil_append, List.replicate_succ, List.replicate_zero] at hc
  by_cases a0 : a = 0
  · subst a0
    simp [val, ht, hc, hall, e0, c0]
  · obtain ⟨k, dk⟩ := pa.dg a0
    have e1 := idx_last dk
    have h0 := dk.2
    simp [val, ht, hc, hall, e0, c0, a0, e1, hG, h0]
/-! ### the program's quotient -/
def QuotOk (m n h l : Nat) : Prop := ComOk m n h l ∧ m ≤ 20000 ∧ n ≤ 20000 ∧ h + (m + n + 2) * (cb m n h l + 1) ≤ 39000000
def SpQuot (c : Nat → List Sl → R (D × Bool)) (j : Nat) : Prop := ∀ (a b : PS) (m n h l : Nat), Z m h a → Z n h b → b ≠ 0 → QuotOk m n h l → c j [.va (po a), .va (po b)] = va (qd (qc a b))
theorem quotient_ok {ji e jc jt js jp jm : Nat} (hi : SpIsPo c ji) (hc : SpCom c jc) (ht : SpTurn c jt) (hs : SpScaled c js) (hp : SpDiv c jp) (hm : SpMon c jm) {a b : PS} {m n h l : Nat} (za : Z m h a) (zb : Z n h b) (b0 : b ≠ 0) (ok : QuotOk m n h l) :
    bo G c T (b_quotient ji e jc jt js jp jm) [.va (po a), .va (po b)] 2 = va (qd (qc a b)) := by
  obtain ⟨okc, m0, n0, ok3⟩ := ok
  have c0 : (0 : Nat) ≤ line := Nat.zero_le _
  have c2 : (2 : Nat) ≤ line := by unfold line; omega
  obtain ⟨nb, dgb⟩ := zb.pl.dg b0
  have e1 := hi a m za.lt (by omega)
  have e2 := hi b n zb.lt (by omega)
  have e3 : sem2 .eq (po b) (.tuple []) = v1 (.bool false) := by rw [eq_po0 zb.pl]; simp [b0]
  have e4 := hc a b m n h l za zb okc
  have e5 := idx_last dgb
  have e6 := ht _ dgb.2
  have ig := gcd_is za.pl zb.pl
  obtain ⟨d, hd⟩ := gcd_mn za.pl zb.pl (.inr b0)
  have dl : d + 1 ≤ n := by have := ig.dvr.dg hd.dg dgb; have := dgb.lt zb.lt; omega
  have zg : Z n (cb m n h l) (gcd a b) := ⟨hd.1.mono dl, Z.gcd za zb okc.1⟩
  rw [show m + n + 2 = (m + 2) + n by omega, Nat.add_mul] at ok3
  have k1 : (n + 2) * (cb m n h l + 1) ≤ (m + 2) * (cb m n h l + 1) + n * (cb m n h l + 1) := by
    rw [← Nat.add_mul]; exact Nat.mul_le_mul_right _ (by omega)
  have e7 := hp a (gcd a b) m n h _ za zg hd.dg.ne ⟨by omega, by omega, by omega⟩
  have e8 := hp b (gcd a b) n n h _ zb zg hd.dg.ne ⟨by omega, by omega, by omega⟩
  have zqa := (Z.div za ⟨hd.1, zg.hb⟩ hd.dg).1
  have zqb := (Z.div zb ⟨hd.1, zg.hb⟩ hd.dg).1
  have k2 : m * (cb m n h l + 1) ≤ (m + 2) * (cb m n h l + 1) := Nat.mul_le_mul_right _ (by omega)
  have k3 : n * (cb m n h l + 1) ≤ (n + 2) * (cb m n h l + 1) := Nat.mul_le_mul_right _ (by omega)
  have hinv : Bd h (b.f nb)⁻¹ := by
    have bb := zb.bd nb
    have nz : (b.f nb).num ≠ 0 := by rw [Ne, Rat.num_eq_zero]; exact dgb.2
    rw [← inv_divInt dgb.2]
    have := divInt_le (a := ((b.f nb).den : Int)) (b := (b.f nb).num) nz
    exact ⟨Nat.le_trans this.1 (by simpa using bb.2), Nat.le_trans this.2 bb.1⟩
  have e9 := hs.z (zqa.mono (n := m) (k := h + m * (cb m n h l + 1)) (by omega) (Nat.le_refl _)) (hinv.mono (by omega)) ⟨by omega, by omega⟩
  have e10 := hm (quo b (gcd a b)) n (h + n * (cb m n h l + 1)) (zqb.mono (by omega) (Nat.le_refl _)) ⟨by omega, by omega⟩
  unfold bo b_quotient
  simp [val, e1, e2, e3, e4, e5, e6, e7, e8, e9, e10, c0, c2]
  unfold qd qc
  rw [lc_eq dgb]
end
end AW

/-! AwLb: the later laws' own reckoning with polynomials. -/
namespace AW
open PySem PySem.Spec PyProof.Rows
section
variable {G : Nat → D} {c : Nat → List Sl → R (D × Bool)} {T : List Fn} {nm : Nm}
end
end AW

/-! AwLb2: the later laws' division, common parts, quotients. -/
namespace AW
open PySem PySem.Spec PyProof.Rows
theorem DivSt.skip {a b : PS} {n g : Nat} {ka kb L : Int} {h k p : Nat} {R S : PS} (st : DivSt a b n g ka kb L h k (p + 1) R S) (hp : p < g) (hb : Dg b n) (wb : ∀ j, Nb kb (2 ^ k) (b.f j)) (eL : (kb : Rat) * b.f n = L) (bL : L.natAbs ≤ 2 ^ k) (bk : kb.natAbs ≤ 2 ^ k) (z : R.f (p + n) = 0) :
    DivSt a b n g ka kb L h k p R S := by
  have := st.step hp hb wb eL bL bk
  rw [z, show (0 : Rat) * (b.f n)⁻¹ = 0 by grind, PS.C_zero, show R - 0 * (PS.X ^ p * b) = R by grind, show S + 0 * PS.X ^ p = S by grind] at this
  exact this
section
variable {G : Nat → D} {c : Nat → List Sl → R (D × Bool)} {T : List Fn} {nm : Nm}
end
end AW

/-! AwLb3: the later laws' monic ones, quotients, drawn polynomials, and their walk over the script. -/
namespace AW
open PySem PySem.Spec PyProof.Rows
section
variable {G : Nat → D} {c : Nat → List Sl → R (D × Bool)} {T : List Fn} {nm : Nm}
/-! ### drawn -/
/-! ### the walk over the script -/
end
end AW

/-! AwK32: quotients put together; the law of gathered ones. -/
namespace AW
open PySem PySem.Spec PyProof.Rows
/-- a simple fraction: its part, times, top -/
structure Row where
  p : PS
  t : Nat
  o : PS
noncomputable def rd (r : Row) : D := .tuple [po r.p, .int (r.t : Nat), po r.o]
theorem Shp.rd (r : Row) : Shp 3 (rd r) := Shp.tup fun d hd => by
  rcases List.mem_cons.mp hd with rfl | hd
  · exact Shp.po _
  · rcases List.mem_cons.mp hd with rfl | hd
    · exact (Shp.int _).mono (by decide)
    · rcases List.mem_cons.mp hd with rfl | hd
      · exact Shp.po _
      · cases hd
/-- a small row -/
def Rw (r : Row) : Prop := (∃ m, Mn r.p m ∧ m ≤ 2 ∧ Hb 6 r.p) ∧ 1 ≤ r.t ∧ r.t ≤ 2 ∧ Z 3 18 r.o
theorem Rw.pow {r : Row} (h : Rw r) : ∃ m, Mn (r.p ^ r.t) m ∧ m ≤ 4 ∧ Z 5 14 (r.p ^ r.t) := by
  obtain ⟨⟨m, h1, h2, h3⟩, h4, h5, _⟩ := h
  have z : Z 3 6 r.p := ⟨h1.1.mono (by omega), h3⟩
  have : r.t = 1 ∨ r.t = 2 := by omega
  rcases this with e | e
  · rw [e, show (r.p ^ 1 : PS) = r.p by grind]
    exact ⟨m, h1, by omega, z.mono (by decide) (by decide)⟩
  · rw [e, show (r.p ^ 2 : PS) = r.p * r.p by grind]
    exact ⟨m + m, h1.mul h1, by omega, (z.mul z (l := 2) (by decide)).mono (by decide) (by decide)⟩
section
variable {G : Nat → D} {c : Nat → List Sl → R (D × Bool)} {T : List Fn} {nm : Nm}
def SpPow (c : Nat → List Sl → R (D × Bool)) (j : Nat) : Prop := ∀ (a : PS) (n h t : Nat), Z (n + 1) h a → t ≤ 1000 ∧ n * t + 1 ≤ 2 ^ 12 ∧ t * (h + 12) ≤ 30000000 → c j [.va (po a), .va (.int (t : Nat))] = va (po (a ^ t))
theorem Z.pow {a : PS} {n h : Nat} (z : Z (n + 1) h a) : ∀ t, n * t + 1 ≤ 2 ^ 12 → Z (n * t + 1) (t * (h + 12)) (a ^ t)
  | 0, _ => by rw [show (a ^ 0 : PS) = 1 by grind]; exact Z.one _ _ (by omega)
  | t + 1, ht => by
    rw [Nat.mul_add] at ht
    have ih := Z.pow z t (by omega)
    rw [show (a ^ (t + 1) : PS) = a ^ t * a by grind]
    refine (ih.mul z (l := 12) (by omega)).mono ?_ ?_
    · rw [Nat.mul_add]; omega
    · rw [Nat.add_mul]; omega
theorem power_of_ok {kO jp : Nat} (hG : G kO = po 1) (hp : SpProdZ c jp) {a : PS} {n h t : Nat} (z : Z (n + 1) h a) (hz : t ≤ 1000 ∧ n * t + 1 ≤ 2 ^ 12 ∧ t * (h + 12) ≤ 30000000) : bo G c T (b_power_of kO jp) [.va (po a), .va (.int (t : Nat))] 2 = va (po (a ^ t)) := by
  obtain ⟨h1, h2, h3⟩ := hz
  have hr := rngR_nat t (by omega)
  unfold bo b_power_of
  simp [val, es_for, hG, hr]
  refine forR_then (P := fun r => outF (r.bind _) = _) (I := fun i en => ∃ z3, en = [.va (po a), .va (.int (t : Nat)), .va (po (a ^ i)), z3]) ?_ ⟨.un, by rw [show (a ^ 0 : PS) = 1 by grind]⟩ ?_
  · rintro i en d hi ⟨z3, rfl⟩
    rw [List.getElem?_map] at hi
    cases hx : (List.range t)[i]? with
    | none => rw [hx] at hi; cases hi
    | some k =>
      rw [hx] at hi
      cases Option.some.inj hi
      have hil := (List.getElem?_eq_some_iff.mp hx).1
      rw [List.length_range] at hil
      have m1 : n * i ≤ n * t := Nat.mul_le_mul_left _ (by omega)
      have m2 : (i + 1) * (h + 12) ≤ t * (h + 12) := Nat.mul_le_mul_right _ (by omega)
      rw [Nat.add_mul] at m2
      have zi := z.pow i (by omega)
      have e1 := hp (a ^ i) a (n * i + 1) (n + 1) (i * (h + 12)) h 12 zi z ⟨by omega, by omega, by omega, by
        rcases Nat.eq_zero_or_pos t with q | q
        · omega
        · have : n * 1 ≤ n * t := Nat.mul_le_mul_left _ q
          omega⟩
      rw [show a ^ i * a = a ^ (i + 1) by grind] at e1
      exact ⟨[.va (po a), .va (.int (t : Nat)), .va (po (a ^ (i + 1))), .va (.int (k : Int))], .inl (by simp [val, e1]), _, rfl⟩
  · rintro en ⟨z3, rfl⟩
    rw [List.length_map, List.length_range]
    simp [val]
/-- the sum of quotients that are told in lowest terms -/
def SpQSum (c : Nat → List Sl → R (D × Bool)) (j : Nat) : Prop := ∀ (p q : PS × PS) (m1 n1 h1 k1 m2 n2 h2 k2 l M N : Nat), Z m1 h1 p.1 → Z n1 k1 p.2 → Z m2 h2 q.1 → Z n2 k2 q.2 → p.2 ≠ 0 → q.2 ≠ 0 → m1 ≤ 2 ^ l ∧ n1 ≤ 2 ^ l ∧ m2 ≤ 2 ^ l ∧ n2 ≤ 2 ^ l ∧ m1 + n2 ≤ M + 1 ∧ m2 + n1 ≤ M + 1 ∧ n1 + n2 ≤ N + 1 ∧ m1 ≤ 10000 ∧ n1 ≤ 10000 ∧ m2 ≤ 10000 ∧ n2 ≤ 10000 ∧ QuotOk M N (h1 + h2 + k1 + k2 + 2 * l + 1) l → c j [.va (qd p), .va (qd q)] = va (qd (qc (p.1 * q.2 + q.1 * p.2) (p.2 * q.2)))
theorem q_sum_ok {jp jq js : Nat} (hp : SpProdZ c jp) (hq : SpQuot c jq) (hs : SpSum c js) {p q : PS × PS} {m1 n1 h1 k1 m2 n2 h2 k2 l M N : Nat} (a1 : Z m1 h1 p.1) (a2 : Z n1 k1 p.2) (b1 : Z m2 h2 q.1) (b2 : Z n2 k2 q.2) (p0 : p.2 ≠ 0) (q0 : q.2 ≠ 0)
    (ok : m1 ≤ 2 ^ l ∧ n1 ≤ 2 ^ l ∧ m2 ≤ 2 ^ l ∧ n2 ≤ 2 ^ l ∧ m1 + n2 ≤ M + 1 ∧ m2 + n1 ≤ M + 1 ∧ n1 + n2 ≤ N + 1 ∧ m1 ≤ 10000 ∧ n1 ≤ 10000 ∧ m2 ≤ 10000 ∧ n2 ≤ 10000 ∧ QuotOk M N (h1 + h2 + k1 + k2 + 2 * l + 1) l) : bo G c T (b_q_sum jp jq js) [.va (qd p), .va (qd q)] 2 = va (qd (qc (p.1 * q.2 + q.1 * p.2) (p.2 * q.2))) := by
  obtain ⟨l1, l2, l3, l4, w1, w2, w3, w4, w5, w6, w7, okq⟩ := ok
  have okq' := okq
  obtain ⟨oc, x1, x2, x3⟩ := okq'
  have e1 := hp p.1 q.2 _ _ _ _ l a1 b2 ⟨l1, by omega, by omega, by omega⟩
  have e2 := hp q.1 p.2 _ _ _ _ l b1 a2 ⟨l3, by omega, by omega, by omega⟩
  have e3 := hp p.2 q.2 _ _ _ _ l a2 b2 ⟨l2, by omega, by omega, by omega⟩
  have z1 := (a1.mul b2 l1).mono (n := M) (k := h1 + k2 + l) (by omega) (by omega)
  have z2 := (b1.mul a2 l3).mono (n := M) (k := h2 + k1 + l) (by omega) (by omega)
  have z3 := (a2.mul b2 l2).mono (n := N) (k := h1 + h2 + k1 + k2 + 2 * l + 1) (by omega) (by omega)
  have e4 := hs.z (z1.mono (k := h1 + h2 + k1 + k2 + 2 * l + 1) (Nat.le_refl _) (by omega)) (z2.mono (Nat.le_refl _) (by omega)) ⟨by omega, by omega⟩
  have z4 := (z1.add z2).mono (n := M) (k := h1 + h2 + k1 + k2 + 2 * l + 1) (by omega) (by omega)
  have e5 := hq _ _ _ _ _ l z4 z3 (Pl.mul_ne a2.pl b2.pl p0 q0) okq
  unfold bo b_q_sum
  simp [val, e1, e2, e3, e4, e5]
end
end AW

/-! AwTs: polynomials moved to a place; parting by x less a place. -/
namespace AW
open PySem PySem.Spec PyProof.Rows PS
/-- the row put in at x + a -/
def tsl (a : Rat) : List Rat → PS
  | [] => 0
  | c :: r => tsl a r * (PS.X + PS.C a) + PS.C c
theorem dg_more (a : Rat) : Dg (PS.X + PS.C a) 1 := ⟨fun k hk => by
    rw [PS.add_f]
    show (if k = 1 then (1 : Rat) else 0) + (if k = 0 then a else 0) = 0
    rw [if_neg (by omega), if_neg (by omega)]
    decide +kernel, by
    rw [PS.add_f]
    show (if 1 = 1 then (1 : Rat) else 0) + (if 1 = 0 then a else 0) ≠ 0
    rw [if_pos rfl, if_neg (by omega)]
    decide +kernel⟩
theorem Z.more {a : Rat} {d : Nat} (h : Bd d a) : Z 2 (d + 1) (PS.X + PS.C a) :=
  ⟨(dg_more a).1, by
    have z := (Hb.X_mul (Hb.one 0)).add (Hb.C h)
    rw [show (PS.X * 1 : PS) = PS.X by grind] at z
    exact z.mono (by omega)⟩
end AW

/-! AwB4: bodies. -/
namespace AW
open PySem
/-- _law_cell_at: p0 _law_mixed -/
def b_law_cell_at_2 (p0 : Nat) : Ss :=
  (.cons (.ite (.op2 .lt (.var 1) (.op1 .len (.var 0))) (.cons (.ret (.call p0 (.cons (.op2 .idx (.var 0) (.var 1)) (.cons (.var 1) .nil)) 0)) .nil) (.nil))
    (.cons (.ret (.call p0 (.cons (.var 1) (.cons (.con (.int 3)) .nil)) 0)) .nil))
/-- _law_lowest:  -/
def b_law_lowest : Ss :=
  (.cons (.asg (.nm 2) (.op1 .abs (.var 0)))
    (.cons (.asg (.nm 3) (.op1 .abs (.var 1)))
    (.cons (.whl (.op2 .gt (.var 3) (.con (.int 0))) (.cons (.par [2, 3] (.cons (.var 3) (.cons (.op2 .mod (.var 2) (.var 3)) .nil))) .nil))
    (.cons (.ite (.op2 .lt (.var 1) (.con (.int 0))) (.cons (.asg (.nm 2) (.op1 .neg (.var 2))) .nil) (.nil))
    (.cons (.ret (.tup (.cons (.op2 .fdiv (.var 0) (.var 2)) (.cons (.op2 .fdiv (.var 1) (.var 2)) .nil)))) .nil)))))
/-- _law_fraction: p0 _law_lowest -/
def b_law_fraction (p0 : Nat) : Ss :=
  (.cons (.ret (.call p0 (.cons (.op2 .sub (.op2 .mod (.var 0) (.con (.int 19))) (.con (.int 9))) (.cons (.op2 .idx (.lst (.cons (.con (.int 1)) (.cons (.con (.int 1)) (.cons (.con (.int 2)) (.cons (.con (.int 3)) .nil))))) (.op2 .mod (.op2 .fdiv (.var 0) (.con (.int 19))) (.con (.int 4)))) .nil)) 0)) .nil)
/-- _law_product: p0 _law_sum, p1 _law_times -/
def b_law_product (p0 p1 : Nat) : Ss :=
  (.cons (.asgO 2 (.rep (.cons (.tup (.cons (.con (.int 0)) (.cons (.con (.int 1)) .nil))) .nil) (.op2 .max2 (.con (.int 0)) (.op2 .sub (.op2 .add (.op1 .len (.var 0)) (.op1 .len (.var 1))) (.con (.int 1))))))
    (.cons (.for_ (.tp (.cons (.nm 3) (.cons (.nm 4) .nil))) (.enum (.var 0)) (.cons (.for_ (.tp (.cons (.nm 5) (.cons (.nm 6) .nil))) (.enum (.var 1)) (.cons (.setI 2 (.op2 .add (.var 3) (.var 5)) (.call p0 (.cons (.op2 .idx (.peek 2) (.op2 .add (.var 3) (.var 5))) (.cons (.call p1 (.cons (.var 4) (.cons (.var 6) .nil)) 0) .nil)) 0)) .nil)) .nil))
    (.cons (.retO 2) .nil)))
/-- _law_plain:  -/
def b_law_plain : Ss :=
  (.cons (.asgO 1 (.op1 .list (.var 0)))
    (.cons (.whl (.and (.op2 .ne (.peek 1) (.lst .nil)) (.op2 .eq (.op2 .idx (.peek 1) (.op1 .neg (.con (.int 1)))) (.tup (.cons (.con (.int 0)) (.cons (.con (.int 1)) .nil))))) (.cons (.pop 1) .nil))
    (.cons (.frz 1)
    (.cons (.ret (.op1 .tuple (.var 1))) .nil))))
end AW

/-! AwK42: orders at a place. -/
namespace AW
open PySem PySem.Spec PyProof.Rows
section
variable {G : Nat → D} {c : Nat → List Sl → R (D × Bool)} {T : List Fn} {nm : Nm}
end
end AW

/-! AwK42b: about a place, the order; the law's count of a root. -/
namespace AW
open PySem PySem.Spec PyProof.Rows
section
variable {G : Nat → D} {c : Nat → List Sl → R (D × Bool)} {T : List Fn} {nm : Nm}
structure SpAbout (c : Nat → List Sl → R (D × Bool)) (j : Nat) : Prop where
  at_ : ∀ (q : PS × PS) (a : Rat) (n h k k1 k2 : Nat) (t1 t2 : PS), Z n h q.1 → Z n h q.2 → Z 2 k (PS.X + PS.C a) → n ≤ 60 ∧ h ≤ 300000 ∧ k ≤ 1000 → tsl a (toL q.1) = PS.X ^ k1 * t1 → t1.f 0 ≠ 0 → tsl a (toL q.2) = PS.X ^ k2 * t2 → t2.f 0 ≠ 0 →
    ∃ d0 d1, c j [.va (qd q), .va (fr a)] = va (.tuple [d0, d1, .int ((k1 : Int) - (k2 : Int))])
  far : ∀ q : PS × PS, ∃ d0 d1, c j [.va (qd q), .va .none] = va (.tuple [d0, d1, .int (((toL q.2).length : Int) - ((toL q.1).length : Int))])
structure SpOrder (c : Nat → List Sl → R (D × Bool)) (j : Nat) : Prop where
  at_ : ∀ (q : PS × PS) (a : Rat) (n h k k1 k2 : Nat) (t1 t2 : PS), Z n h q.1 → Z n h q.2 → Z 2 k (PS.X + PS.C a) → n ≤ 60 ∧ h ≤ 300000 ∧ k ≤ 1000 → q.1 ≠ 0 → tsl a (toL q.1) = PS.X ^ k1 * t1 → t1.f 0 ≠ 0 → tsl a (toL q.2) = PS.X ^ k2 * t2 → t2.f 0 ≠ 0 →
    c j [.va (qd q), .va (fr a)] = va (.int ((k1 : Int) - (k2 : Int)))
  far : ∀ q : PS × PS, Pl q.1 → q.1 ≠ 0 → c j [.va (qd q), .va .none] = va (.int (((toL q.2).length : Int) - ((toL q.1).length : Int)))
  nought : ∀ (q : PS × PS) (d : D), q.1 = 0 → c j [.va (qd q), .va d] = va .none
/-! ### the law's count -/
end
end AW

/-! AwK42c: the law's own helpers of the rows' laws. -/
namespace AW
open PySem PySem.Spec PyProof.Rows
section
variable {G : Nat → D} {c : Nat → List Sl → R (D × Bool)} {T : List Fn} {nm : Nm}
theorem lowest_ok {a b : Int} (hb : b ≠ 0) : bo G c T b_law_lowest [.va (.int a), .va (.int b)] 2 = va (fr (Rat.divInt a b)) := by
  have h0 : Nat.gcd a.natAbs b.natAbs ≠ 0 := by
    have := Nat.gcd_pos_of_pos_right a.natAbs (show 0 < b.natAbs by omega)
    omega
  rw [fr_made hb]
  unfold bo b_law_lowest
  simp [val, es_whl]
  refine whileR_then (P := fun r => outF (r.bind _) = _) (I := fun en => ∃ m n : Nat, en = [.va (.int a), .va (.int b), .va (.int m), .va (.int n)] ∧ Nat.gcd m n = Nat.gcd a.natAbs b.natAbs) (m := fun en => match en with
    | [_, _, _, .va (.int n)] => n.toNat
    | _ => 0) ?_ ⟨_, _, rfl, rfl⟩
  rintro en ⟨m, n, rfl, hg⟩
  by_cases hn : n = 0
  · subst hn
    left
    rw [Nat.gcd_zero_right] at hg
    subst hg
    refine ⟨by simp [val], ?_⟩
    by_cases h : b < 0
    · simp [val, h, hb, h0, line]
    · simp [val, h, hb, h0, line]
  · right
    have hm : (m : Int).fmod (n : Int) = ((m % n : Nat) : Int) := by rw [Int.fmod_eq_emod_of_nonneg _ (by omega)]; rfl
    refine ⟨by simp [val]; omega, [.va (.int a), .va (.int b), .va (.int n), .va (.int (m % n : Nat))], by simp [val, hn, hm], ⟨n, m % n, rfl, ?_⟩, ?_⟩
    · rw [← hg, Nat.gcd_comm n, Nat.gcd_comm m n]
      exact (Nat.gcd_rec n m).symm
    · simp
      have := Nat.mod_lt m (show 0 < n by omega)
      omega
theorem plain_ok (p : List Rat) : bo G c T b_law_plain [.va (.list (p.map fr))] 1 = va (pol (trim p)) := by
  have c0 : (0 : Nat) ≤ line := Nat.zero_le _
  have c2 : (2 : Nat) ≤ line := by unfold line; omega
  unfold bo b_law_plain
  simp [val, es_whl]
  refine whileR_then (P := fun r => outF (r.bind _) = _) (I := fun en => ∃ p' : List Rat, en = [.va (.list (p.map fr)), .ow (p'.map fr)] ∧ trim p' = trim p) (m := fun en => match en with
    | [_, .ow ds] => ds.length
    | _ => 0) ?_ ⟨p, rfl, rfl⟩
  rintro en ⟨p', rfl, hp⟩
  rcases List.eq_nil_or_concat p' with rfl | ⟨r, a, rfl⟩
  · left
    have e := ne_row []
    refine ⟨by simp [c0] at e ⊢; rw [e]; simp, ?_⟩
    simp [val]
    rw [← hp]
    rfl
  · have hne : (r ++ [a]).isEmpty = false := by cases r <;> rfl
    have e := ne_row (r ++ [a])
    rw [hne, List.map_append] at e
    have e' : sem2 .ne (.list (r.map fr ++ [fr a])) (.list []) = v1 (.bool true) := e
    have e2 : atD (r.map fr ++ [fr a]) (-1) = v1 (fr a) := atD_last
    rw [List.concat_eq_append] at hp
    rw [trim_snoc] at hp
    by_cases h0 : a = 0
    · right
      rw [if_pos h0] at hp
      subst h0
      refine ⟨by simp [val, c0, c2, e', e2, z01], [.va (.list (p.map fr)), .ow (r.map fr)], by simp, ⟨r, rfl, hp⟩, by simp⟩
    · left
      rw [if_neg h0] at hp
      refine ⟨by simp [val, c0, c2, e', e2, z01, h0], ?_⟩
      simp [val]
      rw [← hp]
      simp [pol]
theorem lprod_ok {jp jb : Nat} (hp : SpPlus c jp) (hb : SpBy c jb) {p q : List Rat} {h0 k0 l0 : Nat} (za : Hb h0 (ser p)) (zb : Hb k0 (ser q)) (hz : p.length ≤ 2 ^ l0 ∧ h0 + k0 + l0 ≤ 40000000 ∧ p.length ≤ 40000 ∧ q.length ≤ 40000) :
    ∃ F : List Rat, F.length = p.length + q.length - 1 ∧ ser F = ser p * ser q ∧ bo G c T (b_law_product jp jb) [.va (.list (p.map fr)), .va (.list (q.map fr))] 5 = .ok (.list (F.map fr), true) := by
  obtain ⟨hl, hs, hm0, hn0⟩ := hz
  have bda := fun i => za.bd i
  have bdb := fun i => zb.bd i
  obtain ⟨ka, ka1, ka2, ka3⟩ := za
  obtain ⟨kb, kb1, kb2, kb3⟩ := zb
  have geta : ∀ {i : Nat} {x : Rat}, p[i]? = some x → (ser p).f i = x := fun {i x} h => by rw [ser_f]; simp [List.getD, h]
  have getb : ∀ {i : Nat} {x : Rat}, q[i]? = some x → (ser q).f i = x := fun {i x} h => by rw [ser_f]; simp [List.getD, h]
  obtain ⟨P, hP⟩ : ∃ P : R (D × Bool) → Prop, P = (fun r => ∃ F : List Rat, F.length = p.length + q.length - 1 ∧ ser F = ser p * ser q ∧ r = .ok (.list (F.map fr), true)) := ⟨_, rfl⟩
  have key0 : P (bo G c T (b_law_product jp jb) [.va (.list (p.map fr)), .va (.list (q.map fr))] 5) := by
    obtain ⟨n, hn, hm⟩ : ∃ n : Nat, max 0 ((p.length : Int) + (q.length : Int) - 1) = (n : Int) ∧ n = p.length + q.length - 1 := ⟨p.length + q.length - 1, by omega, rfl⟩
    have c1 : (-1000000 : Int) ≤ (n : Int) := by omega
    have c2 : (n : Int) ≤ 1000000 := by omega
    have c3 : n ≤ line := by unfold line; omega
    have c4 : (1 : Nat) ≤ line := by unfold line; omega
    have c5 : (2 : Nat) ≤ line := by unfold line; omega
    have lp : sem1 .len (.list (p.map fr)) = v1 (.int p.length) := by simp
    have lq : sem1 .len (.list (q.map fr)) = v1 (.int q.length) := by simp
    have sp : seqR (.list (p.map fr)) = .ok (p.map fr) := rfl
    have sq : seqR (.list (q.map fr)) = .ok (q.map fr) := rfl
    have hpow : (2 : Nat) ^ (h0 + k0) = 2 ^ h0 * 2 ^ k0 := Nat.pow_add _ _ _
    have small : ∀ {i : Nat} {x : Rat}, i ≤ p.length → Nb (ka * kb) (i * 2 ^ (h0 + k0)) x → Ok x := fun {i x} hi h => by
      refine Ok.of (h.bd (b := h0 + k0 + l0) (Int.mul_ne_zero ka1 kb1) ?_ ?_) hs
      · exact Nat.le_trans (natAbs_mul_le ka2 kb2) (Nat.pow_le_pow_right (by decide) (by omega))
      · rw [Nat.pow_add _ _ l0, Nat.mul_comm]
        exact Nat.mul_le_mul (Nat.le_refl _) (by omega)
    unfold bo b_law_product
    simp [val, z01, es_for, lp, lq, hn, c1, c2, c3, c4, c5, sp, sq]
    have e0 : List.replicate n (fr 0) = (List.replicate n (0 : Rat)).map fr := by simp
    rw [e0, enumD_map]
    refine forR_then (P := fun r => P (outF (r.bind _))) (I := fun i en => ∃ F z3 z4 z5 z6, en = [.va (.list (p.map fr)), .va (.list (q.map fr)), .ow (F.map fr), z3, z4, z5, z6] ∧ F.length = n ∧ ser F = ser (p.take i) * ser q ∧ ∀ x ∈ F, Nb (ka * kb) (i * 2 ^ (h0 + k0)) x) ?_ ⟨List.replicate n 0, _, _, _, _, rfl, by simp, ?_, ?_⟩ ?_
    · rintro i en d hi ⟨F0, z3, z4, z5, z6, rfl, k1, k2, k3⟩
      rw [List.getElem?_map, enumN_get] at hi
      cases hx : p[i]? with
      | none => rw [hx] at hi; cases hi
      | some x =>
        rw [hx] at hi
        cases Option.some.inj hi
        have hil := (List.getElem?_eq_some_iff.mp hx).1
        have ex : x = (ser p).f i := (geta hx).symm
        have bx : Bd h0 x := by rw [ex]; exact bda i
        have nx : Nb ka (2 ^ h0) x := by rw [ex]; exact ka3 i
        simp [val, es_for, sq]
        rw [enumD_map]
        generalize hR : forR _ _ _ _ = r
        have key : ∃ en', r = .ok (.nx en') ∧ ∃ F z5 z6, en' = [.va (.list (p.map fr)), .va (.list (q.map fr)), .ow (F.map fr), .va (.int (i : Nat)), .va (fr x), z5, z6] ∧ F.length = n ∧ ser F = ser F0 + PS.X ^ i * (PS.C x * ser q) ∧ ∀ x ∈ F, Nb (ka * kb) ((i + 1) * 2 ^ (h0 + k0)) x := by
         rw [← hR]
         refine forR_ex (I := fun k en => ∃ F z5 z6, en = [.va (.list (p.map fr)), .va (.list (q.map fr)), .ow (F.map fr), .va (.int (i : Nat)), .va (fr x), z5, z6] ∧ F.length = n ∧
          ser F = ser F0 + PS.X ^ i * (PS.C x * ser (q.take k)) ∧ (∀ x ∈ F, Nb (ka * kb) ((i + 1) * 2 ^ (h0 + k0)) x) ∧ ∀ m, i + k ≤ m → F.getD m 0 = F0.getD m 0) ⟨F0, _, _, rfl, k1, ?_, fun x hx => (k3 x hx).mono (Nat.mul_le_mul_right _ (by omega)), fun m _ => rfl⟩ ?_ ?_
         · rw [List.take_zero]
           show ser F0 = ser F0 + PS.X ^ i * (PS.C x * 0)
           grind
         · rintro k en d hk ⟨F, y5, y6, rfl, f1, f2, f3, f4⟩
           rw [List.getElem?_map, enumN_get] at hk
           cases hy : q[k]? with
           | none => rw [hy] at hk; cases hk
           | some y =>
             rw [hy] at hk
             cases Option.some.inj hk
             have hkl := (List.getElem?_eq_some_iff.mp hy).1
             have ey : y = (ser q).f k := (getb hy).symm
             have by_ : Bd k0 y := by rw [ey]; exact bdb k
             have ny : Nb kb (2 ^ k0) y := by rw [ey]; exact kb3 k
             have hlt : i + k < F.length := by omega
             have eF : (F.map fr)[i + k]? = some (fr (F.getD (i + k) 0)) := by simp [hlt]
             have b0 : Nb (ka * kb) (i * 2 ^ (h0 + k0)) (F.getD (i + k) 0) := by
               rw [f4 (i + k) (by omega)]
               have : (F0.getD (i + k) 0) ∈ F0 := by
                 have hlt' : i + k < F0.length := by omega
                 simp [hlt']
               exact k3 _ this
             have b1 : Nb (ka * kb) (2 ^ (h0 + k0)) (x * y) := by rw [hpow]; exact nx.mul ny
             have e1 := hb x y (Ok.of bx (by omega)) (Ok.of by_ (by omega))
             have e2 := hp (F.getD (i + k) 0) (x * y) (small (by omega) b0) (small (i := 1) (by omega) (by rw [Nat.one_mul]; exact b1))
             have e3 : ((i : Int) + (k : Int)) = ((i + k : Nat) : Int) := by omega
             have e4 := atD_nat eF
             have e5 : setD (F.map fr) ((i + k : Nat) : Int) (fr (F.getD (i + k) 0 + x * y)) = .ok ((F.set (i + k) (F.getD (i + k) 0 + x * y)).map fr) := by
               rw [setD_nat (by rw [List.length_map]; exact hlt), List.map_set]
             generalize hv : F.getD (i + k) 0 = v at *
             refine ⟨[.va (.list (p.map fr)), .va (.list (q.map fr)), .ow ((F.set (i + k) (v + x * y)).map fr), .va (.int (i : Nat)), .va (fr x), .va (.int (k : Nat)), .va (fr y)], .inl ?_, F.set (i + k) (v + x * y), _, _, rfl, by rw [List.length_set]; exact f1, ?_, ?_, ?_⟩
             · simp only [Nat.zero_add, bindT_tpt, bindTs_cons, bindT_nm, bindTs_nil, R.bind_ok, List.set_cons_succ, List.set_cons_zero]
               simp [val, e3, e4, e1, e2, e5, -Int.natCast_add]
             · rw [ser_set F (i + k) _ hlt, f2, ser_take_succ hy, hv, show v + x * y - v = x * y by grind, PS.C_mulC]
               grind
             · intro w hw
               rcases List.mem_or_eq_of_mem_set hw with hw | rfl
               · exact f3 w hw
               · exact (b0.add b1).mono (by rw [Nat.add_mul]; omega)
             · intro m hm'
               rw [← f4 m (by omega)]
               have hne : i + k ≠ m := by omega
               simp [List.getElem?_set_ne hne]
         · rintro en ⟨F, y5, y6, rfl, f1, f2, f3, f4⟩
           refine ⟨F, _, _, rfl, f1, ?_, f3⟩
           rw [f2, List.length_map, enumN_len, List.take_length]
        obtain ⟨en', rfl, F, y5, y6, rfl, f1, f2, f3⟩ := key
        refine ⟨_, .inl rfl, F, ⟨_, _, _, _, rfl⟩, f1, ?_, f3⟩
        rw [f2, k2, ser_take_succ hx]
        grind
    · rw [ser_zeros, List.take_zero]
      show (0 : PS) = 0 * ser q
      grind
    · intro x hx
      rw [(List.mem_replicate.mp hx).2]
      exact Nb.zero _ _
    · rintro en ⟨F, z3, z4, z5, z6, rfl, k1, k2, k3⟩
      rw [List.length_map, enumN_len, List.take_length] at k2
      rw [hP]
      exact ⟨F, by omega, k2, by simp [val]⟩
  rw [hP] at key0
  exact key0
end
end AW

/-! AwK42d: the drawn quotient of the rows' laws. -/
namespace AW
open PySem PySem.Spec PyProof.Rows
section
variable {G : Nat → D} {c : Nat → List Sl → R (D × Bool)} {T : List Fn} {nm : Nm}
theorem fdm {x : Int} (h : 0 ≤ x) (a b : Int) (ha : 0 < a) (hb : 0 < b) : (x.fdiv a).fmod b = x / a % b := by rw [Int.fdiv_eq_ediv_of_nonneg _ (by omega), Int.fmod_eq_emod_of_nonneg _ (by omega)]
theorem fdv {x : Int} (a : Int) (ha : 0 < a) : x.fdiv a = x / a := Int.fdiv_eq_ediv_of_nonneg _ (by omega)
theorem fmd {x : Int} (a : Int) (ha : 0 < a) : x.fmod a = x % a := Int.fmod_eq_emod_of_nonneg _ (by omega)
/-- the law's cell -/
def SpCellN (c : Nat → List Sl → R (D × Bool)) (j : Nat) : Prop := ∀ (ns : List Int) (k : Nat), k ≤ 1000 → ∃ x : Int, 0 ≤ x ∧ c j [.va (.list (ns.map .int)), .va (.int (k : Nat))] = va (.int x)
theorem cell_at2_ok {jm : Nat} (hm : SpMix c jm) (ns : List Int) (k : Nat) (hk : k ≤ 1000) : ∃ x : Int, 0 ≤ x ∧ bo G c T (b_law_cell_at_2 jm) [.va (.list (ns.map .int)), .va (.int (k : Nat))] 0 = va (.int x) := by
  have p60 : (2 : Nat) ^ 60 = 1152921504606846976 := by decide
  by_cases h : k < ns.length
  · refine ⟨mixV ns[k] (k : Int), (mixV_nn _ _).1, ?_⟩
    have e : atD (ns.map PyData.int) (k : Int) = v1 (.int ns[k]) := atD_nat (by simp [h])
    have h' : (k : Int) < (ns.length : Int) := by omega
    have em := hm ns[k] (k : Int) (by omega)
    unfold bo b_law_cell_at_2
    simp [val, h, e, em]
  · refine ⟨mixV (k : Int) 3, (mixV_nn _ _).1, ?_⟩
    have em := hm (k : Int) 3 (by decide)
    unfold bo b_law_cell_at_2
    simp [val, h, em]
/-- the law's small fraction -/
def SpLFr (c : Nat → List Sl → R (D × Bool)) (j : Nat) : Prop := ∀ x : Int, 0 ≤ x → ∃ q : Rat, Bd 4 q ∧ c j [.va (.int x)] = va (fr q)
theorem lfr_ok {jl : Nat} (hl : SpFrac c jl) {x : Int} (hx : 0 ≤ x) : ∃ q : Rat, Bd 4 q ∧ bo G c T (b_law_fraction jl) [.va (.int x)] 0 = va (fr q) := by
  have c4 : (4 : Nat) ≤ line := by unfold line; omega
  obtain ⟨d, hd, ed⟩ := atD_mem (xs := [PyData.int 1, .int 1, .int 2, .int 3]) (i := x / 19 % 4) (by omega) (by show x / 19 % 4 < 4; omega)
  obtain ⟨m, rfl, m1, m2⟩ : ∃ m : Int, d = .int m ∧ 1 ≤ m ∧ m ≤ 3 := by
    simp only [List.mem_cons, List.not_mem_nil, or_false] at hd
    rcases hd with rfl | rfl | rfl | rfl <;> exact ⟨_, rfl, by decide, by decide⟩
  have u1 := fdm hx 19 4 (by decide) (by decide)
  have u2 := fmd (x := x) 19 (by decide)
  have e1 := hl (x % 19 - 9) m (by omega)
  refine ⟨Rat.divInt (x % 19 - 9) m, ?_, ?_⟩
  · obtain ⟨h1, h2⟩ := divInt_le (a := x % 19 - 9) (b := m) (by omega)
    have p4 : (2 : Nat) ^ 4 = 16 := by decide
    exact ⟨by omega, by omega⟩
  · unfold bo b_law_fraction
    simp [val, c4, u1, u2, ed, e1]
end
end AW

/-! AwK42e: the drawn quotient; the law of orders. -/
namespace AW
open PySem PySem.Spec PyProof.Rows
section
variable {G : Nat → D} {c : Nat → List Sl → R (D × Bool)} {T : List Fn} {nm : Nm}
def SpLProd (c : Nat → List Sl → R (D × Bool)) (j : Nat) : Prop := ∀ (p q : List Rat) (h0 k0 l0 : Nat), Hb h0 (ser p) → Hb k0 (ser q) → p.length ≤ 2 ^ l0 ∧ h0 + k0 + l0 ≤ 40000000 ∧ p.length ≤ 40000 ∧ q.length ≤ 40000 →
    ∃ F : List Rat, F.length = p.length + q.length - 1 ∧ ser F = ser p * ser q ∧ c j [.va (.list (p.map fr)), .va (.list (q.map fr))] = .ok (.list (F.map fr), true)
def SpPlain (c : Nat → List Sl → R (D × Bool)) (j : Nat) : Prop := ∀ p : List Rat, c j [.va (.list (p.map fr))] = va (pol (trim p))
end
end AW

/-! AwB5: bodies. -/
namespace AW
open PySem
end AW

/-! AwK62: eight pieces, unlike ones without a common part; sums of numbers over them. -/
namespace AW
open PySem PySem.Spec PyProof.Rows
def pcs : List (List Rat) := [[(0 : Rat), (1 : Rat)], [(-1 : Rat), (1 : Rat)], [(1 : Rat), (1 : Rat)], [(⟨-1, 2, by decide, by decide⟩ : Rat), (1 : Rat)], [(3 : Rat), (1 : Rat)], [(1 : Rat), (0 : Rat), (1 : Rat)], [(-2 : Rat), (0 : Rat), (1 : Rat)], [(1 : Rat), (1 : Rat), (1 : Rat)]]
def bzs : List (List Rat × List Rat × List Rat × List Rat) := [([(0 : Rat), (1 : Rat)], [(-1 : Rat), (1 : Rat)], [(1 : Rat)], [(-1 : Rat)]),
  ([(0 : Rat), (1 : Rat)], [(1 : Rat), (1 : Rat)], [(-1 : Rat)], [(1 : Rat)]),
  ([(0 : Rat), (1 : Rat)], [(⟨-1, 2, by decide, by decide⟩ : Rat), (1 : Rat)], [(2 : Rat)], [(-2 : Rat)]),
  ([(0 : Rat), (1 : Rat)], [(3 : Rat), (1 : Rat)], [(⟨-1, 3, by decide, by decide⟩ : Rat)], [(⟨1, 3, by decide, by decide⟩ : Rat)]),
  ([(0 : Rat), (1 : Rat)], [(1 : Rat), (0 : Rat), (1 : Rat)], [(0 : Rat), (-1 : Rat)], [(1 : Rat)]),
  ([(0 : Rat), (1 : Rat)], [(-2 : Rat), (0 : Rat), (1 : Rat)], [(0 : Rat), (⟨1, 2, by decide, by decide⟩ : Rat)], [(⟨-1, 2, by decide, by decide⟩ : Rat)]),
  ([(0 : Rat), (1 : Rat)], [(1 : Rat), (1 : Rat), (1 : Rat)], [(-1 : Rat), (-1 : Rat)], [(1 : Rat)]),
  ([(-1 : Rat), (1 : Rat)], [(0 : Rat), (1 : Rat)], [(-1 : Rat)], [(1 : Rat)]),
  ([(-1 : Rat), (1 : Rat)], [(1 : Rat), (1 : Rat)], [(⟨-1, 2, by decide, by decide⟩ : Rat)], [(⟨1, 2, by decide, by decide⟩ : Rat)]),
  ([(-1 : Rat), (1 : Rat)], [(⟨-1, 2, by decide, by decide⟩ : Rat), (1 : Rat)], [(-2 : Rat)], [(2 : Rat)]),
  ([(-1 : Rat), (1 : Rat)], [(3 : Rat), (1 : Rat)], [(⟨-1, 4, by decide, by decide⟩ : Rat)], [(⟨1, 4, by decide, by decide⟩ : Rat)]),
  ([(-1 : Rat), (1 : Rat)], [(1 : Rat), (0 : Rat), (1 : Rat)], [(⟨-1, 2, by decide, by decide⟩ : Rat), (⟨-1, 2, by decide, by decide⟩ : Rat)], [(⟨1, 2, by decide, by decide⟩ : Rat)]),
  ([(-1 : Rat), (1 : Rat)], [(-2 : Rat), (0 : Rat), (1 : Rat)], [(1 : Rat), (1 : Rat)], [(-1 : Rat)]),
  ([(-1 : Rat), (1 : Rat)], [(1 : Rat), (1 : Rat), (1 : Rat)], [(⟨-2, 3, by decide, by decide⟩ : Rat), (⟨-1, 3, by decide, by decide⟩ : Rat)], [(⟨1, 3, by decide, by decide⟩ : Rat)]),
  ([(1 : Rat), (1 : Rat)], [(0 : Rat), (1 : Rat)], [(1 : Rat)], [(-1 : Rat)]),
  ([(1 : Rat), (1 : Rat)], [(-1 : Rat), (1 : Rat)], [(⟨1, 2, by decide, by decide⟩ : Rat)], [(⟨-1, 2, by decide, by decide⟩ : Rat)]),
  ([(1 : Rat), (1 : Rat)], [(⟨-1, 2, by decide, by decide⟩ : Rat), (1 : Rat)], [(⟨2, 3, by decide, by decide⟩ : Rat)], [(⟨-2, 3, by decide, by decide⟩ : Rat)]),
  ([(1 : Rat), (1 : Rat)], [(3 : Rat), (1 : Rat)], [(⟨-1, 2, by decide, by decide⟩ : Rat)], [(⟨1, 2, by decide, by decide⟩ : Rat)]),
  ([(1 : Rat), (1 : Rat)], [(1 : Rat), (0 : Rat), (1 : Rat)], [(⟨1, 2, by decide, by decide⟩ : Rat), (⟨-1, 2, by decide, by decide⟩ : Rat)], [(⟨1, 2, by decide, by decide⟩ : Rat)]),
  ([(1 : Rat), (1 : Rat)], [(-2 : Rat), (0 : Rat), (1 : Rat)], [(-1 : Rat), (1 : Rat)], [(-1 : Rat)]),
  ([(1 : Rat), (1 : Rat)], [(1 : Rat), (1 : Rat), (1 : Rat)], [(0 : Rat), (-1 : Rat)], [(1 : Rat)]),
  ([(⟨-1, 2, by decide, by decide⟩ : Rat), (1 : Rat)], [(0 : Rat), (1 : Rat)], [(-2 : Rat)], [(2 : Rat)]),
  ([(⟨-1, 2, by decide, by decide⟩ : Rat), (1 : Rat)], [(-1 : Rat), (1 : Rat)], [(2 : Rat)], [(-2 : Rat)]),
  ([(⟨-1, 2, by decide, by decide⟩ : Rat), (1 : Rat)], [(1 : Rat), (1 : Rat)], [(⟨-2, 3, by decide, by decide⟩ : Rat)], [(⟨2, 3, by decide, by decide⟩ : Rat)]),
  ([(⟨-1, 2, by decide, by decide⟩ : Rat), (1 : Rat)], [(3 : Rat), (1 : Rat)], [(⟨-2, 7, by decide, by decide⟩ : Rat)], [(⟨2, 7, by decide, by decide⟩ : Rat)]),
  ([(⟨-1, 2, by decide, by decide⟩ : Rat), (1 : Rat)], [(1 : Rat), (0 : Rat), (1 : Rat)], [(⟨-2, 5, by decide, by decide⟩ : Rat), (⟨-4, 5, by decide, by decide⟩ : Rat)], [(⟨4, 5, by decide, by decide⟩ : Rat)]),
  ([(⟨-1, 2, by decide, by decide⟩ : Rat), (1 : Rat)], [(-2 : Rat), (0 : Rat), (1 : Rat)], [(⟨2, 7, by decide, by decide⟩ : Rat), (⟨4, 7, by decide, by decide⟩ : Rat)], [(⟨-4, 7, by decide, by decide⟩ : Rat)]),
  ([(⟨-1, 2, by decide, by decide⟩ : Rat), (1 : Rat)], [(1 : Rat), (1 : Rat), (1 : Rat)], [(⟨-6, 7, by decide, by decide⟩ : Rat), (⟨-4, 7, by decide, by decide⟩ : Rat)], [(⟨4, 7, by decide, by decide⟩ : Rat)]),
  ([(3 : Rat), (1 : Rat)], [(0 : Rat), (1 : Rat)], [(⟨1, 3, by decide, by decide⟩ : Rat)], [(⟨-1, 3, by decide, by decide⟩ : Rat)]),
  ([(3 : Rat), (1 : Rat)], [(-1 : Rat), (1 : Rat)], [(⟨1, 4, by decide, by decide⟩ : Rat)], [(⟨-1, 4, by decide, by decide⟩ : Rat)]),
  ([(3 : Rat), (1 : Rat)], [(1 : Rat), (1 : Rat)], [(⟨1, 2, by decide, by decide⟩ : Rat)], [(⟨-1, 2, by decide, by decide⟩ : Rat)]),
  ([(3 : Rat), (1 : Rat)], [(⟨-1, 2, by decide, by decide⟩ : Rat), (1 : Rat)], [(⟨2, 7, by decide, by decide⟩ : Rat)], [(⟨-2, 7, by decide, by decide⟩ : Rat)]),
  ([(3 : Rat), (1 : Rat)], [(1 : Rat), (0 : Rat), (1 : Rat)], [(⟨3, 10, by decide, by decide⟩ : Rat), (⟨-1, 10, by decide, by decide⟩ : Rat)], [(⟨1, 10, by decide, by decide⟩ : Rat)]),
  ([(3 : Rat), (1 : Rat)], [(-2 : Rat), (0 : Rat), (1 : Rat)], [(⟨3, 7, by decide, by decide⟩ : Rat), (⟨-1, 7, by decide, by decide⟩ : Rat)], [(⟨1, 7, by decide, by decide⟩ : Rat)]),
  ([(3 : Rat), (1 : Rat)], [(1 : Rat), (1 : Rat), (1 : Rat)], [(⟨2, 7, by decide, by decide⟩ : Rat), (⟨-1, 7, by decide, by decide⟩ : Rat)], [(⟨1, 7, by decide, by decide⟩ : Rat)]),
  ([(1 : Rat), (0 : Rat), (1 : Rat)], [(0 : Rat), (1 : Rat)], [(1 : Rat)], [(0 : Rat), (-1 : Rat)]),
  ([(1 : Rat), (0 : Rat), (1 : Rat)], [(-1 : Rat), (1 : Rat)], [(⟨1, 2, by decide, by decide⟩ : Rat)], [(⟨-1, 2, by decide, by decide⟩ : Rat), (⟨-1, 2, by decide, by decide⟩ : Rat)]),
  ([(1 : Rat), (0 : Rat), (1 : Rat)], [(1 : Rat), (1 : Rat)], [(⟨1, 2, by decide, by decide⟩ : Rat)], [(⟨1, 2, by decide, by decide⟩ : Rat), (⟨-1, 2, by decide, by decide⟩ : Rat)]),
  ([(1 : Rat), (0 : Rat), (1 : Rat)], [(⟨-1, 2, by decide, by decide⟩ : Rat), (1 : Rat)], [(⟨4, 5, by decide, by decide⟩ : Rat)], [(⟨-2, 5, by decide, by decide⟩ : Rat), (⟨-4, 5, by decide, by decide⟩ : Rat)]),
  ([(1 : Rat), (0 : Rat), (1 : Rat)], [(3 : Rat), (1 : Rat)], [(⟨1, 10, by decide, by decide⟩ : Rat)], [(⟨3, 10, by decide, by decide⟩ : Rat), (⟨-1, 10, by decide, by decide⟩ : Rat)]),
  ([(1 : Rat), (0 : Rat), (1 : Rat)], [(-2 : Rat), (0 : Rat), (1 : Rat)], [(⟨1, 3, by decide, by decide⟩ : Rat)], [(⟨-1, 3, by decide, by decide⟩ : Rat)]),
  ([(1 : Rat), (0 : Rat), (1 : Rat)], [(1 : Rat), (1 : Rat), (1 : Rat)], [(1 : Rat), (1 : Rat)], [(0 : Rat), (-1 : Rat)]),
  ([(-2 : Rat), (0 : Rat), (1 : Rat)], [(0 : Rat), (1 : Rat)], [(⟨-1, 2, by decide, by decide⟩ : Rat)], [(0 : Rat), (⟨1, 2, by decide, by decide⟩ : Rat)]),
  ([(-2 : Rat), (0 : Rat), (1 : Rat)], [(-1 : Rat), (1 : Rat)], [(-1 : Rat)], [(1 : Rat), (1 : Rat)]),
  ([(-2 : Rat), (0 : Rat), (1 : Rat)], [(1 : Rat), (1 : Rat)], [(-1 : Rat)], [(-1 : Rat), (1 : Rat)]),
  ([(-2 : Rat), (0 : Rat), (1 : Rat)], [(⟨-1, 2, by decide, by decide⟩ : Rat), (1 : Rat)], [(⟨-4, 7, by decide, by decide⟩ : Rat)], [(⟨2, 7, by decide, by decide⟩ : Rat), (⟨4, 7, by decide, by decide⟩ : Rat)]),
  ([(-2 : Rat), (0 : Rat), (1 : Rat)], [(3 : Rat), (1 : Rat)], [(⟨1, 7, by decide, by decide⟩ : Rat)], [(⟨3, 7, by decide, by decide⟩ : Rat), (⟨-1, 7, by decide, by decide⟩ : Rat)]),
  ([(-2 : Rat), (0 : Rat), (1 : Rat)], [(1 : Rat), (0 : Rat), (1 : Rat)], [(⟨-1, 3, by decide, by decide⟩ : Rat)], [(⟨1, 3, by decide, by decide⟩ : Rat)]),
  ([(-2 : Rat), (0 : Rat), (1 : Rat)], [(1 : Rat), (1 : Rat), (1 : Rat)], [(⟨-2, 7, by decide, by decide⟩ : Rat), (⟨1, 7, by decide, by decide⟩ : Rat)], [(⟨3, 7, by decide, by decide⟩ : Rat), (⟨-1, 7, by decide, by decide⟩ : Rat)]),
  ([(1 : Rat), (1 : Rat), (1 : Rat)], [(0 : Rat), (1 : Rat)], [(1 : Rat)], [(-1 : Rat), (-1 : Rat)]),
  ([(1 : Rat), (1 : Rat), (1 : Rat)], [(-1 : Rat), (1 : Rat)], [(⟨1, 3, by decide, by decide⟩ : Rat)], [(⟨-2, 3, by decide, by decide⟩ : Rat), (⟨-1, 3, by decide, by decide⟩ : Rat)]),
  ([(1 : Rat), (1 : Rat), (1 : Rat)], [(1 : Rat), (1 : Rat)], [(1 : Rat)], [(0 : Rat), (-1 : Rat)]),
  ([(1 : Rat), (1 : Rat), (1 : Rat)], [(⟨-1, 2, by decide, by decide⟩ : Rat), (1 : Rat)], [(⟨4, 7, by decide, by decide⟩ : Rat)], [(⟨-6, 7, by decide, by decide⟩ : Rat), (⟨-4, 7, by decide, by decide⟩ : Rat)]),
  ([(1 : Rat), (1 : Rat), (1 : Rat)], [(3 : Rat), (1 : Rat)], [(⟨1, 7, by decide, by decide⟩ : Rat)], [(⟨2, 7, by decide, by decide⟩ : Rat), (⟨-1, 7, by decide, by decide⟩ : Rat)]),
  ([(1 : Rat), (1 : Rat), (1 : Rat)], [(1 : Rat), (0 : Rat), (1 : Rat)], [(0 : Rat), (-1 : Rat)], [(1 : Rat), (1 : Rat)]),
  ([(1 : Rat), (1 : Rat), (1 : Rat)], [(-2 : Rat), (0 : Rat), (1 : Rat)], [(⟨3, 7, by decide, by decide⟩ : Rat), (⟨-1, 7, by decide, by decide⟩ : Rat)], [(⟨-2, 7, by decide, by decide⟩ : Rat), (⟨1, 7, by decide, by decide⟩ : Rat)])]
def bds : List (List Rat × List Rat × List Rat) := [([(0 : Rat), (1 : Rat)], [], [(1 : Rat)]),
  ([(-1 : Rat), (1 : Rat)], [], [(1 : Rat)]),
  ([(1 : Rat), (1 : Rat)], [], [(1 : Rat)]),
  ([(⟨-1, 2, by decide, by decide⟩ : Rat), (1 : Rat)], [], [(1 : Rat)]),
  ([(3 : Rat), (1 : Rat)], [], [(1 : Rat)]),
  ([(1 : Rat), (0 : Rat), (1 : Rat)], [(1 : Rat)], [(0 : Rat), (⟨-1, 2, by decide, by decide⟩ : Rat)]),
  ([(-2 : Rat), (0 : Rat), (1 : Rat)], [(⟨-1, 2, by decide, by decide⟩ : Rat)], [(0 : Rat), (⟨1, 4, by decide, by decide⟩ : Rat)]),
  ([(1 : Rat), (1 : Rat), (1 : Rat)], [(⟨4, 3, by decide, by decide⟩ : Rat)], [(⟨-1, 3, by decide, by decide⟩ : Rat), (⟨-2, 3, by decide, by decide⟩ : Rat)])]
def bz1 (u p v q : List Rat) : Bool := decide (trim (addL (mulL u p) (mulL v q)) = [1])
theorem ser_one1 : ser [1] = 1 := by show PS.C 1 + PS.X * 0 = 1; rw [PS.C_one]; grind
theorem cop_bz1 {u p v q : List Rat} (h : bz1 u p v q = true) : Cop (ser p) (ser q) := by
  have h := of_decide_eq_true h
  refine ⟨ser u, ser v, pl_ser u, pl_ser v, ?_⟩
  rw [← ser_mul, ← ser_mul, ← ser_add, ← ser_trim, h, ser_one1]
theorem chk1 : (pcs.all fun p => pcs.all fun q => p == q || bzs.any fun r => r.1 == p && r.2.1 == q && bz1 r.2.2.1 p r.2.2.2 q) = true := by decide +kernel
theorem chk2 : (pcs.all fun p => bds.any fun r => r.1 == p && bz1 r.2.1 p r.2.2 (derL p)) = true := by decide +kernel
theorem chk4 : (pcs.all fun p => decide (p.length ≤ 3) && decide (2 ≤ p.length) && decide (p.getLast? = some 1)) = true := by decide +kernel
theorem chk5 : (pcs.all fun p => p.all fun x => decide (x.num.natAbs ≤ 2 ^ 2) && decide (x.den ≤ 2 ^ 2)) = true := by decide +kernel
theorem pc_cop {p q : List Rat} (hp : p ∈ pcs) (hq : q ∈ pcs) (ne : p ≠ q) : Cop (ser p) (ser q) := by
  have h := List.all_eq_true.mp (List.all_eq_true.mp chk1 p hp) q hq
  rcases Bool.or_eq_true_iff.mp h with h | h
  · exact absurd (eq_of_beq h) ne
  · obtain ⟨r, _, h⟩ := List.any_eq_true.mp h
    exact cop_bz1 (Bool.and_eq_true_iff.mp h).2
theorem pc_der {p : List Rat} (hp : p ∈ pcs) : Cop (ser p) (der (ser p)) := by
  have h := List.all_eq_true.mp chk2 p hp
  obtain ⟨r, _, h⟩ := List.any_eq_true.mp h
  have := cop_bz1 (Bool.and_eq_true_iff.mp h).2
  rw [ser_der] at this
  exact this
theorem pc_bd {p : List Rat} (hp : p ∈ pcs) : BdL 2 p := fun x hx => by
  have h := List.all_eq_true.mp (List.all_eq_true.mp chk5 p hp) x hx
  obtain ⟨h1, h2⟩ := Bool.and_eq_true_iff.mp h
  exact ⟨of_decide_eq_true h1, of_decide_eq_true h2⟩
theorem pc_len {p : List Rat} (hp : p ∈ pcs) : 2 ≤ p.length ∧ p.length ≤ 3 := by
  have h := List.all_eq_true.mp chk4 p hp
  obtain ⟨h1, h2⟩ := Bool.and_eq_true_iff.mp h
  obtain ⟨h1, h3⟩ := Bool.and_eq_true_iff.mp h1
  exact ⟨of_decide_eq_true h3, of_decide_eq_true h1⟩
theorem pc_mn {p : List Rat} (hp : p ∈ pcs) : Mn (ser p) (p.length - 1) := by
  have h := List.all_eq_true.mp chk4 p hp
  have h2 := of_decide_eq_true (Bool.and_eq_true_iff.mp h).2
  have hl := pc_len hp
  rcases List.eq_nil_or_concat p with rfl | ⟨r, a, rfl⟩
  · cases h2
  · rw [List.concat_eq_append] at *
    rw [List.getLast?_append] at h2
    have e : a = 1 := by simpa using h2
    subst e
    have := mn_snoc1 r
    rwa [List.length_append, List.length_cons, List.length_nil, Nat.add_sub_cancel]
theorem pc_z {p : List Rat} (hp : p ∈ pcs) : Z 3 9 (ser p) := by
  have hl := pc_len hp
  have h := Hb.ser (pc_bd hp)
  have hm : p.length * (2 + 1) ≤ 3 * 3 := Nat.mul_le_mul hl.2 (Nat.le_refl _)
  exact ⟨(lt_ser p).mono hl.2, h.mono (by omega)⟩
/-- a number times the slope of a piece over it, put to a sum -/
def lst (s : List Rat × List Rat) (t : Rat × List Rat) : List Rat × List Rat := (addL (mulL s.1 t.2) (mulL ((derL t.2).map fun b => t.1 * b) s.2), mulL s.2 t.2)
theorem lst_ser (s : List Rat × List Rat) (t : Rat × List Rat) : ser (lst s t).1 = ser s.1 * ser t.2 + PS.C t.1 * der (ser t.2) * ser s.2 ∧ ser (lst s t).2 = ser s.2 * ser t.2 := by
  unfold lst
  refine ⟨?_, ser_mul _ _⟩
  show ser (addL _ _) = _
  rw [ser_add, ser_mul, ser_mul, ser_smul, ser_der]
/-- the state of a sum over unlike pieces -/
structure LS (s : List Rat × List Rat) (us : List (List Rat)) (i h : Nat) : Prop where
  cop : Cop (ser s.1) (ser s.2)
  mn : ∃ m, Mn (ser s.2) m ∧ m ≤ 2 * i
  oth : ∀ q ∈ pcs, q ∉ us → Cop (ser s.2) (ser q)
  za : Z (2 * i + 1) h (ser s.1)
  zb : Z (2 * i + 1) (14 * i) (ser s.2)
theorem LS.start : LS ([], [1]) [] 0 0 := ⟨by rw [ser_one1]; exact Cop.one _, ⟨0, by rw [ser_one1]; exact Mn.one, by omega⟩, fun q _ _ => by rw [ser_one1]; exact (Cop.one _).symm, Z.zero _ _, by rw [ser_one1]; exact Z.one _ _ (by omega)⟩
theorem LS.step {s : List Rat × List Rat} {us : List (List Rat)} {i h b : Nat} {t : Rat × List Rat} (l : LS s us i h) (hi : i ≤ 3) (ht : t.2 ∈ pcs) (hu : t.2 ∉ us) (t0 : t.1 ≠ 0) (hb : Bd b t.1) : LS (lst s t) (us ++ [t.2]) (i + 1) (h + b + 80) := by
  obtain ⟨e1, e2⟩ := lst_ser s t
  have zp := pc_z ht
  obtain ⟨m, hm, hmi⟩ := l.mn
  have mp := pc_mn ht
  have lp := pc_len ht
  have cbp := l.oth _ ht hu
  have cpd := pc_der ht
  have pa := l.za.pl
  have pb := l.zb.pl
  have pp := zp.pl
  have pd := pp.der
  refine ⟨?_, ⟨_, by rw [e2]; exact hm.mul mp, by omega⟩, fun q hq hn => ?_, ?_, ?_⟩
  · rw [e1, e2]
    refine Cop.mul ((pa.mul pp).add (((Pl.C _).mul pd).mul pb)) pb pp ?_ ?_
    · exact ((Cop.mul pb pa pp l.cop.symm cbp).add_mul (s := PS.C t.1 * der (ser t.2)) ((Pl.C _).mul pd)).symm
    · have h1 : Cop (ser t.2) (PS.C t.1 * (der (ser t.2) * ser s.2)) := (Cop.mul pp pd pb cpd cbp.symm).smul t0
      have h2 := (h1.add_mul (s := ser s.1) pa).symm
      rwa [show PS.C t.1 * (der (ser t.2) * ser s.2) + ser s.1 * ser t.2 = ser s.1 * ser t.2 + PS.C t.1 * der (ser t.2) * ser s.2 by grind] at h2
  · rw [e2]
    have hq1 : q ∉ us := fun z => hn (List.mem_append_left _ z)
    have hq2 : t.2 ≠ q := fun z => hn (List.mem_append_right _ (by rw [z]; exact List.mem_cons_self))
    exact Cop.mul_l pb pp (pl_ser q) (l.oth q hq hq1) (pc_cop ht hq hq2)
  · rw [e1]
    have z1 := l.za.mul zp (l := 3) (by omega)
    have z2 : Z 2 (b + 11) (PS.C t.1 * der (ser t.2)) := ((zp.der (l := 2) (by decide)).smul hb).mono (by decide) (by omega)
    have z3 := z2.mul l.zb (l := 1) (by decide)
    exact (z1.add z3).mono (by omega) (by omega)
  · rw [e2]
    exact (l.zb.mul zp (l := 3) (by omega)).mono (by omega) (by omega)
theorem LS.qc {s : List Rat × List Rat} {us : List (List Rat)} {i h : Nat} (l : LS s us i h) : AW.qc (ser s.1) (ser s.2) = (ser s.1, ser s.2) := by
  obtain ⟨m, hm, _⟩ := l.mn
  exact qc_of ⟨l.cop, l.za.pl, ⟨m, hm⟩, rfl⟩ l.za.pl l.zb.pl hm.dg.ne
end AW

/-! AwB6: bodies. -/
namespace AW
open PySem
end AW

/-! AwRow: rows of powers: a top over a bottom that isn't nought at 0. -/
namespace AW
open PySem PySem.Spec PyProof.Rows
/-- the k-th number's making: k is the row's length -/
def nmr (t b : Nat → Rat) (L : List Rat) : Nat → Rat
  | 0 => t L.length
  | J + 1 => nmr t b L J + -(b (J + 1) * L.getD (L.length - (J + 1)) 0)
def rl (t b : Nat → Rat) : Nat → List Rat
  | 0 => []
  | n + 1 => rl t b n ++ [nmr t b (rl t b n) n * (b 0)⁻¹]
theorem rl_len (t b : Nat → Rat) : ∀ n, (rl t b n).length = n
  | 0 => rfl
  | n + 1 => by
    show (rl t b n ++ [_]).length = n + 1
    rw [List.length_append, rl_len t b n]
    rfl
def rr (t b : Nat → Rat) (i : Nat) : Rat := nmr t b (rl t b i) i * (b 0)⁻¹
theorem rl_get (t b : Nat → Rat) : ∀ (n i : Nat), i < n → (rl t b n).getD i 0 = rr t b i
  | 0, i, h => by omega
  | n + 1, i, h => by
    show (rl t b n ++ [rr t b n]).getD i 0 = _
    by_cases e : i = n
    · subst e
      have hl := rl_len t b i
      simp [List.getD, List.getElem?_append, hl]
    · have hl := rl_len t b n
      have ih := rl_get t b n i (by omega)
      rw [← ih]
      simp [List.getD, List.getElem?_append, hl, show i < n by omega]
theorem rr_rec {t b : Nat → Rat} (b0 : b 0 ≠ 0) (k : Nat) : b 0 * rr t b k = nmr t b (rl t b k) k := by
  unfold rr
  have : (b 0)⁻¹ * b 0 = 1 := Rat.inv_mul_cancel _ b0
  generalize (b 0)⁻¹ = i at *
  grind
structure RwB (t b : Nat → Rat) (K M c0 : Int) (h : Nat) : Prop where
  kb : ∀ j, Nb K (2 ^ h) (b j)
  mt : ∀ j, Nb M (2 ^ h) (t j)
  e0 : (K : Rat) * b 0 = c0
  k0 : K ≠ 0
  m0 : M ≠ 0
  n0 : c0 ≠ 0
  kl : K.natAbs ≤ 2 ^ h
  ml : M.natAbs ≤ 2 ^ h
  cl : c0.natAbs ≤ 2 ^ h
/-- the law's sum: the first n shares of the k-th number -/
def sn (t b : Nat → Rat) (k : Nat) : Nat → Rat
  | 0 => 0
  | n + 1 => sn t b k n + rr t b n * b (k - n)
theorem sn_nmr (t b : Nat → Rat) (k : Nat) : ∀ J, J ≤ k → sn t b k k = sn t b k (k - J) + (t k - nmr t b (rl t b k) J)
  | 0, _ => by
    show sn t b k k = sn t b k k + (t k - t (rl t b k).length)
    rw [rl_len]
    grind
  | J + 1, h => by
    rw [sn_nmr t b k J (by omega)]
    obtain ⟨d, hd⟩ : ∃ d, k = J + 1 + d := ⟨k - (J + 1), by omega⟩
    show _ = sn t b k (k - (J + 1)) + (t k - (nmr t b (rl t b k) J + -(b (J + 1) * (rl t b k).getD ((rl t b k).length - (J + 1)) 0)))
    rw [rl_len, rl_get t b k _ (by omega), show k - (J + 1) = d by omega, show k - J = d + 1 by omega]
    show sn t b k d + rr t b d * b (k - d) + _ = _
    rw [show k - d = J + 1 by omega]
    grind
theorem sn_all {t b : Nat → Rat} (b0 : b 0 ≠ 0) (k : Nat) : sn t b k (k + 1) = t k := by
  show sn t b k k + rr t b k * b (k - k) = t k
  rw [sn_nmr t b k k (Nat.le_refl _), Nat.sub_self, ← rr_rec b0 k]
  show 0 + _ + _ = _
  grind
theorem RwB.pos {t b : Nat → Rat} {K M c0 : Int} {h : Nat} (w : RwB t b K M c0 h) : b 0 ≠ 0 := fun z => w.n0 (by have := w.e0; rw [z, Rat.mul_zero] at this; exact (Rat.intCast_eq_zero_iff.mp this.symm))
end AW

/-! AwK62b: values at a place, slopes of logarithms. -/
namespace AW
open PySem PySem.Spec PyProof.Rows
section
variable {G : Nat → D} {c : Nat → List Sl → R (D × Bool)} {T : List Fn} {nm : Nm}
/-! ### sums over pieces -/
/-- the numbers and pieces that may be asked -/
def Tm (ts : List (Rat × List Rat)) : Prop := (∀ t ∈ ts, t.2 ∈ pcs ∧ t.1 ≠ 0 ∧ Bd 200 t.1) ∧ (ts.map (·.2)).Nodup ∧ ts.length ≤ 3
def tm (t : Rat × List Rat) : D := .tuple [fr t.1, pol t.2]
theorem Tm.take {ts : List (Rat × List Rat)} (h : Tm ts) (i : Nat) : Tm (ts.take i) := ⟨fun t ht => h.1 t (List.mem_of_mem_take ht), by rw [List.map_take]; exact h.2.1.sublist (List.take_sublist _ _), by rw [List.length_take]; have := h.2.2; omega⟩
end
end AW

/-! AwK43: rows of powers, as the program tells them. -/
namespace AW
open PySem PySem.Spec PyProof.Rows
section
variable {G : Nat → D} {c : Nat → List Sl → R (D × Bool)} {T : List Fn} {nm : Nm}
structure SpAboutR (c : Nat → List Sl → R (D × Bool)) (j : Nat) : Prop where
  at_ : ∀ (q : PS × PS) (a : Rat) (n h k k1 k2 : Nat) (t1 t2 : PS), Z n h q.1 → Z n h q.2 → Z 2 k (PS.X + PS.C a) → n ≤ 60 ∧ h ≤ 300000 ∧ k ≤ 1000 → tsl a (toL q.1) = PS.X ^ k1 * t1 → t1.f 0 ≠ 0 → tsl a (toL q.2) = PS.X ^ k2 * t2 → t2.f 0 ≠ 0 →
    c j [.va (qd q), .va (fr a)] = va (.tuple [pol ((toL (tsl a (toL q.1))).drop k1), pol ((toL (tsl a (toL q.2))).drop k2), .int ((k1 : Int) - (k2 : Int))])
  far : ∀ q : PS × PS, c j [.va (qd q), .va .none] = va (.tuple [pol (toL q.1).reverse, pol (toL q.2).reverse, .int (((toL q.2).length : Int) - ((toL q.1).length : Int))])
theorem Bd.neg {b : Nat} {x : Rat} (h : Bd b x) : Bd b (-x) := ⟨by rw [Rat.neg_num, Int.natAbs_neg]; exact h.1, by rw [Rat.neg_den]; exact h.2⟩
end
end AW

/-! AwK43b: the law's own moved rows. -/
namespace AW
open PySem PySem.Spec PyProof.Rows
section
variable {G : Nat → D} {c : Nat → List Sl → R (D × Bool)} {T : List Fn} {nm : Nm}
end
end AW

/-! AwK62c: the law's values, slopes and pieces. -/
namespace AW
open PySem PySem.Spec PyProof.Rows
section
variable {G : Nat → D} {c : Nat → List Sl → R (D × Bool)} {T : List Fn} {nm : Nm}
/-- the law's value at a place -/
structure SpLAt (c : Nat → List Sl → R (D × Bool)) (j : Nat) : Prop where
  tup : ∀ (p : List Rat) (x : Rat) (b d : Nat), BdL b p → Bd d x → (p.length + 1) * (b + d + 1) ≤ 40000000 → c j [.va (pol p), .va (fr x)] = va (fr (hv p x))
  lst : ∀ (p : List Rat) (x : Rat) (b d : Nat), BdL b p → Bd d x → (p.length + 1) * (b + d + 1) ≤ 40000000 → c j [.va (.list (p.map fr)), .va (fr x)] = va (fr (hv p x))
end
end AW

/-! AwK62d: the law of slopes of logarithms. -/
namespace AW
open PySem PySem.Spec PyProof.Rows
section
variable {G : Nat → D} {c : Nat → List Sl → R (D × Bool)} {T : List Fn} {nm : Nm}
end
end AW

/-! AwK43c: the law's own look about a place. -/
namespace AW
open PySem PySem.Spec PyProof.Rows
theorem toL_full {F : List Rat} {m : Nat} (h : Dg (ser F) m) (hl : F.length = m + 1) : toL (ser F) = F := by
  rw [toL_dg h]
  symm
  apply List.ext_getElem (by simp [hl])
  intro i h1 h2
  simp
  rw [ser_f]
  simp [List.getD, h1]
section
variable {G : Nat → D} {c : Nat → List Sl → R (D × Bool)} {T : List Fn} {nm : Nm}
structure SpLAbout (c : Nat → List Sl → R (D × Bool)) (j : Nat) : Prop where
  at_ : ∀ (q : PS × PS) (a : Rat) (n h d k1 k2 : Nat) (t1 t2 : PS), Z n h q.1 → Z n h q.2 → Bd d a → n ≤ 60 ∧ h ≤ 300000 ∧ d ≤ 100 → q.1 ≠ 0 → q.2 ≠ 0 → tsl a (toL q.1) = PS.X ^ k1 * t1 → t1.f 0 ≠ 0 → tsl a (toL q.2) = PS.X ^ k2 * t2 → t2.f 0 ≠ 0 →
    c j [.va (qd q), .va (fr a)] = va (.tuple [.list (((toL (tsl a (toL q.1))).drop k1).map fr), .list (((toL (tsl a (toL q.2))).drop k2).map fr), .int ((k1 : Int) - (k2 : Int))])
  far : ∀ q : PS × PS, c j [.va (qd q), .va .none] = va (.tuple [.list ((toL q.1).reverse.map fr), .list ((toL q.2).reverse.map fr), .int (((toL q.2).length : Int) - ((toL q.1).length : Int))])
end
end AW

/-! AwK43d: a place's look, for the program and for the law. -/
namespace AW
open PySem PySem.Spec PyProof.Rows
/-- what is told about a place -/
inductive Look (q : PS × PS) : D → List Rat → List Rat → Int → Prop
  | at_ (a : Rat) (n h d k1 k2 : Nat) (t1 t2 : PS) : Z n h q.1 → Z n h q.2 → Bd d a → n ≤ 60 ∧ h ≤ 300000 ∧ d ≤ 100 → tsl a (toL q.1) = PS.X ^ k1 * t1 → t1.f 0 ≠ 0 → tsl a (toL q.2) = PS.X ^ k2 * t2 → t2.f 0 ≠ 0 →
      Look q (fr a) ((toL (tsl a (toL q.1))).drop k1) ((toL (tsl a (toL q.2))).drop k2) ((k1 : Int) - (k2 : Int))
  | far : Look q .none (toL q.1).reverse (toL q.2).reverse (((toL q.2).length : Int) - ((toL q.1).length : Int))
/-- the size of a row that is asked -/
def RwOk (lt lb : List Rat) (m : Nat) : Prop := ∃ (K M c0 : Int) (h : Nat), RwB (fun i => lt.getD i 0) (fun i => lb.getD i 0) K M c0 h ∧ m ≤ 40 ∧ 3 * h + h * m + m + h + 2 ≤ 30000000 ∧ lt.length ≤ 1000 ∧ lb.length ≤ 1000 ∧ 1 ≤ lb.length
/-- the row that is told -/
def rwl (lt lb : List Rat) (m : Nat) : List Rat := rl (fun i => lt.getD i 0) (fun i => lb.getD i 0) m
section
variable {G : Nat → D} {c : Nat → List Sl → R (D × Bool)} {T : List Fn} {nm : Nm}
structure SpRowAt (c : Nat → List Sl → R (D × Bool)) (j : Nat) : Prop where
  row : ∀ (q : PS × PS) (d : D) (lt lb : List Rat) (e : Int) (m : Nat), Pl q.1 → q.1 ≠ 0 → Look q d lt lb e → RwOk lt lb m → c j [.va (qd q), .va d, .va (.int (m : Nat))] = va (.tuple [.int e, .tuple ((rwl lt lb m).map fr)])
  nought : ∀ (q : PS × PS) (d : D) (m : Nat), q.1 = 0 → m ≤ 1000 → c j [.va (qd q), .va d, .va (.int (m : Nat))] = va (.tuple [.int 0, .tuple (List.replicate m (fr 0))])
end
end AW

/-! AwK43e: the law's totals. -/
namespace AW
open PySem PySem.Spec PyProof.Rows
section
variable {G : Nat → D} {c : Nat → List Sl → R (D × Bool)} {T : List Fn} {nm : Nm}
end
end AW

/-! AwK43f: the sizes of what is told about a place; the law's check of a row. -/
namespace AW
open PySem PySem.Spec PyProof.Rows
/-! ### sizes -/
/-- over one number, row by row -/
def Wb (h : Nat) (l : List Rat) : Prop := ∃ K : Int, K ≠ 0 ∧ K.natAbs ≤ 2 ^ h ∧ ∀ x ∈ l, Nb K (2 ^ h) x
theorem Wb.getD {l : List Rat} {K : Int} {L : Nat} (h : ∀ x ∈ l, Nb K L x) (j : Nat) : Nb K L (l.getD j 0) := by
  rw [List.getD_eq_getElem?_getD]
  cases e : l[j]? with
  | none => exact Nb.zero _ _
  | some x => exact h x (List.mem_of_getElem? e)
theorem Wb.of {h : Nat} {s : PS} (hb : Hb h s) (p : Pl s) : Wb h (toL s) := by
  obtain ⟨K, h1, h2, h3⟩ := hb
  refine ⟨K, h1, h2, fun x hx => ?_⟩
  obtain ⟨i, hi⟩ := List.mem_iff_getElem?.mp hx
  have hlt := (List.getElem?_eq_some_iff.mp hi).1
  rw [toL_get p hlt] at hi
  rw [← Option.some.inj hi]
  exact h3 i
theorem Wb.drop {h : Nat} {l : List Rat} (w : Wb h l) (k : Nat) : Wb h (l.drop k) := by
  obtain ⟨K, h1, h2, h3⟩ := w
  exact ⟨K, h1, h2, fun x hx => h3 x (List.mem_of_mem_drop hx)⟩
theorem Wb.rev {h : Nat} {l : List Rat} (w : Wb h l) : Wb h l.reverse := by
  obtain ⟨K, h1, h2, h3⟩ := w
  exact ⟨K, h1, h2, fun x hx => h3 x (List.mem_reverse.mp hx)⟩
theorem fac_X {s : PS} (h : s ≠ 0) : ∃ (k : Nat) (t : PS), s = PS.X ^ k * t ∧ t.f 0 ≠ 0 := by
  have h1 : ∃ i, s.f i ≠ 0 := Classical.byContradiction fun z => h (PS.ext (funext fun n => Classical.byContradiction fun w => z ⟨n, fun q => w (q.trans (PS.zero_f n).symm)⟩))
  have h2 : ∀ n, s.f n ≠ 0 → ∃ k, s.f k ≠ 0 ∧ ∀ i, i < k → s.f i = 0 := fun n => by
    induction n using Nat.strongRecOn with
    | _ n ih =>
      intro hn
      by_cases z : ∀ i, i < n → s.f i = 0
      · exact ⟨n, hn, z⟩
      · obtain ⟨i, hi⟩ := Classical.not_forall.mp z
        obtain ⟨hi, w⟩ := Classical.not_imp.mp hi
        exact ih i hi w
  obtain ⟨n, hn⟩ := h1
  obtain ⟨k, k1, k2⟩ := h2 n hn
  refine ⟨k, ⟨fun n => s.f (k + n)⟩, PS.ext (funext fun n => ?_), k1⟩
  rw [Xpow_mul]
  split
  · show _ = s.f (k + (n - k))
    rw [show k + (n - k) = n by omega]
  · exact k2 n (by omega)
/-! ### the law's sums -/
section
variable {G : Nat → D} {c : Nat → List Sl → R (D × Bool)} {T : List Fn} {nm : Nm}
structure SpRight43 (c : Nat → List Sl → R (D × Bool)) (j : Nat) : Prop where
  row : ∀ (q : PS × PS) (d : D) (lt lb : List Rat) (e : Int) (m : Nat), Pl q.1 → q.1 ≠ 0 → q.2 ≠ 0 → Look q d lt lb e → lt.getD 0 0 ≠ 0 → RwOk lt lb m → c j [.va (qd q), .va d, .va (.tuple [.int e, .tuple ((rwl lt lb m).map fr)]), .va (.int (m : Nat))] = va (.bool true)
  nought : ∀ (q : PS × PS) (d : D) (m : Nat), q.1 = 0 → m ≤ 1000 → c j [.va (qd q), .va d, .va (.tuple [.int 0, .tuple (List.replicate m (fr 0))]), .va (.int (m : Nat))] = va (.bool true)
end
end AW

/-! AwLau: coefficients of quotients of power series. -/
namespace AW
open PySem PySem.Spec PyProof.Rows
def smc (a b : Nat → Rat) (k : Nat) : Nat → Rat
  | 0 => 0
  | n + 1 => smc a b k n + a n * b (k - n)
theorem smc_sh (a b : Nat → Rat) (k : Nat) : ∀ n, smc a b (k + 1) (n + 1) = a 0 * b (k + 1) + smc (fun i => a (i + 1)) b k n
  | 0 => by
    show 0 + a 0 * b (k + 1 - 0) = a 0 * b (k + 1) + 0
    rw [Nat.sub_zero]
    grind
  | n + 1 => by
    show smc a b (k + 1) (n + 1) + a (n + 1) * b (k + 1 - (n + 1)) = a 0 * b (k + 1) + (smc (fun i => a (i + 1)) b k n + a (n + 1) * b (k - n))
    rw [smc_sh a b k n, show k + 1 - (n + 1) = k - n by omega]
    grind
theorem conv_smc (b : Nat → Rat) : ∀ (k : Nat) (a : Nat → Rat), PS.conv a b k = smc a b k (k + 1)
  | 0, a => by
    show a 0 * b 0 = 0 + a 0 * b 0
    grind
  | k + 1, a => by
    rw [smc_sh]
    show a 0 * b (k + 1) + PS.conv (fun i => a (i + 1)) b k = _
    rw [conv_smc b k]
theorem sn_smc (t b : Nat → Rat) (k : Nat) : ∀ n, n ≤ k + 1 → sn t b k n = smc (rr t b) b k n
  | 0, _ => rfl
  | n + 1, h => by
    show sn t b k n + _ = smc (rr t b) b k n + rr t b n * b (k - n)
    rw [sn_smc t b k n (by omega)]
/-- the quotient of two series -/
def dvs (t b : PS) : PS := ⟨rr t.f b.f⟩
theorem dvs_mul {t b : PS} (b0 : b.f 0 ≠ 0) : dvs t b * b = t := PS.ext (funext fun k => by
  show PS.conv (rr t.f b.f) b.f k = t.f k
  rw [conv_smc, ← sn_smc t.f b.f k (k + 1) (Nat.le_refl _), sn_all b0])
theorem mul_zero_of {v b : PS} (b0 : b.f 0 ≠ 0) (h : v * b = 0) : v = 0 := PS.ext (funext fun n => by
  rw [PS.zero_f]
  induction n using Nat.strongRecOn with
  | _ n ih =>
    have h1 : (v * b).f n = 0 := by rw [h, PS.zero_f]
    have h2 : smc v.f b.f n (n + 1) = 0 := by rw [← conv_smc]; exact h1
    have h3 : ∀ m, m ≤ n → smc v.f b.f n m = 0 := fun m => by
      induction m with
      | zero => intro _; rfl
      | succ m ihm =>
        intro hm
        show smc v.f b.f n m + v.f m * b.f (n - m) = 0
        rw [ihm (by omega), ih m (by omega)]
        grind
    have h4 : smc v.f b.f n n + v.f n * b.f (n - n) = 0 := h2
    rw [h3 n (Nat.le_refl _), Nat.sub_self] at h4
    have h5 : v.f n * b.f 0 = 0 := by rw [← h4]; grind
    rcases Rat.mul_eq_zero.mp h5 with z | z
    · exact z
    · exact absurd z b0)
theorem cancel_of {v w b : PS} (b0 : b.f 0 ≠ 0) (h : v * b = w * b) : v = w := by
  have : v - w = 0 := mul_zero_of b0 (by
    have : (v - w) * b = v * b - w * b := by grind
    rw [this, h]
    grind)
  have e : v = (v - w) + w := by grind
  rw [e, this]
  grind
/-- x is the coefficient of X ^ n in T / B -/
def Lc (T B : PS) (n : Int) (x : Rat) : Prop := ∃ (k : Nat) (b W : PS), B = PS.X ^ k * b ∧ b.f 0 ≠ 0 ∧ W * b = T ∧ x = if 0 ≤ n + (k : Int) then W.f (n + (k : Int)).toNat else 0
theorem Lc.ex (T : PS) {B : PS} (h : B ≠ 0) (n : Int) : ∃ x, Lc T B n x := by
  obtain ⟨k, b, e, b0⟩ := fac_X h
  exact ⟨_, k, b, dvs T b, e, b0, dvs_mul b0, rfl⟩
/-- equal quotients have equal coefficients -/
theorem Lc.eq {T B T' B' : PS} {n : Int} {x y : Rat} (h : Lc T B n x) (h' : Lc T' B' n y) (e : T * B' = T' * B) : x = y := by
  obtain ⟨k, b, W, rfl, b0, rfl, rfl⟩ := h
  obtain ⟨l, c, V, rfl, c0, rfl, rfl⟩ := h'
  have bc : (b * c).f 0 ≠ 0 := by
    show PS.conv b.f c.f 0 ≠ 0
    show b.f 0 * c.f 0 ≠ 0
    intro z
    rcases Rat.mul_eq_zero.mp z with z | z
    · exact b0 z
    · exact c0 z
  have e2 : (PS.X ^ l * W : PS) = PS.X ^ k * V := cancel_of bc (by
    have a1 : (PS.X ^ l * W * (b * c) : PS) = W * b * (PS.X ^ l * c) := by grind
    have a2 : (PS.X ^ k * V * (b * c) : PS) = V * c * (PS.X ^ k * b) := by grind
    rw [a1, a2, e])
  have at_ : ∀ m : Nat, (if l ≤ m then W.f (m - l) else 0) = (if k ≤ m then V.f (m - k) else 0) := fun m => by
    rw [← Xpow_mul, ← Xpow_mul, e2]
  by_cases h0 : 0 ≤ n + (k : Int) + (l : Int)
  · have := at_ (n + (k : Int) + (l : Int)).toNat
    by_cases h1 : 0 ≤ n + (k : Int)
    · rw [if_pos (by omega), show (n + (k : Int) + (l : Int)).toNat - l = (n + (k : Int)).toNat by omega] at this
      rw [if_pos h1, this]
      by_cases h2 : 0 ≤ n + (l : Int)
      · rw [if_pos h2, if_pos (by omega), show (n + (k : Int) + (l : Int)).toNat - k = (n + (l : Int)).toNat by omega]
      · rw [if_neg h2, if_neg (by omega)]
    · rw [if_neg (by omega)] at this
      rw [if_neg h1, this]
      by_cases h2 : 0 ≤ n + (l : Int)
      · rw [if_pos h2, if_pos (by omega), show (n + (k : Int) + (l : Int)).toNat - k = (n + (l : Int)).toNat by omega]
      · rw [if_neg h2, if_neg (by omega)]
  · rw [if_neg (by omega), if_neg (by omega)]
/-- coefficients add -/
theorem Lc.add {T B T' B' : PS} {n : Int} {x y : Rat} (h : Lc T B n x) (h' : Lc T' B' n y) : Lc (T * B' + T' * B) (B * B') n (x + y) := by
  obtain ⟨k, b, W, rfl, b0, rfl, rfl⟩ := h
  obtain ⟨l, c, V, rfl, c0, rfl, rfl⟩ := h'
  refine ⟨k + l, b * c, PS.X ^ l * W + PS.X ^ k * V, by rw [show (PS.X ^ (k + l) : PS) = PS.X ^ k * PS.X ^ l by grind]; grind, ?_, by grind, ?_⟩
  · show b.f 0 * c.f 0 ≠ 0
    intro z
    rcases Rat.mul_eq_zero.mp z with z | z
    · exact b0 z
    · exact c0 z
  · by_cases h0 : 0 ≤ n + ((k + l : Nat) : Int)
    · rw [if_pos h0, PS.add_f, Xpow_mul, Xpow_mul]
      congr 1
      · by_cases h1 : 0 ≤ n + (k : Int)
        · rw [if_pos h1, if_pos (by omega), show (n + ((k + l : Nat) : Int)).toNat - l = (n + (k : Int)).toNat by omega]
        · rw [if_neg h1, if_neg (by omega)]
      · by_cases h1 : 0 ≤ n + (l : Int)
        · rw [if_pos h1, if_pos (by omega), show (n + ((k + l : Nat) : Int)).toNat - k = (n + (l : Int)).toNat by omega]
        · rw [if_neg h1, if_neg (by omega)]
    · rw [if_neg h0, if_neg (by omega), if_neg (by omega)]
      grind
/-- nothing below the least power -/
theorem Lc.low {T B : PS} {n : Int} {x : Rat} (h : Lc T B n x) (b0 : B.f 0 ≠ 0) (hn : n < 0) : x = 0 := by
  obtain ⟨k, b, W, rfl, _, _, rfl⟩ := h
  have : k = 0 := by
    have h1 := b0
    rw [Xpow_mul] at h1
    by_cases z : k ≤ 0
    · omega
    · rw [if_neg z] at h1; exact absurd rfl h1
  subst this
  rw [if_neg (by omega)]
end AW

/-! AwB7: bodies. -/
namespace AW
open PySem
end AW

/-! AwB8: bodies. -/
namespace AW
open PySem
end AW

/-! AwB9: bodies. -/
namespace AW
open PySem
end AW

/-! AwB10: bodies. -/
namespace AW
open PySem
end AW

/-! AwB11: bodies. -/
namespace AW
open PySem
end AW

/-! AwK04: how often and the rest; by nought it is refused. -/
namespace AW
open PySem PySem.Spec PyProof.Rows
section
variable {G : Nat → D} {c : Nat → List Sl → R (D × Bool)} {T : List Fn} {nm : Nm}
def SpPart2 (c : Nat → List Sl → R (D × Bool)) (j : Nat) : Prop := ∀ x : Int, 0 ≤ x → x < 2147483629 → ∃ q : Rat, Bd 93 q ∧ c j [.va (.int x)] = va (fr q)
theorem SpPart2.sp {j : Nat} (h : SpPart2 c j) : SpPart c j := by
  have h : ∀ x : Int, ∃ q : Rat, 0 ≤ x → x < 2147483629 → Bd 93 q ∧ c j [.va (.int x)] = va (fr q) := fun x => by
    by_cases hx : 0 ≤ x ∧ x < 2147483629
    · obtain ⟨q, h1⟩ := h x hx.1 hx.2
      exact ⟨q, fun _ _ => h1⟩
    · exact ⟨0, fun a b => absurd ⟨a, b⟩ hx⟩
  exact ⟨fun x => Classical.choose (h x), fun x => Classical.choose_spec (h x)⟩
theorem Dr.z {n : Nat} {p : List Rat} (h : Dr n p) : Z n (94 * n) (ser p) ∧ pol p = po (ser p) := by
  refine ⟨⟨(lt_ser p).mono h.len, (Hb.ser h.bd).mono ?_⟩, ?_⟩
  · rw [Nat.mul_comm]
    exact Nat.mul_le_mul (Nat.le_refl _) h.len
  · unfold po
    rw [toL_ser, h.tr]
end
end AW

/-! AwKn: what is known of anything: whole numbers, fractions, polynomials. -/
namespace AW
open PySem PySem.Spec PyProof.Rows
def isF : D → Bool
  | .tuple [.int a, .int b] => decide (0 < b) && Nat.gcd a.natAbs b.natAbs == 1
  | _ => false
section
variable {G : Nat → D} {c : Nat → List Sl → R (D × Bool)} {T : List Fn} {nm : Nm}
end
end AW

/-! AwK03: polynomials made and known. -/
namespace AW
open PySem PySem.Spec PyProof.Rows
/-- a row of fractions -/
def isS : D → Bool
  | .list ds => ds.all isF
  | .tuple ds => ds.all isF
  | _ => false
def rowLe (d : D) : Prop := (∀ ds, d = .tuple ds → ds.length ≤ line) ∧ ∀ ds, d = .list ds → ds.length ≤ line
section
variable {G : Nat → D} {c : Nat → List Sl → R (D × Bool)} {T : List Fn} {nm : Nm}
structure SpPolyK (c : Nat → List Sl → R (D × Bool)) (j : Nat) : Prop where
  no : ∀ d, isS d = false → rowLe d → c j [.va d] = .ex 1
  li : ∀ p : List Rat, p.length ≤ line → c j [.va (.list (p.map fr))] = va (pol (trim p))
  tu : ∀ p : List Rat, p.length ≤ line → c j [.va (pol p)] = va (pol (trim p))
/-! ### refused -/
/-! ### known -/
/-! ### spoilt -/
/-! ### the law -/
end
end AW

/-! AwK44: the numbers of powers that the program tells, as coefficients. -/
namespace AW
open PySem PySem.Spec PyProof.Rows
/-! ### turned about: at the far end -/
def rv (p : PS) (N : Nat) : PS := ⟨fun i => if i ≤ N then p.f (N - i) else 0⟩
theorem rv_f (p : PS) (N i : Nat) : (rv p N).f i = if i ≤ N then p.f (N - i) else 0 := rfl
theorem rv_add (p q : PS) (N : Nat) : rv (p + q) N = rv p N + rv q N := PS.ext (funext fun i => by
  rw [PS.add_f, rv_f, rv_f, rv_f]
  by_cases h : i ≤ N
  · rw [if_pos h, if_pos h, if_pos h, PS.add_f]
  · rw [if_neg h, if_neg h, if_neg h]; grind)
theorem rv_smul (a : Rat) (q : PS) (N : Nat) : rv (PS.C a * q) N = PS.C a * rv q N := PS.ext (funext fun i => by
  rw [PS.C_mul, rv_f, rv_f]
  by_cases h : i ≤ N
  · rw [if_pos h, if_pos h, PS.C_mul]
  · rw [if_neg h, if_neg h]; grind)
theorem rv_up {q : PS} {N : Nat} (h : Lt q (N + 1)) (K : Nat) : rv q (K + N) = PS.X ^ K * rv q N := PS.ext (funext fun i => by
  rw [Xpow_mul, rv_f]
  by_cases h1 : K ≤ i
  · rw [if_pos h1, rv_f]
    by_cases h2 : i ≤ K + N
    · rw [if_pos h2, if_pos (by omega), show N - (i - K) = K + N - i by omega]
    · rw [if_neg h2, if_neg (by omega)]
  · rw [if_neg h1, if_pos (by omega), h _ (by omega)])
theorem rv_X (p : PS) (N : Nat) : rv (PS.X * p) (N + 1) = rv p N := PS.ext (funext fun i => by
  rw [rv_f, rv_f]
  by_cases h : i ≤ N
  · rw [if_pos (by omega), if_pos h, show N + 1 - i = (N - i) + 1 by omega, PS.X_mul]
  · rw [if_neg h]
    by_cases h2 : i ≤ N + 1
    · rw [if_pos h2, show N + 1 - i = 0 by omega, PS.X_mul]
    · rw [if_neg h2])
theorem rv_mul {q : PS} {N : Nat} (hq : Lt q (N + 1)) : ∀ (M : Nat) {p : PS}, Lt p (M + 1) → rv (p * q) (M + N) = rv p M * rv q N
  | 0, p, hp => by
    have e := Dg.const hp
    rw [Nat.zero_add, e, rv_smul]
    congr 1
    refine PS.ext (funext fun i => ?_)
    rw [rv_f]
    by_cases h : i = 0
    · rw [if_pos (by omega), h]
    · rw [if_neg (by omega)]
      show (if i = 0 then _ else _) = _
      rw [if_neg h]
  | M + 1, p, hp => by
    have e := sh_eq p
    have h1 := rv_mul hq M (p := sh p) hp.sh
    have e2 : p * q = PS.C (p.f 0) * q + PS.X * (sh p * q) := by
      conv => lhs; rw [e]
      grind
    rw [e2, rv_add, rv_smul, show M + 1 + N = (M + N) + 1 by omega, rv_X, h1, show M + N + 1 = (M + 1) + N by omega, rv_up hq]
    have e3 : rv p (M + 1) = PS.C (p.f 0) * PS.X ^ (M + 1) + rv (sh p) M := by
      conv => lhs; rw [e]
      rw [rv_add, rv_X]
      congr 1
      refine PS.ext (funext fun i => ?_)
      rw [rv_f, PS.C_mul, Xpow_f]
      show (if i ≤ M + 1 then (if M + 1 - i = 0 then p.f 0 else 0) else 0) = _
      by_cases h : i = M + 1
      · rw [if_pos (by omega), if_pos (by omega), if_pos h]; grind
      · rw [if_neg h]
        by_cases h2 : i ≤ M + 1
        · rw [if_pos h2, if_neg (by omega)]; grind
        · rw [if_neg h2]; grind
    rw [e3]
    grind
/-! ### a look's number -/
/-- the number of the power n that the rows tell -/
noncomputable def lkn (lt lb : List Rat) (e n : Int) : Rat := if e ≤ n then rr (fun i => lt.getD i 0) (fun i => lb.getD i 0) (n - e).toNat else 0
section
variable {G : Nat → D} {c : Nat → List Sl → R (D × Bool)} {T : List Fn} {nm : Nm}
structure SpNum (c : Nat → List Sl → R (D × Bool)) (j : Nat) : Prop where
  row : ∀ (q : PS × PS) (d : D) (lt lb : List Rat) (e n : Int), Pl q.1 → q.1 ≠ 0 → Look q d lt lb e → (∀ m, m ≤ 40 → RwOk lt lb m) → n - e + 1 ≤ 40 → c j [.va (qd q), .va d, .va (.int n)] = va (fr (lkn lt lb e n))
  nought : ∀ (q : PS × PS) (d : D) (n : Int), q.1 = 0 → c j [.va (qd q), .va d, .va (.int n)] = va (fr 0)
structure SpRes (c : Nat → List Sl → R (D × Bool)) (j : Nat) : Prop where
  at_ : ∀ (q : PS × PS) (a : Rat) (lt lb : List Rat) (e : Int), Pl q.1 → q.1 ≠ 0 → Look q (fr a) lt lb e → (∀ m, m ≤ 40 → RwOk lt lb m) → -40 ≤ e → c j [.va (qd q), .va (fr a)] = va (fr (lkn lt lb e (-1)))
  far : ∀ (q : PS × PS) (lt lb : List Rat) (e : Int), Pl q.1 → q.1 ≠ 0 → Look q .none lt lb e → (∀ m, m ≤ 40 → RwOk lt lb m) → -38 ≤ e → c j [.va (qd q), .va .none] = va (fr (-(lkn lt lb e 1)))
  noughtA : ∀ (q : PS × PS) (a : Rat), q.1 = 0 → c j [.va (qd q), .va (fr a)] = va (fr 0)
  noughtF : ∀ (q : PS × PS), q.1 = 0 → c j [.va (qd q), .va .none] = va (fr 0)
end
end AW

/-! AwK44b: residues of simple fractions, and of sums. -/
namespace AW
open PySem PySem.Spec PyProof.Rows
/-! ### moved to a place -/
/-- a polynomial about a -/
noncomputable def tsP (a : Rat) (p : PS) : PS := tsl a (toL p)
theorem tsl_trim (a : Rat) : ∀ l : List Rat, tsl a (trim l) = tsl a l
  | [] => rfl
  | c :: r => by
    have ih := tsl_trim a r
    show tsl a (if trim r = [] ∧ c = 0 then [] else c :: trim r) = tsl a r * (PS.X + PS.C a) + PS.C c
    by_cases h : trim r = [] ∧ c = 0
    · rw [if_pos h]
      rw [h.1] at ih
      rw [← ih, h.2, PS.C_zero]
      show (0 : PS) = 0 * _ + 0
      grind
    · rw [if_neg h]
      show tsl a (trim r) * (PS.X + PS.C a) + PS.C c = _
      rw [ih]
theorem tsP_ser (a : Rat) (l : List Rat) : tsP a (ser l) = tsl a l := by
  unfold tsP
  rw [toL_ser, tsl_trim]
theorem tsl_addL (a : Rat) : ∀ p q : List Rat, tsl a (addL p q) = tsl a p + tsl a q
  | [], q => by
    show tsl a q = 0 + tsl a q
    grind
  | c :: p, [] => by
    show tsl a (c :: p) = tsl a (c :: p) + 0
    grind
  | c :: p, d :: q => by
    have ih := tsl_addL a p q
    show tsl a (addL p q) * (PS.X + PS.C a) + PS.C (c + d) = tsl a p * (PS.X + PS.C a) + PS.C c + (tsl a q * (PS.X + PS.C a) + PS.C d)
    rw [ih, PS.C_add]
    grind
theorem tsP_add (a : Rat) {p q : PS} (hp : Pl p) (hq : Pl q) : tsP a (p + q) = tsP a p + tsP a q := by
  rw [← ser_toL hp, ← ser_toL hq, ← ser_add, tsP_ser, tsP_ser, tsP_ser, tsl_addL]
theorem tsl_smul (a c : Rat) : ∀ p : List Rat, tsl a (p.map fun b => c * b) = PS.C c * tsl a p
  | [] => by show (0 : PS) = PS.C c * 0; grind
  | d :: p => by
    have ih := tsl_smul a c p
    show tsl a (p.map fun b => c * b) * (PS.X + PS.C a) + PS.C (c * d) = PS.C c * (tsl a p * (PS.X + PS.C a) + PS.C d)
    rw [ih, PS.C_mulC]
    grind
theorem tsP_smul (a c : Rat) {p : PS} (hp : Pl p) : tsP a (PS.C c * p) = PS.C c * tsP a p := by
  rw [← ser_toL hp, ← ser_smul, tsP_ser, tsP_ser, tsl_smul]
theorem tsP_X (a : Rat) {p : PS} (hp : Pl p) : tsP a (PS.X * p) = (PS.X + PS.C a) * tsP a p := by
  rw [← ser_toL hp, show (PS.X * ser (toL p) : PS) = ser (0 :: toL p) by show _ = PS.C 0 + PS.X * ser (toL p); rw [PS.C_zero]; grind, tsP_ser, tsP_ser]
  show tsl a (toL p) * (PS.X + PS.C a) + PS.C 0 = _
  rw [PS.C_zero]
  grind
theorem tsP_mul (a : Rat) {q : PS} (hq : Pl q) : ∀ (M : Nat) {p : PS}, Lt p M → tsP a (p * q) = tsP a p * tsP a q
  | 0, p, hp => by
    have e := hp.nil
    subst e
    have z : tsP a 0 = 0 := by unfold tsP; rw [toL_zero]; rfl
    rw [show (0 : PS) * q = 0 by grind, z]
    grind
  | M + 1, p, hp => by
    have e := sh_eq p
    have hs := hp.sh
    have ps : Pl (sh p) := ⟨_, hs⟩
    have h1 := tsP_mul a hq M hs
    have e1 : tsP a p = PS.C (p.f 0) * tsP a 1 + (PS.X + PS.C a) * tsP a (sh p) := by
      conv => lhs; rw [e]
      rw [tsP_add a (Pl.C _) (Pl.X.mul ps), tsP_X a ps, show (PS.C (p.f 0) : PS) = PS.C (p.f 0) * 1 by grind, tsP_smul a _ Pl.one]
      grind
    have t1 : tsP a 1 = 1 := by
      have h := tsP_ser a [1]
      rw [ser_one1] at h
      rw [h]
      show (0 : PS) * _ + PS.C 1 = 1
      rw [PS.C_one]
      grind
    have e2 : p * q = PS.C (p.f 0) * q + PS.X * (sh p * q) := by
      conv => lhs; rw [e]
      grind
    rw [e2, tsP_add a ((Pl.C _).mul hq) (Pl.X.mul (ps.mul hq)), tsP_smul a _ hq, tsP_X a (ps.mul hq), h1, e1, t1]
    grind
theorem tsP_mul' (a : Rat) {p q : PS} (hp : Pl p) (hq : Pl q) : tsP a (p * q) = tsP a p * tsP a q := by
  obtain ⟨M, hM⟩ := hp
  exact tsP_mul a hq M hM
theorem tsP_C (a c : Rat) : tsP a (PS.C c) = PS.C c := by
  rw [show (PS.C c : PS) = ser [c] by show _ = PS.C c + PS.X * 0; grind, tsP_ser]
  show (0 : PS) * _ + PS.C c = PS.C c + PS.X * 0
  grind
theorem tsP_one (a : Rat) : tsP a 1 = 1 := by rw [← PS.C_one, tsP_C]
theorem tsP_lin (a r : Rat) : tsP a (PS.X - PS.C r) = PS.X + PS.C (a - r) := by
  rw [show (PS.X - PS.C r : PS) = ser [-r, 1] by show _ = PS.C (-r) + PS.X * (PS.C 1 + PS.X * 0); rw [PS.C_one, PS.C_neg]; grind, tsP_ser]
  show ((0 : PS) * _ + PS.C 1) * (PS.X + PS.C a) + PS.C (-r) = _
  rw [PS.C_one, PS.C_neg, show a - r = a + -r by grind, PS.C_add, PS.C_neg]
  grind
theorem tsP_pow (a : Rat) {p : PS} (hp : Pl p) : ∀ t : Nat, tsP a (p ^ t) = tsP a p ^ t
  | 0 => by rw [show (p ^ 0 : PS) = 1 by grind, tsP_one]; grind
  | t + 1 => by
    rw [show (p ^ (t + 1) : PS) = p ^ t * p by grind, tsP_mul' a (hp.pow t) hp, tsP_pow a hp t]
    grind
theorem head_mul (a b : PS) : (a * b).f 0 = a.f 0 * b.f 0 := rfl
theorem head_pow (a : PS) : ∀ t : Nat, (a ^ t).f 0 = a.f 0 ^ t
  | 0 => by rw [show (a ^ 0 : PS) = 1 by grind, Rat.pow_zero]; rfl
  | t + 1 => by
    rw [show (a ^ (t + 1) : PS) = a ^ t * a by grind, head_mul, head_pow a t, Rat.pow_succ]
theorem pow_ne {x : Rat} (h : x ≠ 0) : ∀ t : Nat, x ^ t ≠ 0
  | 0 => by rw [Rat.pow_zero]; decide
  | t + 1 => by
    rw [Rat.pow_succ]
    intro z
    rcases Rat.mul_eq_zero.mp z with z | z
    · exact pow_ne h t z
    · exact h z
/-! ### residues -/
/-- the residue at a of A over B -/
def Ra (a : Rat) (A B : PS) (x : Rat) : Prop := Lc (tsP a A) (tsP a B) (-1) x
theorem Ra.add {a : Rat} {A B U D : PS} {x y : Rat} (pA : Pl A) (pB : Pl B) (pU : Pl U) (pD : Pl D) (h : Ra a A B x) (k : Ra a U D y) : Ra a (A * D + U * B) (B * D) (x + y) := by
  have := Lc.add h k
  unfold Ra
  rw [tsP_add a (pA.mul pD) (pU.mul pB), tsP_mul' a pA pD, tsP_mul' a pU pB, tsP_mul' a pB pD]
  exact this
/-- no pole there -/
theorem Ra.none {a : Rat} {A B : PS} (h : (tsP a B).f 0 ≠ 0) : Ra a A B 0 := by
  have hne : tsP a B ≠ 0 := fun z => h (by rw [z, PS.zero_f])
  obtain ⟨x, hx⟩ := Lc.ex (tsP a A) hne (-1)
  have := hx.low h (by decide)
  subst this
  exact hx
/-- over a power of x less a place -/
theorem Ra.lin (a r u : Rat) (t : Nat) (ht : 1 ≤ t) : Ra a (PS.C u) ((PS.X - PS.C r) ^ t) (if a = r ∧ t = 1 then u else 0) := by
  have pl : Pl (PS.X - PS.C r) := Pl.X.sub (Pl.C r)
  by_cases h : a = r
  · subst h
    unfold Ra
    rw [tsP_C, tsP_pow a pl, tsP_lin]
    refine ⟨t, 1, PS.C u, ?_, by show (1 : Rat) ≠ 0; decide, by grind, ?_⟩
    · rw [show a - a = 0 by grind, PS.C_zero, show (PS.X + 0 : PS) = PS.X by grind]
      grind
    · by_cases h1 : t = 1
      · rw [if_pos ⟨rfl, h1⟩, if_pos (by omega)]
        show u = (if (-1 + (t : Int)).toNat = 0 then u else 0)
        rw [if_pos (by omega)]
      · rw [if_neg (fun z => h1 z.2), if_pos (by omega)]
        show (0 : Rat) = (if (-1 + (t : Int)).toNat = 0 then u else 0)
        rw [if_neg (by omega)]
  · rw [if_neg (fun z => h z.1)]
    refine Ra.none ?_
    rw [tsP_pow a pl, tsP_lin, head_pow]
    refine pow_ne ?_ t
    show (PS.X + PS.C (a - r)).f 0 ≠ 0
    rw [PS.add_f]
    show (0 : Rat) + (a - r) ≠ 0
    intro z
    exact h (by grind)
/-- over a square and a number -/
theorem Ra.sq (a w : Rat) (U : PS) (h : a * a + w ≠ 0) : Ra a U (PS.X * PS.X + PS.C w) 0 := by
  refine Ra.none ?_
  have e : (PS.X * PS.X + PS.C w : PS) = (PS.X - PS.C 0) * (PS.X - PS.C 0) + PS.C w := by rw [PS.C_zero]; grind
  have pl : Pl (PS.X - PS.C 0) := Pl.X.sub (Pl.C 0)
  rw [e, tsP_add a (pl.mul pl) (Pl.C w), tsP_mul' a pl pl, tsP_lin, tsP_C, PS.add_f, head_mul, PS.add_f]
  show ((0 : Rat) + (a - 0)) * (0 + (a - 0)) + w ≠ 0
  intro z
  exact h (by grind)
/-- a polynomial -/
theorem Ra.pol (a : Rat) (A : PS) : Ra a A 1 0 := Ra.none (by rw [tsP_one]; show (1 : Rat) ≠ 0; decide)
/-- of equal quotients -/
theorem Ra.eq {a : Rat} {A B A' B' : PS} {x y : Rat} (pA : Pl A) (pB : Pl B) (pA' : Pl A') (pB' : Pl B') (h : Ra a A B x) (h' : Ra a A' B' y) (e : A * B' = A' * B) : x = y := by
  refine Lc.eq h h' ?_
  rw [← tsP_mul' a pA pB', ← tsP_mul' a pA' pB, e]
/-! ### at the far end -/
/-- the number of 1 / x at the far end of A over B -/
def Rf (A B : PS) (x : Rat) : Prop := ∃ N, Lt A (N + 1) ∧ Lt B (N + 1) ∧ Lc (rv A N) (rv B N) 1 x
theorem Rf.add {A B U D : PS} {x y : Rat} (h : Rf A B x) (k : Rf U D y) : Rf (A * D + U * B) (B * D) (x + y) := by
  obtain ⟨M, a1, a2, h⟩ := h
  obtain ⟨N, b1, b2, k⟩ := k
  refine ⟨M + N, (a1.mul' b2 (by omega)).add (b1.mul' a2 (by omega)), a2.mul' b2 (by omega), ?_⟩
  have := Lc.add h k
  rw [rv_add, rv_mul b2 M a1, rv_mul b2 M a2, show M + N = N + M by omega, rv_mul a2 N b1]
  exact this
theorem Rf.eq {A B A' B' : PS} {x y : Rat} (h : Rf A B x) (h' : Rf A' B' y) (e : A * B' = A' * B) : x = y := by
  obtain ⟨M, a1, a2, h⟩ := h
  obtain ⟨N, b1, b2, k⟩ := h'
  refine Lc.eq h k ?_
  rw [← rv_mul b2 M a1, ← rv_mul a2 N b1, e, show M + N = N + M by omega]
theorem rv_pow {p : PS} (hp : Lt p 2) : ∀ t : Nat, Lt (p ^ t) (t + 1) ∧ rv (p ^ t) t = rv p 1 ^ t
  | 0 => by
    refine ⟨by rw [show (p ^ 0 : PS) = 1 by grind]; exact Lt.one, ?_⟩
    rw [show (p ^ 0 : PS) = 1 by grind, show (rv p 1 ^ 0 : PS) = 1 by grind]
    refine PS.ext (funext fun i => ?_)
    rw [rv_f]
    by_cases h : i ≤ 0
    · rw [if_pos h, show i = 0 by omega]
    · rw [if_neg h]
      exact (Lt.one i (by omega)).symm
  | t + 1 => by
    obtain ⟨h1, h2⟩ := rv_pow hp t
    rw [show (p ^ (t + 1) : PS) = p ^ t * p by grind]
    exact ⟨h1.mul' hp (by omega), by rw [rv_mul hp t h1, h2]; grind⟩
theorem rv_C (u : Rat) (N : Nat) : rv (PS.C u) N = PS.C u * PS.X ^ N := PS.ext (funext fun i => by
  rw [rv_f, PS.C_mul, Xpow_f]
  show (if i ≤ N then (if N - i = 0 then u else 0) else 0) = _
  by_cases h : i = N
  · rw [if_pos (by omega), if_pos (by omega), if_pos h]; grind
  · rw [if_neg h]
    by_cases h2 : i ≤ N
    · rw [if_pos h2, if_neg (by omega)]; grind
    · rw [if_neg h2]; grind)
theorem dvs_head {t b : PS} : (dvs t b).f 0 = t.f 0 * (b.f 0)⁻¹ := rfl
theorem Rf.lin (r u : Rat) (t : Nat) (ht : 1 ≤ t) : Rf (PS.C u) ((PS.X - PS.C r) ^ t) (if t = 1 then u else 0) := by
  have lp : Lt (PS.X - PS.C r) 2 := (Xpow_lt 1 |> fun h => by rwa [show (PS.X ^ 1 : PS) = PS.X by grind] at h : Lt PS.X 2).sub ((Lt.C r).mono (by decide))
  obtain ⟨h1, h2⟩ := rv_pow lp t
  refine ⟨t, (Lt.C u).mono (by omega), h1, ?_⟩
  rw [h2, rv_C]
  have hh : (rv (PS.X - PS.C r) 1).f 0 = 1 := by
    rw [rv_f, if_pos (by omega), PS.sub_f]
    show (1 : Rat) - 0 = 1
    grind
  have b0 : (rv (PS.X - PS.C r) 1 ^ t).f 0 = 1 := by
    rw [head_pow, hh]
    clear h2 h1
    induction t with
    | zero => omega
    | succ t ih =>
      by_cases z : t = 0
      · subst z; rw [Rat.pow_succ, Rat.pow_zero]; grind
      · rw [Rat.pow_succ, ih (by omega)]; grind
  have bn : (rv (PS.X - PS.C r) 1 ^ t).f 0 ≠ 0 := by rw [b0]; decide
  refine ⟨0, rv (PS.X - PS.C r) 1 ^ t, PS.X ^ t * dvs (PS.C u) (rv (PS.X - PS.C r) 1 ^ t), by grind, bn, ?_, ?_⟩
  · rw [show (PS.X ^ t * dvs (PS.C u) (rv (PS.X - PS.C r) 1 ^ t) * rv (PS.X - PS.C r) 1 ^ t : PS) = PS.X ^ t * (dvs (PS.C u) (rv (PS.X - PS.C r) 1 ^ t) * rv (PS.X - PS.C r) 1 ^ t) by grind, dvs_mul bn]
    grind
  · rw [Xpow_mul]
    by_cases z : t = 1
    · rw [if_pos z, if_pos (by omega), if_pos (by omega)]
      have : (1 + ((0 : Nat) : Int)).toNat - t = 0 := by omega
      rw [this, dvs_head, b0]
      show u = u * 1⁻¹
      grind
    · rw [if_neg z, if_pos (by omega), if_neg (by omega)]
end AW

/-! AwK42f: the law of orders. -/
namespace AW
open PySem PySem.Spec PyProof.Rows
section
variable {G : Nat → D} {c : Nat → List Sl → R (D × Bool)} {T : List Fn} {nm : Nm}
end
end AW

/-! AwK32b: the drawn rows, what is due, the law. -/
namespace AW
open PySem PySem.Spec PyProof.Rows
section
variable {G : Nat → D} {c : Nat → List Sl → R (D × Bool)} {T : List Fn} {nm : Nm}
end
end AW

/-! AwK21: quotients reckoned with. -/
namespace AW
open PySem PySem.Spec PyProof.Rows
/-! ### data of quotients -/
open Classical in
open Classical in
/-- a proper quotient -/
structure Qt (n m h k : Nat) (q : PS × PS) : Prop where
  top : Z n h q.1
  bot : Z m k q.2
  cop : Cop q.1 q.2
  mn : ∃ d, Mn q.2 d
theorem Qt.ne {n m h k : Nat} {q : PS × PS} (x : Qt n m h k q) : q.2 ≠ 0 := by
  obtain ⟨d, hd⟩ := x.mn
  exact hd.dg.ne
theorem Mn.eq_one {u : PS} (h : Mn u 0) : u = 1 := PS.ext (funext fun n => by
  by_cases z : n = 0
  · subst z
    rw [h.2]
    rfl
  · rw [h.1 n (by omega), Mn.one.1 n (by omega)])
/-- a quotient that is nought -/
theorem Qt.zero {n m h k : Nat} {q : PS × PS} (x : Qt n m h k q) (h0 : q.1 = 0) : q = (0, 1) := by
  obtain ⟨d, hd⟩ := x.mn
  have e : q.2 = 1 := by
    obtain ⟨u, v, pu, pv, e⟩ := x.cop
    rw [h0] at e
    have e : v * q.2 = 1 := by rw [← e]; grind
    by_cases v0 : v = 0
    · rw [v0] at e
      exact absurd e.symm (by intro z; have := congrArg (fun s : PS => s.f 0) z; revert this; show ¬ ((1 : Rat) = ((0 : PS) * q.2).f 0); rw [show (0 : PS) * q.2 = 0 by grind, PS.zero_f]; decide +kernel)
    · obtain ⟨m, dm⟩ := pv.dg v0
      have := dm.mul hd.dg
      rw [e] at this
      have hz := this.uniq (Mn.one.dg)
      have hd0 : d = 0 := by omega
      subst hd0
      exact Mn.eq_one hd
  exact Prod.ext h0 e
theorem Qt.of {a b : PS} {m n ha h l : Nat} (za : Z m ha a) (zb : Z n h b) (b0 : b ≠ 0) (hl : n + 2 ≤ 2 ^ l ∧ m ≤ 2 ^ l) : Qt m n (ha + db n h l + l + (m + n) * (h + 1)) (db n h l) (qc a b) := by
  obtain ⟨w2, w1⟩ := qc_z za zb b0 hl
  obtain ⟨h1, h2, h3, h4⟩ := qc_is za.pl zb.pl b0
  exact ⟨w1, w2, h1, h3⟩
theorem Qt.mono {n m h k n' m' h' k' : Nat} {q : PS × PS} (x : Qt n m h k q) (l1 : n ≤ n') (l2 : m ≤ m') (l3 : h ≤ h') (l4 : k ≤ k') : Qt n' m' h' k' q := ⟨x.top.mono l1 l3, x.bot.mono l2 l4, x.cop, x.mn⟩
section
variable {G : Nat → D} {c : Nat → List Sl → R (D × Bool)} {T : List Fn} {nm : Nm}
/-! ### the program -/
theorem fr_m1 : PyData.tuple [.int (-1), .int 1] = fr (-1) := rfl
structure SpQT (c : Nat → List Sl → R (D × Bool)) (j : Nat) : Prop where
  ne : ∀ q : PS × PS, Pl q.1 → Pl q.2 → Z 13 9500 q.1 → Z 13 9500 q.2 → q.1 ≠ 0 → c j [.va (qd q)] = va (qd (qc q.2 q.1))
  no : c j [.va (qd (0, 1))] = .ex 2
/-! ### the law's own -/
end
end AW

/-! AwK44c: simple fractions drawn, and summed. -/
namespace AW
open PySem PySem.Spec PyProof.Rows
theorem Rf.pol {A : PS} {n : Nat} (h : Lt A (n + 1)) : Rf A 1 0 := by
  refine ⟨n, h, Lt.one.mono (by omega), ?_⟩
  have e : rv 1 n = PS.X ^ n := by rw [← PS.C_one, rv_C, PS.C_one]; grind
  rw [e]
  refine ⟨n, 1, rv A n, by grind, by show (1 : Rat) ≠ 0; decide, by grind, ?_⟩
  rw [if_pos (by omega), rv_f, if_neg (by omega)]
theorem Rf.sq (c0 c1 w : Rat) : Rf (PS.C c0 + PS.X * PS.C c1) (PS.X * PS.X + PS.C w) c1 := by
  have lX : Lt PS.X 2 := by
    have := Xpow_lt 1
    rwa [show (PS.X ^ 1 : PS) = PS.X by grind] at this
  have eA : rv (PS.C c0 + PS.X * PS.C c1) 2 = PS.X ^ 1 * (PS.C c1 + PS.X * PS.C c0) := by
    rw [rv_add, rv_X, rv_C, rv_C]
    grind
  have eB : rv (PS.X * PS.X + PS.C w) 2 = PS.C 1 + PS.X * (PS.X * PS.C w) := by
    have h1 : rv (PS.X * PS.X) 2 = PS.C 1 := by
      rw [rv_X, show (PS.X : PS) = PS.X * PS.C 1 by rw [PS.C_one]; grind, rv_X, rv_C]
      grind
    rw [rv_add, h1, rv_C]
    grind
  refine ⟨2, ((Lt.C c0).mono (by decide)).add (Lt.X_mul (Lt.C c1) |>.mono (by decide)), (lX.mul' lX (by decide)).add ((Lt.C w).mono (by decide)), ?_⟩
  rw [eA, eB]
  have hb : (PS.C 1 + PS.X * (PS.X * PS.C w)).f 0 ≠ 0 := by
    rw [PS.add_f, PS.X_mul]
    show (1 : Rat) + 0 ≠ 0
    decide +kernel
  have hb1 : (PS.C 1 + PS.X * (PS.X * PS.C w)).f 0 = 1 := by
    rw [PS.add_f, PS.X_mul]
    show (1 : Rat) + 0 = 1
    grind
  refine ⟨0, PS.C 1 + PS.X * (PS.X * PS.C w), PS.X ^ 1 * dvs (PS.C c1 + PS.X * PS.C c0) (PS.C 1 + PS.X * (PS.X * PS.C w)), by grind, hb, ?_, ?_⟩
  · rw [show (PS.X ^ 1 * dvs (PS.C c1 + PS.X * PS.C c0) (PS.C 1 + PS.X * (PS.X * PS.C w)) * (PS.C 1 + PS.X * (PS.X * PS.C w)) : PS) = PS.X ^ 1 * (dvs (PS.C c1 + PS.X * PS.C c0) (PS.C 1 + PS.X * (PS.X * PS.C w)) * (PS.C 1 + PS.X * (PS.X * PS.C w))) by grind, dvs_mul hb]
  · rw [Xpow_mul, if_pos (by omega), if_pos (by omega)]
    have : (1 + ((0 : Nat) : Int)).toNat - 1 = 0 := by omega
    rw [this, dvs_head, hb1, PS.add_f, PS.X_mul]
    show c1 = (c1 + 0) * 1⁻¹
    grind
/-! ### a top over a piece so often -/
section
variable {G : Nat → D} {c : Nat → List Sl → R (D × Bool)} {T : List Fn} {nm : Nm}
theorem hbpow {B : PS} {h : Nat} (zB : Z 3 h B) : ∀ t, t ≤ 3 → Z (2 * t + 1) ((h + 3) * t) (B ^ t)
  | 0, _ => by
    rw [show (B ^ 0 : PS) = 1 by grind]
    exact Z.one _ _ (by decide)
  | t + 1, hle => by
    rw [show (B ^ (t + 1) : PS) = B ^ t * B by grind]
    exact ((hbpow zB t (by omega)).mul zB (l := 3) (by omega)).mono (by omega) (by rw [Nat.mul_add]; omega)
/-! ### the sum made -/
/-- what is made of i simple fractions: unreduced A over B -/
structure Md (i : Nat) (m : PS × PS) (A B : PS) : Prop where
  eq : m = qc A B
  zA : Z (3 * i + 3) (15 + 66 * i + 26 * (i * i)) A
  zB : Z (3 * i + 1) (58 * i) B
  nB : B ≠ 0
theorem Md.qt {i : Nat} {m : PS × PS} {A B : PS} (h : Md i m A B) (hi : i ≤ 4) : Qt 15 13 13700 6450 m := by
  have a : Z 15 700 A := h.zA.mono (by omega) (by
    have : i * i ≤ 4 * 4 := Nat.mul_le_mul hi hi
    omega)
  have b : Z 13 232 B := h.zB.mono (by omega) (by omega)
  rw [h.eq]
  exact (Qt.of a b h.nB (l := 4) (by decide)).mono (by decide) (by decide) (by unfold db; decide) (by unfold db; decide)
theorem Md.step {i : Nat} {m : PS × PS} {A B U Dn : PS} {js : Nat} (hs : SpQSum c js) (h : Md i m A B) (hi : i ≤ 3) (zU : Z 2 10 U) (zD : Z 4 54 Dn) (nD : Dn ≠ 0) :
    ∃ m', c js [.va (qd m), .va (qd (qc U Dn))] = va (qd m') ∧ Md (i + 1) m' (A * Dn + U * B) (B * Dn) := by
  have hm := h.qt (by omega)
  have hf : Qt 2 4 880 600 (qc U Dn) := (Qt.of zU zD nD (l := 3) (by decide)).mono (by decide) (by decide) (by unfold db; decide) (by unfold db; decide)
  have e1 := hs m (qc U Dn) 15 13 13700 6450 2 4 880 600 7 18 16 hm.top hm.bot hf.top hf.bot hm.ne hf.ne (by unfold QuotOk ComOk cb; decide)
  refine ⟨_, e1, ?_, ?_, ?_, Pl.mul_ne h.zB.pl zD.pl h.nB nD⟩
  · have i1 := qc_is h.zA.pl h.zB.pl h.nB
    have i2 := qc_is zU.pl zD.pl nD
    rw [← h.eq] at i1
    obtain ⟨_, _, _, x1⟩ := i1
    obtain ⟨_, _, _, x2⟩ := i2
    refine qc_eq ((hm.top.pl.mul hf.bot.pl).add (hf.top.pl.mul hm.bot.pl)) (hm.bot.pl.mul hf.bot.pl) ((h.zA.pl.mul zD.pl).add (zU.pl.mul h.zB.pl)) (h.zB.pl.mul zD.pl) (Pl.mul_ne hm.bot.pl hf.bot.pl hm.ne hf.ne) (Pl.mul_ne h.zB.pl zD.pl h.nB nD) ?_
    generalize qc U Dn = f at *
    have y1 : (m.1 * f.2 + f.1 * m.2) * (B * Dn) = (m.1 * B) * (f.2 * Dn) + (f.1 * Dn) * (m.2 * B) := by grind
    rw [y1, x1, x2]
    grind
  · have z1 := h.zA.mul zD (l := 4) (by omega)
    have z2 := zU.mul h.zB (l := 1) (by decide)
    have e : (i + 1) * (i + 1) = i * i + 2 * i + 1 := by rw [Nat.add_mul, Nat.mul_add]; omega
    exact (z1.add z2).mono (by omega) (by rw [e]; omega)
  · exact (h.zB.mul zD (l := 4) (by omega)).mono (by omega) (by omega)
end
end AW

/-! AwK44d: a dict of fractions by fractions. -/
namespace AW
open PySem PySem.Spec PyProof.Rows
theorem nk_inj {a b : Rat} : nk (fr a) = nk (fr b) ↔ a = b := by
  constructor
  · intro h
    have h : NestedKey.tup [.num a.num, .num (a.den : Int)] = .tup [.num b.num, .num (b.den : Int)] := h
    injection h with h
    injection h with h1 h2
    injection h2 with h2 _
    injection h1 with h1
    injection h2 with h2
    exact Rat.ext h1 (by omega)
  · rintro rfl
    rfl
def lkv (K : List (Rat × Rat)) (a : Rat) : Option Rat := (K.find? fun x => decide (x.1 = a)).map (·.2)
def pt (K : List (Rat × Rat)) (a v : Rat) : List (Rat × Rat) := if (lkv K a).isSome then K.map (fun x => if x.1 = a then (x.1, v) else x) else K ++ [(a, v)]
def kv (K : List (Rat × Rat)) (a : Rat) : Rat := (lkv K a).getD 0
def tot (K : List (Rat × Rat)) : Rat := (K.map (·.2)).foldl (· + ·) 0
theorem lkv_cons (x : Rat × Rat) (K : List (Rat × Rat)) (a : Rat) : lkv (x :: K) a = if x.1 = a then some x.2 else lkv K a := by
  unfold lkv
  rw [List.find?_cons]
  by_cases h : x.1 = a
  · simp [h]
  · simp [h]
theorem lkv_map (a v b : Rat) : ∀ K : List (Rat × Rat), lkv (K.map fun x => if x.1 = a then (x.1, v) else x) b = if b = a then (lkv K a).map (fun _ => v) else lkv K b
  | [] => by
    by_cases h : b = a
    · rw [if_pos h]; rfl
    · rw [if_neg h]; rfl
  | x :: K => by
    have ih := lkv_map a v b K
    rw [List.map_cons, lkv_cons, lkv_cons, lkv_cons, ih]
    by_cases h : x.1 = a
    · rw [if_pos h]
      by_cases hb : b = a
      · subst hb
        rw [if_pos h, if_pos rfl, if_pos h]
        rfl
      · rw [if_neg hb, if_neg hb, if_neg (fun z => hb (z.symm.trans h)), if_neg (fun z => hb (z.symm.trans h))]
    · rw [if_neg h]
      by_cases hb : b = a
      · subst hb
        rw [if_neg h, if_pos rfl, if_pos rfl, if_neg h]
      · rw [if_neg hb, if_neg hb]
theorem lkv_snoc (a v b : Rat) : ∀ K : List (Rat × Rat), lkv K a = none → lkv (K ++ [(a, v)]) b = if b = a then some v else lkv K b
  | [], _ => by
    show lkv ((a, v) :: []) b = _
    rw [lkv_cons]
    by_cases h : b = a
    · rw [if_pos h.symm, if_pos h]
    · rw [if_neg (fun z => h z.symm), if_neg h]
  | x :: K, hn => by
    rw [lkv_cons] at hn
    by_cases h : x.1 = a
    · rw [if_pos h] at hn; cases hn
    · rw [if_neg h] at hn
      have ih := lkv_snoc a v b K hn
      show lkv (x :: (K ++ [(a, v)])) b = _
      rw [lkv_cons, lkv_cons, ih]
      by_cases hb : b = a
      · subst hb
        rw [if_neg h, if_pos rfl, if_pos rfl]
      · rw [if_neg hb, if_neg hb]
theorem kv_pt (K : List (Rat × Rat)) (a v b : Rat) : kv (pt K a v) b = if b = a then v else kv K b := by
  unfold kv pt
  cases h : lkv K a with
  | none =>
    rw [if_neg (by simp), lkv_snoc a v b K h]
    by_cases hb : b = a
    · rw [if_pos hb, if_pos hb]; rfl
    · rw [if_neg hb, if_neg hb]
  | some w =>
    rw [if_pos (show (some w).isSome = true from rfl), lkv_map]
    by_cases hb : b = a
    · rw [if_pos hb, if_pos hb, h]; rfl
    · rw [if_neg hb, if_neg hb]
theorem lkv_none {a : Rat} : ∀ {K : List (Rat × Rat)}, lkv K a = none → a ∉ K.map (·.1)
  | [], _ => by simp
  | x :: K, h => by
    rw [lkv_cons] at h
    by_cases e : x.1 = a
    · rw [if_pos e] at h; cases h
    · rw [if_neg e] at h
      rw [List.map_cons, List.mem_cons, not_or]
      exact ⟨fun z => e z.symm, lkv_none h⟩
theorem foldl_add : ∀ (L : List Rat) (x : Rat), L.foldl (· + ·) x = x + L.foldl (· + ·) 0
  | [], x => by show x = x + 0; grind
  | y :: L, x => by
    show L.foldl (· + ·) (x + y) = x + L.foldl (· + ·) (0 + y)
    rw [foldl_add L (x + y), foldl_add L (0 + y)]
    grind
theorem tot_cons (x : Rat × Rat) (K : List (Rat × Rat)) : tot (x :: K) = x.2 + tot K := by
  show (K.map (·.2)).foldl (· + ·) (0 + x.2) = _
  rw [foldl_add, show 0 + x.2 = x.2 by grind]
  rfl
theorem map_same {a v : Rat} : ∀ {K : List (Rat × Rat)}, a ∉ K.map (·.1) → (K.map fun x => if x.1 = a then (x.1, v) else x) = K
  | [], _ => rfl
  | x :: K, h => by
    rw [List.map_cons, List.mem_cons, not_or] at h
    rw [List.map_cons, if_neg (fun z => h.1 z.symm), map_same h.2]
theorem tot_map {a v w : Rat} : ∀ {K : List (Rat × Rat)}, (K.map (·.1)).Nodup → lkv K a = some w → tot (K.map fun x => if x.1 = a then (x.1, v) else x) = tot K - w + v
  | [], _, h => by cases h
  | x :: K, hn, h => by
    rw [List.map_cons, List.nodup_cons] at hn
    rw [lkv_cons] at h
    rw [List.map_cons, tot_cons, tot_cons]
    by_cases e : x.1 = a
    · rw [if_pos e] at h ⊢
      cases h
      rw [map_same (by rw [← e]; exact hn.1)]
      show v + tot K = x.2 + tot K - x.2 + v
      grind
    · rw [if_neg e] at h ⊢
      rw [tot_map hn.2 h]
      grind
theorem tot_snoc (x : Rat × Rat) : ∀ K : List (Rat × Rat), tot (K ++ [x]) = tot K + x.2
  | [] => by
    show tot (x :: []) = _
    rw [tot_cons]
    show x.2 + 0 = 0 + x.2
    grind
  | y :: K => by
    show tot (y :: (K ++ [x])) = _
    rw [tot_cons, tot_cons, tot_snoc x K]
    grind
theorem tot_pt {K : List (Rat × Rat)} (hn : (K.map (·.1)).Nodup) (a u : Rat) : tot (pt K a (kv K a + u)) = tot K + u := by
  unfold pt kv
  cases h : lkv K a with
  | none =>
    rw [if_neg (by simp), tot_snoc]
    show tot K + (0 + u) = _
    grind
  | some w =>
    rw [if_pos (show (some w).isSome = true from rfl), tot_map hn h]
    show tot K - w + (w + u) = _
    grind
theorem pt_nodup {K : List (Rat × Rat)} (hn : (K.map (·.1)).Nodup) (a v : Rat) : ((pt K a v).map (·.1)).Nodup := by
  unfold pt
  cases h : lkv K a with
  | none =>
    rw [if_neg (by simp), List.map_append]
    refine List.nodup_append.mpr ⟨hn, by simp, fun x hx y hy z => ?_⟩
    simp at hy
    subst hy
    subst z
    exact lkv_none h hx
  | some w =>
    rw [if_pos (show (some w).isSome = true from rfl), List.map_map]
    have : (K.map ((fun x : Rat × Rat => x.1) ∘ fun x => if x.1 = a then (x.1, v) else x)) = K.map (·.1) := List.map_congr_left fun x _ => by
      show (if x.1 = a then (x.1, v) else x).1 = x.1
      by_cases e : x.1 = a
      · rw [if_pos e]
      · rw [if_neg e]
    rw [this]
    exact hn
end AW

/-! AwK44e: what is kept while the quotient is made; its residues. -/
namespace AW
open PySem PySem.Spec PyProof.Rows
theorem Lc.nought {B : PS} {n : Int} {x : Rat} (h : Lc 0 B n x) : x = 0 := by
  obtain ⟨k, b, W, _, b0, hW, rfl⟩ := h
  have : W = 0 := mul_zero_of b0 hW
  rw [this]
  split
  · exact PS.zero_f _
  · rfl
/-- all that is kept: i simple fractions made, their numbers in K, w what came beside at the far end -/
structure Kp (i : Nat) (m : PS × PS) (K : List (Rat × Rat)) (w : Rat) : Prop where
  ex : ∃ A B, Md i m A B ∧ (∀ a, Bd 2 a → Ra a A B (kv K a)) ∧ Rf A B (tot K + w)
  nd : (K.map (·.1)).Nodup
theorem Kp.start {A : PS} (zA : Z 3 15 A) : Kp 0 (qc A 1) [] 0 := by
  refine ⟨⟨A, 1, ⟨rfl, zA, Z.one _ _ (by decide), Mn.one.dg.ne⟩, fun a _ => Ra.pol a A, ?_⟩, List.nodup_nil⟩
  have := Rf.pol (n := 2) zA.lt
  rw [show tot [] + 0 = (0 : Rat) by show (0 : Rat) + 0 = 0; grind]
  exact this
theorem ser_lin (r : Rat) : ser [-r, 1] = PS.X - PS.C r := by
  show PS.C (-r) + PS.X * (PS.C 1 + PS.X * 0) = _
  rw [PS.C_one, PS.C_neg]
  grind
theorem lin_pl (r : Rat) : Lt (PS.X - PS.C r) 2 ∧ PS.X - PS.C r ≠ 0 := by
  have h := lt_ser [-r, 1]
  rw [ser_lin] at h
  refine ⟨h, fun z => ?_⟩
  have h1 : (PS.X - PS.C r).f 1 = 1 := by
    rw [PS.sub_f]
    show (1 : Rat) - 0 = 1
    grind
  rw [z, PS.zero_f] at h1
  exact absurd h1 (by decide)
theorem pw_ne {p : PS} (pp : Pl p) (h : p ≠ 0) : ∀ n : Nat, p ^ n ≠ 0
  | 0 => by
    rw [show (p ^ 0 : PS) = 1 by grind]
    exact Mn.one.dg.ne
  | n + 1 => by
    rw [show (p ^ (n + 1) : PS) = p ^ n * p by grind]
    exact Pl.mul_ne (pp.pow n) pp (pw_ne pp h n) h
section
variable {G : Nat → D} {c : Nat → List Sl → R (D × Bool)} {T : List Fn} {nm : Nm}
theorem Kp.lin {i : Nat} {m : PS × PS} {K : List (Rat × Rat)} {w r u : Rat} {t js : Nat} (hs : SpQSum c js) (h : Kp i m K w) (hi : i ≤ 3) (hr : Bd 2 r) (hu : Bd 4 u) (t1 : 1 ≤ t) (t3 : t ≤ 3) :
    ∃ m', c js [.va (qd m), .va (qd (qc (PS.C u) ((PS.X - PS.C r) ^ t)))] = va (qd m') ∧ Kp (i + 1) m' (if t = 1 then pt K r (kv K r + u) else K) w := by
  obtain ⟨⟨A, B, md, ra, rf⟩, nd⟩ := h
  obtain ⟨lp, ln⟩ := lin_pl r
  have zp : Z 3 15 (PS.X - PS.C r) := by
    rw [← ser_lin]
    refine ⟨(lt_ser _).mono (by show 2 ≤ 3; decide), (Hb.ser (b := 4) fun y hy => ?_).mono (by show 2 * (4 + 1) ≤ 15; decide)⟩
    simp only [List.mem_cons, List.not_mem_nil, or_false] at hy
    rcases hy with rfl | rfl
    · exact ⟨by rw [Rat.neg_num, Int.natAbs_neg]; exact Nat.le_trans hr.1 (by decide), by rw [Rat.neg_den]; exact Nat.le_trans hr.2 (by decide)⟩
    · exact Bd.one 4
  have zD : Z 4 54 ((PS.X - PS.C r) ^ t) := ⟨(rv_pow lp t).1.mono (by omega), (hbpow zp t t3).hb.mono (by omega)⟩
  have zU : Z 2 10 (PS.C u) := (Z.C hu).mono (by decide) (by decide)
  have nD := pw_ne zp.pl ln t
  obtain ⟨m', e1, md'⟩ := md.step hs hi zU zD nD
  refine ⟨m', e1, ⟨_, _, md', fun a ha => ?_, ?_⟩, ?_⟩
  · have := (ra a ha).add md.zA.pl md.zB.pl zU.pl zD.pl (Ra.lin a r u t t1)
    by_cases h1 : t = 1
    · rw [if_pos h1, kv_pt]
      by_cases h2 : a = r
      · rw [if_pos ⟨h2, h1⟩] at this
        rw [if_pos h2]
        rw [h2] at this ⊢
        exact this
      · rw [if_neg (fun z => h2 z.1), show kv K a + 0 = kv K a by grind] at this
        rw [if_neg h2]
        exact this
    · rw [if_neg (fun z => h1 z.2), show kv K a + 0 = kv K a by grind] at this
      rw [if_neg h1]
      exact this
  · have := rf.add (Rf.lin r u t t1)
    by_cases h1 : t = 1
    · rw [if_pos h1] at this ⊢
      rw [tot_pt nd, show tot K + u + w = tot K + w + u by grind]
      exact this
    · rw [if_neg h1, show tot K + w + 0 = tot K + w by grind] at this
      rw [if_neg h1]
      exact this
  · by_cases h1 : t = 1
    · rw [if_pos h1]; exact pt_nodup nd _ _
    · rw [if_neg h1]; exact nd
theorem sq_ne {a : Rat} (ha : Bd 2 a) : a * a + (-2) ≠ 0 := fun z => by
  have e1 : a * a = 2 := by grind
  have hd := a.den_nz
  have e2 : (a.num : Rat) = a * (a.den : Rat) := by
    have := Rat.num_divInt_den a
    rw [Rat.divInt_eq_div] at this
    have hne : ((a.den : Int) : Rat) ≠ 0 := int_ne (by omega)
    have h3 : (a.num : Rat) / ((a.den : Int) : Rat) * ((a.den : Int) : Rat) = (a.num : Rat) := by grind
    rw [this] at h3
    rw [← h3]
    rfl
  have e3 : (a.num : Rat) * (a.num : Rat) = 2 * ((a.den : Rat) * (a.den : Rat)) := by
    rw [e2]
    have : a * (a.den : Rat) * (a * (a.den : Rat)) = a * a * ((a.den : Rat) * (a.den : Rat)) := by grind
    rw [this, e1]
  have e4 : a.num * a.num = 2 * ((a.den : Int) * (a.den : Int)) := by
    have : ((a.num * a.num : Int) : Rat) = ((2 * ((a.den : Int) * (a.den : Int)) : Int) : Rat) := by
      push_cast
      exact e3
    exact Rat.intCast_inj.mp this
  have h1 := ha.1
  have h2 := ha.2
  have hn : -4 ≤ a.num ∧ a.num ≤ 4 := by
    have : a.num.natAbs ≤ 4 := h1
    omega
  have hdd : a.den ≤ 4 := h2
  generalize a.num = n at *
  generalize a.den = d at *
  have hd' : d = 1 ∨ d = 2 ∨ d = 3 ∨ d = 4 := by omega
  have hn' : n = -4 ∨ n = -3 ∨ n = -2 ∨ n = -1 ∨ n = 0 ∨ n = 1 ∨ n = 2 ∨ n = 3 ∨ n = 4 := by omega
  rcases hd' with rfl | rfl | rfl | rfl <;> rcases hn' with rfl | rfl | rfl | rfl | rfl | rfl | rfl | rfl | rfl <;> revert e4 <;> decide
theorem sq_ne1 (a : Rat) : a * a + 1 ≠ 0 := fun z => by
  have h : (0 : Rat) ≤ a * a := by
    by_cases h0 : 0 ≤ a
    · exact Rat.mul_nonneg h0 h0
    · have h1 : 0 ≤ -a := by grind
      have := Rat.mul_nonneg h1 h1
      have e : -a * -a = a * a := by grind
      rw [e] at this
      exact this
  grind
theorem Kp.sq {i : Nat} {m : PS × PS} {K : List (Rat × Rat)} {c0 c1 w : Rat} {js : Nat} (hs : SpQSum c js) (h : Kp i m K 0) (hi : i ≤ 3) (h0 : Bd 4 c0) (h1 : Bd 4 c1) (hw : w = 1 ∨ w = -2) :
    ∃ m', c js [.va (qd m), .va (qd (qc (ser [c0, c1]) (ser [w, 0, 1] ^ 1)))] = va (qd m') ∧ Kp (i + 1) m' K c1 := by
  obtain ⟨⟨A, B, md, ra, rf⟩, nd⟩ := h
  have eU : ser [c0, c1] = PS.C c0 + PS.X * PS.C c1 := by
    show PS.C c0 + PS.X * (PS.C c1 + PS.X * 0) = _
    grind
  have eD : (ser [w, 0, 1] ^ 1 : PS) = PS.X * PS.X + PS.C w := by
    have : ser [w, 0, 1] = PS.C w + PS.X * (PS.C 0 + PS.X * (PS.C 1 + PS.X * 0)) := rfl
    rw [this, PS.C_zero, PS.C_one]
    grind
  have zU : Z 2 10 (ser [c0, c1]) := ⟨lt_ser _, (Hb.ser (b := 4) fun y hy => by
    simp only [List.mem_cons, List.not_mem_nil, or_false] at hy
    rcases hy with rfl | rfl
    · exact h0
    · exact h1).mono (by show 2 * (4 + 1) ≤ 10; decide)⟩
  have bw : Bd 4 w := by
    rcases hw with rfl | rfl
    · exact ⟨by decide +kernel, by decide +kernel⟩
    · exact ⟨by decide +kernel, by decide +kernel⟩
  have zD : Z 4 54 (ser [w, 0, 1] ^ 1) := by
    rw [show (ser [w, 0, 1] ^ 1 : PS) = ser [w, 0, 1] by grind]
    exact ⟨(lt_ser _).mono (by show 3 ≤ 4; decide), (Hb.ser (b := 4) fun y hy => by
      simp only [List.mem_cons, List.not_mem_nil, or_false] at hy
      rcases hy with rfl | rfl | rfl
      · exact bw
      · exact Bd.zero 4
      · exact Bd.one 4).mono (by show 3 * (4 + 1) ≤ 54; decide)⟩
  have nD : (ser [w, 0, 1] ^ 1 : PS) ≠ 0 := fun z => by
    have h2 : (ser [w, 0, 1] ^ 1 : PS).f 2 = 1 := by
      rw [show (ser [w, 0, 1] ^ 1 : PS) = ser [w, 0, 1] by grind, ser_f]
      rfl
    rw [z, PS.zero_f] at h2
    exact absurd h2 (by decide)
  obtain ⟨m', e1, md'⟩ := md.step hs hi zU zD nD
  refine ⟨m', e1, ⟨_, _, md', fun a ha => ?_, ?_⟩, nd⟩
  · have sq : Ra a (ser [c0, c1]) (ser [w, 0, 1] ^ 1) 0 := by
      rw [eD]
      refine Ra.sq a w _ ?_
      rcases hw with rfl | rfl
      · exact sq_ne1 a
      · exact sq_ne ha
    have := (ra a ha).add md.zA.pl md.zB.pl zU.pl zD.pl sq
    rw [show kv K a + 0 = kv K a by grind] at this
    exact this
  · have sq : Rf (ser [c0, c1]) (ser [w, 0, 1] ^ 1) c1 := by
      rw [eD, eU]
      exact Rf.sq c0 c1 w
    have := rf.add sq
    rw [show tot K + 0 + c1 = tot K + c1 by grind] at this
    exact this
end
end AW

/-! AwPrt2: simple parts, where the bits of all divisors are known. -/
namespace AW
open PySem PySem.Spec PyProof.Rows
section
variable {G : Nat → D} {c : Nat → List Sl → R (D × Bool)} {T : List Fn} {nm : Nm}
def SpParts2 (c : Nat → List Sl → R (D × Bool)) (j : Nat) : Prop := ∀ (p : PS) (N h l B : Nat), Z N h p → p ≠ 0 → (∀ g d, Mn g d → Dv g (mon p) → Hb B g) → h + l + 2 ≤ B → 4 * N + 2 ≤ 2 ^ l → N ≤ 1000 → ComOk N N ((N + 3) * (B + l + 1)) l → ∃ L, SP p L ∧ c j [.va (po p)] = .ok (.list (L.map pd), true)
theorem simple_parts_ok2 {e jm jl jc jo js jk jn : Nat} (hm : SpMon c jm) (hl : SpSlope c jl) (hc : SpCom c jc) (ho : SpOft c jo) (hs : SpSum c js) (hk : SpScaled c jk) (hn : SpNeg c jn) {p : PS} {N h l B : Nat} (zp : Z N h p) (p0 : p ≠ 0) (hdv : ∀ g d, Mn g d → Dv g (mon p) → Hb B g) (hBh : h + l + 2 ≤ B) (ol : 4 * N + 2 ≤ 2 ^ l) (oN : N ≤ 1000) (oc : ComOk N N ((N + 3) * (B + l + 1)) l) :
    ∃ L, SP p L ∧ bo G c T (b_simple_parts e jm jl jc jo js jk jn) [.va (po p)] 7 = .ok (.list (L.map pd), true) := by
  obtain ⟨oc1, oc2, oc3⟩ := oc
  have zm := zp.mon
  obtain ⟨n, dn⟩ := zp.pl.dg p0
  have hmn := mon_mn dn
  obtain ⟨F, gF, eF⟩ := good_ex n hmn
  obtain ⟨K, hK⟩ : ∃ K, ∀ z ∈ F, z.2 ≤ K := by
    clear eF gF
    induction F with
    | nil => exact ⟨0, fun z hz => by cases hz⟩
    | cons y F ih =>
      obtain ⟨K, hK⟩ := ih
      exact ⟨K + y.2, fun z hz => by
        rcases List.mem_cons.mp hz with rfl | hz
        · omega
        · have := hK z hz; omega⟩
  -- bits
  have nN := dn.lt zp.lt
  have hPe : (N + 3) * (B + l + 1) = N * (B + l + 1) + 3 * (B + l + 1) := Nat.add_mul _ _ _
  have hNB : N * (B + 1) ≤ N * (B + l + 1) := Nat.mul_le_mul_left _ (by omega)
  have hcb : (N + 3) * (B + l + 1) ≤ cb N N ((N + 3) * (B + l + 1)) l := by
    unfold cb
    have : 1 * ((N + 3) * (B + l + 1) + l) ≤ (N + N) * ((N + 3) * (B + l + 1) + l) := Nat.mul_le_mul_right _ (by omega)
    omega
  generalize hPP : (N + 3) * (B + l + 1) = P at *
  have hP4 : P + (N + N + 2) * (P + 1) ≤ 39000000 := by
    have := Nat.mul_le_mul_left (N + N + 2) (Nat.add_le_add_right hcb 1)
    omega
  have hPs : P ≤ 40000000 := by omega
  have hNP : (N + 2) * (B + 1) ≤ (N + N + 2) * (P + 1) := Nat.mul_le_mul (by omega) (by omega)
  have dvB : ∀ {g : PS} {d : Nat}, Mn g d → Dv g (Pw F) → Z N B g := fun {g d} hg hd => by
    rw [eF] at hd
    refine ⟨hg.1.mono (by have := hd.dg hg.dg hmn.dg; omega), ?_⟩
    exact hdv g d hg hd
  have gG : ∀ k, Good (Ge k F) := fun k => gF.filter _
  have gA : ∀ k, Good (At k F) := fun k => gF.filter _
  have zL : ∀ k, Z N B (Lp (Ge k F)) := fun k => by
    obtain ⟨d, hd⟩ := Lp_mn (gG k)
    exact dvB hd ((Lp_dv (gG k)).trans (Pw_filter_dv gF _))
  have zA : ∀ k, Z N B (Lp (At k F)) := fun k => by
    obtain ⟨d, hd⟩ := Lp_mn (gA k)
    exact dvB hd ((Lp_dv (gA k)).trans (Pw_filter_dv gF _))
  have zR2 : ∀ k, Z N (B + l + N * (B + 1)) (Rk k (Ge (k + 1) F)) := fun k => by
    have g2 := gG (k + 1)
    obtain ⟨e1, e2⟩ := der_Pm k (F := Ge (k + 1) F) fun z hz => by
      have := (List.mem_filter.mp hz).2
      simp at this
      omega
    obtain ⟨d1, hd1⟩ := Pm_mn k g2
    obtain ⟨d2, hd2⟩ := Pm_mn (k + 1) g2
    have z1 := dvB hd1 ((Pm_dv k g2).trans (Pw_filter_dv gF _))
    have z2 := dvB hd2 ((Pm_dv (k + 1) g2).trans (Pw_filter_dv gF _))
    have z3 := z1.der (l := l) (by omega)
    have q := (Z.div (z3.mono (n := N) (by omega) (Nat.le_refl _)) ⟨hd2.1, z2.hb⟩ hd2.dg).1
    have eq : quo (der (Pm k (Ge (k + 1) F))) (Pm (k + 1) (Ge (k + 1) F)) = Rk k (Ge (k + 1) F) := by
      rw [e1, show Pm (k + 1) (Ge (k + 1) F) * Rk k (Ge (k + 1) F) = Rk k (Ge (k + 1) F) * Pm (k + 1) (Ge (k + 1) F) by grind]
      exact (quo_mul hd2.dg.pl hd2.dg.ne (Rk_pl k g2)).1
    rw [eq] at q
    exact q.mono (by omega) (Nat.le_refl _)
  have zR : ∀ k, 1 ≤ k → Z N P (Rk k (Ge k F)) := fun k hk => by
    obtain ⟨e1, e2⟩ := split_at k (Ge k F)
    rw [at_ge, ov_ge] at e2 e1
    have h1 := (zA k).hb.mul (zR2 k).hb (zA k).lt (l := l) (by omega)
    refine ⟨?_, ?_⟩
    · -- the degree
      have ltR : ∀ A : List (PS × Nat), Good A → ∀ d, Mn (Lp A) d → Lt (Rk k A) d := fun A => by
        induction A with
        | nil => intro _ d _; exact Lt.zero _
        | cons y A ih =>
          rintro ⟨⟨m, h1⟩, _, _, _, h5⟩ d hd
          obtain ⟨n', hn'⟩ := Lp_mn h5
          have ed : d = m + 1 + n' := hd.dg.uniq (h1.mul hn').dg
          subst ed
          have i := ih h5 _ hn'
          show Lt (PS.C ((y.2 : Rat) - (k : Rat)) * der y.1 * Lp A + y.1 * Rk k A) _
          refine Lt.add ?_ (h1.1.mul' i (by omega))
          have : Lt (PS.C ((y.2 : Rat) - (k : Rat)) * der y.1) (m + 1) := h1.1.der.smul _
          exact this.mul' hn'.1 (by omega)
      obtain ⟨d, hd⟩ := Lp_mn (gG k)
      have := hd.dg.lt (zL k).lt
      exact (ltR _ (gG k) d hd).mono (by omega)
    · rw [e2]
      exact h1.mono (by omega)
  -- the beginning
  have s1 := hm p N h zp (by omega)
  have zd := zm.der (l := l) (by omega)
  have zd' : Z N (h + l) (der (mon p)) := zd.mono (by omega) (Nat.le_refl _)
  have s2 := hl.z zm (by omega)
  obtain ⟨f1, f2⟩ := der_Pm 0 (F := F) fun z hz => by have := (gF.mn z hz).2.2; omega
  rw [Pm_zero, eF] at f1 f2
  obtain ⟨dP, hdP⟩ := Pm_mn 1 gF
  have hw : gcd (mon p) (der (mon p)) = Pm 1 F := by
    rw [f1]
    conv => lhs; lhs; rw [f2]
    rw [show Lp F * Pm (0 + 1) F = Pm 1 F * Lp F by grind]
    exact gcd_mul (Lp_pl gF) (Rk_pl 0 gF) hdP (Rk_cop 0 gF fun z hz => by have := (gF.mn z hz).2.2; omega)
  have ok1 : ComOk N N (h + l) l := by
    refine ⟨oc1, oc2, ?_⟩
    have c1 : cb N N (h + l) l ≤ cb N N P l := Nat.mul_le_mul_left _ (by omega)
    have c2 := Nat.mul_le_mul_left (N + N + 2) (Nat.add_le_add_right c1 1)
    omega
  have s3 := hc (mon p) (der (mon p)) N N (h + l) l (zm.mono (Nat.le_refl _) (by omega)) zd' ok1
  rw [hw] at s3
  have zW : Z N B (Pm 1 F) := dvB hdP (Pm_dv 1 gF)
  have s4 := ho (mon p) (Pm 1 F) N N h B zm zW hdP.dg.ne ⟨by omega, by omega, by omega⟩
  have eL : quo (mon p) (Pm 1 F) = Lp F := by
    conv => lhs; lhs; rw [f2]
    exact (quo_mul hdP.dg.pl hdP.dg.ne (Lp_pl gF)).1
  rw [eL] at s4
  have s5 := ho (der (mon p)) (Pm 1 F) N N (h + l) B zd' zW hdP.dg.ne ⟨by omega, by omega, by omega⟩
  have eR : quo (der (mon p)) (Pm 1 F) = Rk 0 F := by
    conv => lhs; lhs; rw [f1]
    rw [show Pm (0 + 1) F * Rk 0 F = Rk 0 F * Pm 1 F by grind]
    exact (quo_mul hdP.dg.pl hdP.dg.ne (Rk_pl 0 gF)).1
  have zR0 : Z N (h + l + N * (B + 1)) (Rk 0 F) := by
    have q := (Z.div zd' ⟨hdP.1, zW.hb⟩ hdP.dg).1
    rw [eR] at q
    exact q.mono (by omega) (Nat.le_refl _)
  rw [eR] at s5
  have b1 : ∀ {h : Nat}, Bd h (-1) := fun {h} => ⟨by show 1 ≤ _; exact Nat.one_le_two_pow, by show 1 ≤ _; exact Nat.one_le_two_pow⟩
  have neg1 := hn 1
  have zLF : Z N B (Lp F) := by have := zL 1; rwa [ge_one gF] at this
  have step : ∀ {A R : PS} {n1 n2 : Nat}, Z N n1 A → Z N n2 R → n1 + l ≤ P → n2 ≤ P → c jl [.va (po A)] = va (po (der A)) ∧ c jk [.va (po (der A)), .va (fr (-1))] = va (po (PS.C (-1) * der A)) ∧ c js [.va (po R), .va (po (PS.C (-1) * der A))] = va (po (R - der A)) := fun {A R n1 n2} zA zR l1 l2 => by
    have zd := (zA.der (l := l) (by omega)).mono (n := N) (k := P) (by omega) l1
    refine ⟨hl.z zA (by omega), hk.z zd b1 (by omega), ?_⟩
    have zs : Z N P (PS.C (-1) * der A) := ⟨zd.lt.smul _, by
      rw [show PS.C (-1) * der A = -der A by rw [PS.C_neg, PS.C_one]; grind]
      exact zd.hb.neg⟩
    have := hs.z (zR.mono (Nat.le_refl _) l2) zs (by omega)
    rw [this, show R + PS.C (-1) * der A = R - der A by rw [PS.C_neg, PS.C_one]; grind]
  obtain ⟨t1, t2, t3⟩ := step zLF zR0 (by omega) (by omega)
  rw [der_Lp] at t3
  refine ⟨partsF F K, ⟨F, K, gF, eF, hK, rfl⟩, ?_⟩
  have c0 : (0 : Nat) ≤ line := Nat.zero_le _
  have c1 : (1 : Nat) ≤ line := by unfold line; omega
  have c2 : (2 : Nat) ≤ line := by unfold line; omega
  have z11 : PyData.tuple [.int 1, .int 1] = fr 1 := rfl
  have ne0 : sem2 .eq (po p) (.tuple []) = v1 (.bool false) := by rw [eq_po0 zp.pl]; simp [p0]
  have stepk : ∀ k, 1 ≤ k → c jc [.va (po (Lp (Ge k F))), .va (po (Rk k (Ge k F)))] = va (po (Lp (At k F))) ∧ c jo [.va (po (Lp (Ge k F))), .va (po (Lp (At k F)))] = va (po (Lp (Ge (k + 1) F))) ∧ c jo [.va (po (Rk k (Ge k F))), .va (po (Lp (At k F)))] = va (po (Rk k (Ge (k + 1) F))) ∧
      c jl [.va (po (Lp (Ge (k + 1) F)))] = va (po (der (Lp (Ge (k + 1) F)))) ∧ c jk [.va (po (der (Lp (Ge (k + 1) F)))), .va (fr (-1))] = va (po (PS.C (-1) * der (Lp (Ge (k + 1) F)))) ∧ c js [.va (po (Rk k (Ge (k + 1) F))), .va (po (PS.C (-1) * der (Lp (Ge (k + 1) F))))] = va (po (Rk (k + 1) (Ge (k + 1) F))) := fun k hk => by
    obtain ⟨dA, hdA⟩ := Lp_mn (gA k)
    have a1 := hc _ _ N N P l ((zL k).mono (Nat.le_refl _) (by omega)) (zR k hk) ⟨oc1, oc2, oc3⟩
    rw [gcd_at k (gG k), at_ge] at a1
    obtain ⟨q1, q2⟩ := quo_at k (gG k)
    rw [at_ge, ov_ge] at q1 q2
    have a2 := ho _ _ N N B B (zL k) (zA k) hdA.dg.ne ⟨by omega, by omega, by omega⟩
    have a3 := ho _ _ N N P B (zR k hk) (zA k) hdA.dg.ne ⟨by omega, by omega, by omega⟩
    rw [q1] at a2
    rw [q2] at a3
    obtain ⟨u1, u2, u3⟩ := step (zL (k + 1)) (zR2 k) (by omega) (by omega)
    rw [der_Lp] at u3
    exact ⟨a1, a2, a3, u1, u2, u3⟩
  have hKn : K ≤ 1000000 + K := by omega
  unfold bo b_simple_parts
  simp [val, es_whl, c0, c2, ne0, s1, s2, s3, s4, s5, z11, neg1, t1, t2, t3]
  refine whileR_then (P := fun r => outF (r.bind _) = _) (I := fun en => ∃ k z7, en = [.va (po (mon p)), .va (po (der (mon p))), .va (po (Pm 1 F)), .va (po (Lp (Ge (k + 1) F))), .va (po (Rk (k + 1) (Ge (k + 1) F))), .ow ((partsF F k).map pd), .va (.int ((k + 1 : Nat) : Int)), z7] ∧ k ≤ K)
    (m := fun en => match en with
    | [_, _, _, _, _, _, .va (.int k), _] => K + 1 - k.toNat
    | _ => 0) ?_ ⟨0, .un, by rw [ge_one gF]; rfl, Nat.zero_le _⟩
  rintro en ⟨k, z7, rfl, hkK⟩
  obtain ⟨a1, a2, a3, u1, u2, u3⟩ := stepk (k + 1) (by omega)
  have lenI : ((1 : Int) < ((toL (Lp (Ge (k + 1) F))).length : Int)) ↔ Ge (k + 1) F ≠ [] := by rw [← Lp_len (gG (k + 1))]; omega
  by_cases hE : Ge (k + 1) F = []
  · left
    have hlt : ¬ ((1 : Int) < ((toL (Lp (Ge (k + 1) F))).length : Int)) := fun q => (lenI.mp q) hE
    refine ⟨by simp [val]; omega, ?_⟩
    have stab : ∀ j, k ≤ j → partsF F j = partsF F k := fun j hj => by
      induction j with
      | zero => rw [show k = 0 by omega]
      | succ j ih =>
        rcases Nat.eq_or_lt_of_le hj with q | q
        · rw [q]
        · show partsF F j ++ _ = _
          have : At (j + 1) F = [] := by
            unfold At
            rw [List.filter_eq_nil_iff]
            intro z hz hz2
            have hz2 : z.2 = j + 1 := by simpa using hz2
            have : z ∈ Ge (k + 1) F := List.mem_filter.mpr ⟨hz, by simp; omega⟩
            rw [hE] at this
            cases this
          rw [if_pos this, List.append_nil]
          exact ih (by omega)
    simp [val]
    rw [stab K hkK]
  · right
    have hlt : ((1 : Int) < ((toL (Lp (Ge (k + 1) F))).length : Int)) := lenI.mpr hE
    have hkK' : k + 1 ≤ K := by
      cases hh : Ge (k + 1) F with
      | nil => exact absurd hh hE
      | cons y A =>
        have hy : y ∈ Ge (k + 1) F := by rw [hh]; exact List.mem_cons_self
        have h1 := (List.mem_filter.mp hy).2
        have h2 := hK y (List.mem_filter.mp hy).1
        simp at h1
        omega
    have lA : ((toL (Lp (At (k + 1) F))).length > 1) ↔ At (k + 1) F ≠ [] := Lp_len (gA (k + 1))
    have lp : (partsF F k).length < line := by
      have : ∀ k, (partsF F k).length ≤ k := fun k => by
        induction k with
        | zero => exact Nat.le_refl _
        | succ k ih =>
          show (partsF F k ++ _).length ≤ _
          rw [List.length_append]
          split <;> simp <;> omega
      have h1 := this k
      -- the times are no more than the degree
      have h2 : k + 1 ≤ N := by
        cases hh : Ge (k + 1) F with
        | nil => exact absurd hh hE
        | cons y A =>
          have hy : y ∈ Ge (k + 1) F := by rw [hh]; exact List.mem_cons_self
          have h1 := (List.mem_filter.mp hy).2
          simp at h1
          have hyF := (List.mem_filter.mp hy).1
          obtain ⟨m, hm⟩ := (gF.mn y hyF).1
          have pw : ∀ A : List (PS × Nat), Good A → y ∈ A → Dv (y.1 ^ y.2) (Pw A) := fun A => by
            induction A with
            | nil => intro _ h; cases h
            | cons w A ih =>
              rintro ⟨⟨m', h1'⟩, _, _, _, h5⟩ h
              obtain ⟨d, hd⟩ := Pw_mn h5
              rcases List.mem_cons.mp h with rfl | h
              · exact (Dv.refl _).mul_r _ hd.dg.pl
              · exact (ih h5 h).mul _ (h1'.dg.pl.pow _)
          have := (pw F gF hyF).dg (hm.pow y.2).dg (by rw [eF]; exact hmn.dg)
          have : 1 * y.2 ≤ (m + 1) * y.2 := Nat.mul_le_mul_right _ (by omega)
          omega
      unfold line
      omega
    refine ⟨by simp [val]; omega, [.va (po (mon p)), .va (po (der (mon p))), .va (po (Pm 1 F)), .va (po (Lp (Ge (k + 1 + 1) F))), .va (po (Rk (k + 1 + 1) (Ge (k + 1 + 1) F))), .ow ((partsF F (k + 1)).map pd), .va (.int ((k + 1 + 1 : Nat) : Int)), .va (po (Lp (At (k + 1) F)))], ?_, ⟨k + 1, _, rfl, hkK'⟩, ?_⟩
    · by_cases hA : At (k + 1) F = []
      · have hl : ¬ ((1 : Int) < ((toL (Lp (At (k + 1) F))).length : Int)) := fun q => lA.mp (by omega) hA
        have ep : partsF F (k + 1) = partsF F k := by show partsF F k ++ _ = _; rw [if_pos hA, List.append_nil]
        rw [ep]
        simp [val, a1, a2, a3, u1, u2, u3, hl, c2, z11, neg1]
      · have hl : ((1 : Int) < ((toL (Lp (At (k + 1) F))).length : Int)) := by have := lA.mpr hA; omega
        have ep : (partsF F (k + 1)).map pd = (partsF F k).map pd ++ [.tuple [po (Lp (At (k + 1) F)), .int ((k + 1 : Nat) : Int)]] := by
          show (partsF F k ++ _).map pd = _
          rw [if_neg hA, List.map_append]
          rfl
        rw [ep]
        simp [val, a1, a2, a3, u1, u2, u3, hl, c2, z11, neg1, lp]
    · show K + 1 - (((k + 1 + 1 : Nat) : Int)).toNat < K + 1 - (((k + 1 : Nat) : Int)).toNat
      simp only [Int.toNat_natCast]
      omega
end
end AW

/-! AwEu3: the rests of two polynomials and what they are made of, with few bits; what turns one within another. -/
namespace AW
open PS
/-- the monic combination of degree j of p and q, the factors being of low degrees, has few bits -/
theorem rest_ht3 {p q b ub vb ua va : PS} {m n j ja h l : Nat} {d : Rat} (hp : Hb h p) (hq : Hb h q) (dp : Dg p m) (dq : Dg q n) (hb : Mn b j)
    (jm : ja ≤ m) (jn : ja ≤ n) (jj : j < ja) (lu : Lt ub (n - ja + 1)) (lv : Lt vb (m - ja + 1)) (pu : Pl ua) (pv : Pl va)
    (e : b = ub * p + vb * q) (hd : d ≠ 0) (ed : ua * vb - ub * va = PS.C d) (hl : 2 * (m + n) + 1 ≤ 2 ^ l) : Hb ((m + n) * (h + l)) b ∧ Hb ((m + n) * (h + l)) ub := by
  obtain ⟨kp, p1, p2, p3⟩ := hp
  obtain ⟨kq, q1, q2, q3⟩ := hq
  obtain ⟨P, hP⟩ := Classical.axiomOfChoice p3
  obtain ⟨Q, hQ⟩ := Classical.axiomOfChoice q3
  obtain ⟨K, hK⟩ : ∃ K, K = (n - j) + (m - j) := ⟨_, rfl⟩
  let s1 : PS := ⟨fun i => (P i : Rat)⟩
  let s2 : PS := ⟨fun i => (Q i : Rat)⟩
  have es1 : s1 = PS.C kp * p := by ext i; rw [C_mul]; exact (hP i).1.symm
  have es2 : s2 = PS.C kq * q := by ext i; rw [C_mul]; exact (hQ i).1.symm
  let A : Nat → Nat → Int := fun t k => if k < n - j then (if k ≤ t then P (t - k) else 0) else (if k - (n - j) ≤ t then Q (t - (k - (n - j))) else 0)
  have hA : ∀ t k, (A t k).natAbs ≤ 2 ^ h := fun t k => by
    show (if k < n - j then (if k ≤ t then P (t - k) else 0) else (if k - (n - j) ≤ t then Q (t - (k - (n - j))) else 0) : Int).natAbs ≤ _
    split
    · split
      · exact (hP _).2
      · exact Nat.zero_le _
    · split
      · exact (hQ _).2
      · exact Nat.zero_le _
  obtain ⟨x, ⟨k0, k1, k2⟩, x1, x2⟩ := siegel K (K - 1) (2 ^ h) (by omega) (fun i k => A (j + 1 + i) k) fun i k _ _ => hA _ _
  let y : Nat → Int := fun k => x (n - j + k)
  let u : PS := psum x (n - j) * PS.C kp
  let v : PS := psum y (m - j) * PS.C kq
  have wf : ∀ t, (u * p + v * q).f t = ((sm (fun k => A t k * x k) K : Int) : Rat) := fun t => by
    have e1 : u * p + v * q = psum x (n - j) * s1 + psum y (m - j) * s2 := by
      rw [es1, es2]
      show psum x (n - j) * PS.C kp * p + psum y (m - j) * PS.C kq * q = _
      grind
    rw [e1, add_f, psum_mul (P := P) (fun i => rfl), psum_mul (P := Q) (fun i => rfl), ← Rat.intCast_add]
    congr 1
    rw [hK, ← sm_two]
    refine sm_congr fun k hk => ?_
    show _ = (if k < n - j then (if k ≤ t then P (t - k) else 0) else (if k - (n - j) ≤ t then Q (t - (k - (n - j))) else 0) : Int) * x k
    by_cases z : k < n - j
    · rw [if_pos z, if_pos z]
    · rw [if_neg z, if_neg z]
      show _ * x (n - j + (k - (n - j))) = _
      rw [show n - j + (k - (n - j)) = k by omega]
  have ku := int_ne p1
  have kv := int_ne q1
  have hu : Lt u (n - j) := fun t ht => by
    show (psum x (n - j) * PS.C kp).f t = 0
    rw [PS.mulc, C_mul, psum_lt x (n - j) t ht]
    grind
  have hv : Lt v (m - j) := fun t ht => by
    show (psum y (m - j) * PS.C kq).f t = 0
    rw [PS.mulc, C_mul, psum_lt y (m - j) t ht]
    grind
  have hw : Lt (u * p + v * q) (j + 1) := fun t ht => by
    rcases Nat.lt_or_ge t (m + n - j) with z | z
    · rw [wf t]
      have := x2 (t - j - 1) (by omega)
      simp only [show j + 1 + (t - j - 1) = t by omega] at this
      rw [this]
      rfl
    · exact Lt.add (hu.mul' dp.1 (by omega)) (hv.mul' dq.1 (by omega)) t z
  -- it is a multiple of b
  have c1 : v * ub - u * vb = 0 := by
    refine Classical.byContradiction fun z => ?_
    obtain ⟨k, hk⟩ := (show Pl (v * ub - u * vb) from ⟨_, (hv.mul' lu (k := m + n) (by omega)).sub (hu.mul' lv (by omega))⟩).dg z
    have t1 := dq.mul hk
    have t2 : q * (v * ub - u * vb) = (u * p + v * q) * ub - u * b := by rw [e]; grind
    rw [t2] at t1
    have := t1.lt (Lt.sub (hw.mul' lu (k := n) (by omega)) (hu.mul' hb.1 (by omega)))
    omega
  have c2 : (u * p + v * q) * ub = u * b := by rw [e]; grind
  have c3 : (u * p + v * q) * vb = v * b := by rw [e]; grind
  have c4 : PS.C d * (u * p + v * q) = (ua * v - va * u) * b := by rw [← ed]; grind
  generalize hW : u * p + v * q = w at *
  have wne : w ≠ 0 := fun z => by
    have bn := hb.dg.ne
    have u0 : u = 0 := Classical.byContradiction fun q => Pl.mul_ne ⟨_, hu⟩ hb.dg.pl q bn (by rw [← c2, z]; grind)
    have v0 : v = 0 := Classical.byContradiction fun q => Pl.mul_ne ⟨_, hv⟩ hb.dg.pl q bn (by rw [← c3, z]; grind)
    rcases Nat.lt_or_ge k0 (n - j) with r | r
    · have : u.f k0 = x k0 * kp := by
        show (psum x (n - j) * PS.C kp).f k0 = _
        rw [PS.mulc, C_mul, psum_f x _ _ r]
        grind
      rw [u0, zero_f] at this
      have := int_ne k2
      grind
    · have : v.f (k0 - (n - j)) = x k0 * kq := by
        show (psum y (m - j) * PS.C kq).f _ = _
        rw [PS.mulc, C_mul, psum_f y _ _ (by omega)]
        show _ * (x (n - j + (k0 - (n - j))) : Rat) = _
        rw [show n - j + (k0 - (n - j)) = k0 by omega]
        grind
      rw [v0, zero_f] at this
      have := int_ne k2
      grind
  have pw : Pl (ua * v - va * u) := (pu.mul ⟨_, hv⟩).sub (pv.mul ⟨_, hu⟩)
  have c5 : ∃ β : Rat, w = PS.C β * b := by
    have gn : ua * v - va * u ≠ 0 := fun z => by
      rw [z] at c4
      exact Pl.mul_ne (Pl.C d) ⟨_, hw⟩ (Dg.C hd).ne wne (by rw [c4]; grind)
    obtain ⟨k, hk⟩ := pw.dg gn
    have t := hk.mul hb.dg
    rw [← c4] at t
    have := t.lt (hw.smul d)
    have hk0 : k = 0 := by omega
    subst hk0
    have cc := Dg.const hk.1
    generalize (ua * v - va * u).f 0 = g at cc
    refine ⟨d⁻¹ * g, ?_⟩
    rw [cc] at c4
    have : PS.C d⁻¹ * (PS.C d * w) = PS.C d⁻¹ * (PS.C g * b) := by rw [c4]
    have e1 : PS.C d⁻¹ * PS.C d = 1 := by rw [← PS.C_mulC, show d⁻¹ * d = 1 by grind, C_one]
    rw [PS.C_mulC]
    grind
  obtain ⟨β, hβ⟩ := c5
  have hβj : w.f j = β := by rw [hβ, C_mul, hb.2]; grind
  have bnd : ∀ t, (sm (fun k => A t k * x k) K).natAbs ≤ 2 ^ ((m + n) * (h + l)) := fun t => by
    have e1 : (sm (fun k => A t k * x k) K).natAbs ≤ K * (2 ^ h * (2 * K * 2 ^ h + 1) ^ (K - 1)) := sm_le fun k hk => by
      rw [Int.natAbs_mul]
      exact Nat.mul_le_mul (hA t k) (x1 k hk)
    have e2 : 2 * K * 2 ^ h + 1 ≤ 2 ^ (h + l) := by
      rw [Nat.pow_add, Nat.mul_comm (2 ^ h)]
      have h0 : 1 ≤ 2 ^ h := Nat.one_le_two_pow
      have : (2 * K + 1) * 2 ^ h ≤ 2 ^ l * 2 ^ h := Nat.mul_le_mul_right _ (by omega)
      rw [Nat.add_mul] at this
      omega
    have e3 : (2 * K * 2 ^ h + 1) ^ (K - 1) ≤ 2 ^ ((h + l) * (K - 1)) := by
      rw [Nat.pow_mul]
      exact Nat.pow_le_pow_left e2 _
    have e4 : K * 2 ^ h ≤ 2 ^ (h + l) := by
      have : K * 2 ^ h ≤ 2 * K * 2 ^ h := Nat.mul_le_mul_right _ (by omega)
      omega
    refine Nat.le_trans e1 ?_
    rw [← Nat.mul_assoc]
    refine Nat.le_trans (Nat.mul_le_mul e4 e3) ?_
    rw [← Nat.pow_add]
    refine Nat.pow_le_pow_right (by decide) ?_
    have : (h + l) + (h + l) * (K - 1) = (h + l) * K := by
      rw [show K = K - 1 + 1 by omega, Nat.mul_add]
      simp
      omega
    rw [this, Nat.mul_comm]
    exact Nat.mul_le_mul_right _ (by omega)
  have bne : sm (fun k => A j k * x k) K ≠ 0 := fun z => by
    have := wf j
    rw [z] at this
    have b0 : β = 0 := by rw [← hβj, this]; rfl
    rw [b0, C_zero] at hβ
    exact wne (by rw [hβ]; grind)
  refine ⟨⟨sm (fun k => A j k * x k) K, bne, bnd j, fun i => ⟨sm (fun k => A i k * x k) K, ?_, bnd i⟩⟩, ⟨sm (fun k => A j k * x k) K, bne, bnd j, fun i => ?_⟩⟩
  · rw [← wf i, ← wf j, hβj, hβ, C_mul]
  · have eu : u = PS.C β * ub := by
      refine Pl.cancel (c := b) ⟨_, hu⟩ ((Pl.C β).mul ⟨_, lu⟩) hb.dg.pl hb.dg.ne ?_
      rw [← c2, hβ]
      grind
    have e1 : ((sm (fun k => A j k * x k) K : Int) : Rat) * ub.f i = u.f i := by rw [← wf j, hβj, eu, C_mul]
    rcases Nat.lt_or_ge i (n - j) with r | r
    · refine ⟨x i * kp, ?_, ?_⟩
      · rw [e1]
        show (psum x (n - j) * PS.C kp).f i = _
        rw [PS.mulc, C_mul, psum_f x _ _ r, Rat.intCast_mul]
        grind
      · have e2 : 2 * K * 2 ^ h + 1 ≤ 2 ^ (h + l) := by
          rw [Nat.pow_add, Nat.mul_comm (2 ^ h)]
          have h0 : 1 ≤ 2 ^ h := Nat.one_le_two_pow
          have : (2 * K + 1) * 2 ^ h ≤ 2 ^ l * 2 ^ h := Nat.mul_le_mul_right _ (by omega)
          rw [Nat.add_mul] at this
          omega
        have e3 : (2 * K * 2 ^ h + 1) ^ (K - 1) ≤ 2 ^ ((h + l) * (K - 1)) := by
          rw [Nat.pow_mul]
          exact Nat.pow_le_pow_left e2 _
        rw [Int.natAbs_mul]
        refine Nat.le_trans (Nat.mul_le_mul (Nat.le_trans (x1 i (by omega)) e3) p2) ?_
        rw [← Nat.pow_add]
        refine Nat.pow_le_pow_right (by decide) ?_
        have : (h + l) + (h + l) * (K - 1) = (h + l) * K := by
          rw [show K = K - 1 + 1 by omega, Nat.mul_add]
          simp
          omega
        have h3 : (h + l) * K ≤ (m + n) * (h + l) := by
          rw [Nat.mul_comm]
          exact Nat.mul_le_mul_right _ (by omega)
        omega
    · refine ⟨0, ?_, Nat.zero_le _⟩
      rw [e1, hu i r]
      rfl
/-- a and b are two rests side by side of p (degree m) and q (degree n), with their factors; a has degree ja -/
structure Eu3 (p q : PS) (m n : Nat) (a b ua va ub vb : PS) (ja : Nat) : Prop where
  da : Dg a ja
  lb : Lt b ja
  jm : ja ≤ m
  jn : ja ≤ n
  ea : a = ua * p + va * q
  eb : b = ub * p + vb * q
  lua : Lt ua (n - ja + 1)
  lva : Lt va (m - ja + 1)
  lub : Lt ub (n - ja + 1)
  lvb : Lt vb (m - ja + 1)
  det : ∃ d : Rat, d ≠ 0 ∧ ua * vb - ub * va = PS.C d
theorem Eu3.start {p q s r : PS} {m n : Nat} {c : Rat} (hp : Lt p (m + 1)) (hq : Dg q n) (l : n ≤ m) (e : p = s * q + r) (hr : Lt r n) (hs : Lt s (m + 1 - n)) (hc : c ≠ 0) : Eu3 p q m n q (PS.C c * r) 0 1 (PS.C c) (-(PS.C c * s)) n :=
  ⟨hq, hr.smul c, l, Nat.le_refl _, by grind, by rw [e]; grind, Lt.zero _, Lt.one.mono (by omega), (Lt.C c).mono (by omega),
    (hs.smul c).neg.mono (by omega), -c, by grind, by rw [C_neg]; grind⟩
theorem Eu3.swap {p q a b ua va ub vb : PS} {m n ja : Nat} (h : Eu3 p q m n a b ua va ub vb ja) : Eu3 q p n m a b va ua vb ub ja := by
  obtain ⟨h1, h2, h3, h4, e1, e2, l1, l2, l3, l4, d, hd, ed⟩ := h
  exact ⟨h1, h2, h4, h3, by rw [e1]; grind, by rw [e2]; grind, l2, l1, l4, l3, -d, by grind, by rw [C_neg, ← ed]; grind⟩
theorem Eu3.step {p q a b s r ua va ub vb : PS} {m n ja jb : Nat} {c : Rat} (h : Eu3 p q m n a b ua va ub vb ja) (hb : Dg b jb) (e : a = s * b + r) (hr : Lt r jb) (hs : Lt s (ja + 1 - jb)) (hc : c ≠ 0) :
    Eu3 p q m n b (PS.C c * r) ub vb (PS.C c * (ua - s * ub)) (PS.C c * (va - s * vb)) jb := by
  obtain ⟨h1, h2, h3, h4, e1, e2, l1, l2, l3, l4, d, hd, ed⟩ := h
  have lt := hb.lt h2
  refine ⟨hb, hr.smul c, by omega, by omega, e2, ?_, l3.mono (by omega), l4.mono (by omega), ?_, ?_, -(c * d), by grind, ?_⟩
  · have : r = a - s * b := by grind
    rw [this, e1, e2]
    grind
  · exact (Lt.sub (l1.mono (by omega)) (hs.mul' l3 (by omega))).smul c
  · exact (Lt.sub (l2.mono (by omega)) (hs.mul' l4 (by omega))).smul c
  · rw [C_neg, C_mulC, ← ed]
    grind
theorem Eu3.ht {p q a b ua va ub vb : PS} {m n ja j h l : Nat} (k : Eu3 p q m n a b ua va ub vb ja) (hp : Hb h p) (hq : Hb h q) (dp : Dg p m) (dq : Dg q n) (hb : Mn b j) (hl : 2 * (m + n) + 1 ≤ 2 ^ l) : Hb ((m + n) * (h + l)) b ∧ Hb ((m + n) * (h + l)) ub := by
  obtain ⟨h1, h2, h3, h4, e1, e2, l1, l2, l3, l4, d, hd, ed⟩ := k
  exact rest_ht3 hp hq dp dq hb h3 h4 (hb.dg.lt h2) l3 l4 ⟨_, l1⟩ ⟨_, l2⟩ e2 hd ed hl
/-- what divides both rests is no more than a number -/
theorem Eu3.cop {p q a b ua va ub vb : PS} {m n ja : Nat} (k : Eu3 p q m n a b ua va ub vb ja) (h : Cop p q) : Cop a b := by
  obtain ⟨h1, h2, h3, h4, e1, e2, l1, l2, l3, l4, d, hd, ed⟩ := k
  obtain ⟨x, y, px, py, e⟩ := h
  have z := C_cancel hd
  have f1 : PS.C d * p = vb * a - va * b := by rw [e1, e2, ← ed]; grind
  have f2 : PS.C d * q = ua * b - ub * a := by rw [e1, e2, ← ed]; grind
  refine ⟨PS.C d⁻¹ * (x * vb - y * ub), PS.C d⁻¹ * (y * ua - x * va), (Pl.C _).mul ((px.mul ⟨_, l4⟩).sub (py.mul ⟨_, l3⟩)), (Pl.C _).mul ((py.mul ⟨_, l1⟩).sub (px.mul ⟨_, l2⟩)), ?_⟩
  have : PS.C d⁻¹ * (x * vb - y * ub) * a + PS.C d⁻¹ * (y * ua - x * va) * b = PS.C d⁻¹ * (x * (vb * a - va * b) + y * (ua * b - ub * a)) := by grind
  rw [this, ← f1, ← f2, show PS.C d⁻¹ * (x * (PS.C d * p) + y * (PS.C d * q)) = (PS.C d⁻¹ * PS.C d) * (x * p + y * q) by grind, z, e]
  grind
end AW

/-! AwB12: bodies. -/
namespace AW
open PySem
/-- turned_within: p0 poly_parted, p1 ONE, p2 poly_sum, p3 scaled, p4 poly_product, p5 turned -/
def b_turned_within (p0 p1 p2 p3 p4 p5 : Nat) : Ss :=
  (.cons (.par [2, 3] (.cons (.op2 .idx (.call p0 (.cons (.var 0) (.cons (.var 1) .nil)) 0) (.con (.int 1))) (.cons (.var 1) .nil)))
    (.cons (.par [4, 5] (.cons (.glb p1) (.cons (.tup .nil) .nil)))
    (.cons (.whl (.op2 .gt (.op1 .len (.var 2)) (.con (.int 1))) (.cons (.asg (.tp (.cons (.nm 6) (.cons (.nm 7) .nil))) (.call p0 (.cons (.var 3) (.cons (.var 2) .nil)) 0))
    (.cons (.par [2, 3] (.cons (.var 7) (.cons (.var 2) .nil)))
    (.cons (.par [4, 5] (.cons (.call p2 (.cons (.var 5) (.cons (.call p3 (.cons (.call p4 (.cons (.var 6) (.cons (.var 4) .nil)) 0) (.cons (.tup (.cons (.op1 .neg (.con (.int 1))) (.cons (.con (.int 1)) .nil))) .nil)) 0) .nil)) 0) (.cons (.var 4) .nil))) .nil))))
    (.cons (.ret (.call p3 (.cons (.var 4) (.cons (.call p5 (.cons (.op2 .idx (.var 2) (.con (.int 0))) .nil) 0) .nil)) 0)) .nil))))
/-- rows_of: p0 poly_parted -/
def b_rows_of (p0 : Nat) : Ss :=
  (.cons (.asgO 3 (.lst .nil))
    (.cons (.whl (.op2 .gt (.var 1) (.con (.int 0))) (.cons (.asg (.tp (.cons (.nm 2) (.cons (.nm 4) .nil))) (.call p0 (.cons (.var 2) (.cons (.var 0) .nil)) 0))
    (.cons (.ite (.op2 .ne (.var 4) (.tup .nil)) (.cons (.app 3 (.tup (.cons (.var 0) (.cons (.var 1) (.cons (.var 4) .nil))))) .nil) (.nil))
    (.cons (.aug 1 .sub (.con (.int 1))) .nil))))
    (.cons (.rvs 3)
    (.cons (.retO 3) .nil))))
/-- parted: p0 poly_parted, p1 simple_parts, p2 power_of, p3 poly_product, p4 turned_within, p5 rows_of -/
def b_parted_2 (p0 p1 p2 p3 p4 p5 : Nat) : Ss :=
  (.cons (.asg (.tp (.cons (.nm 2) (.cons (.nm 3) .nil))) (.var 0))
    (.cons (.asg (.tp (.cons (.nm 4) (.cons (.nm 5) .nil))) (.call p0 (.cons (.var 2) (.cons (.var 3) .nil)) 0))
    (.cons (.asgO 1 (.lst .nil))
    (.cons (.for_ (.tp (.cons (.nm 6) (.cons (.nm 7) .nil))) (.seq (.call p1 (.cons (.var 3) .nil) 0)) (.cons (.asg (.nm 8) (.call p2 (.cons (.var 6) (.cons (.var 7) .nil)) 0))
    (.cons (.asg (.nm 9) (.op2 .idx (.call p0 (.cons (.var 3) (.cons (.var 8) .nil)) 0) (.con (.int 0))))
    (.cons (.asg (.nm 10) (.op2 .idx (.call p0 (.cons (.call p3 (.cons (.var 5) (.cons (.call p4 (.cons (.var 9) (.cons (.var 8) .nil)) 0) .nil)) 0) (.cons (.var 8) .nil)) 0) (.con (.int 1))))
    (.cons (.aug 1 .add (.call p5 (.cons (.var 6) (.cons (.var 7) (.cons (.var 10) .nil))) 0)) .nil)))))
    (.cons (.frz 1)
    (.cons (.ret (.tup (.cons (.var 4) (.cons (.var 1) .nil)))) .nil))))))
/-- part_residues: p0 parted, p1 simple_parts, p2 NOUGHT -/
def b_part_residues (p0 p1 p2 : Nat) : Ss :=
  (.cons (.dnew 1)
    (.cons (.for_ (.tp (.cons (.nm 3) (.cons (.nm 4) (.cons (.nm 5) .nil)))) (.seq (.op2 .idx (.call p0 (.cons (.var 0) .nil) 0) (.con (.int 1)))) (.cons (.ite (.op2 .eq (.var 4) (.con (.int 1))) (.cons (.setI 1 (.var 3) (.var 5)) .nil) (.nil)) .nil))
    (.cons (.asgO 2 (.lst .nil))
    (.cons (.for_ (.tp (.cons (.nm 3) (.cons (.nm 4) .nil))) (.seq (.call p1 (.cons (.op2 .idx (.var 0) (.con (.int 1))) .nil) 0)) (.cons (.asg (.nm 5) (.dget 1 (.var 3) (.tup .nil)))
    (.cons (.app 2 (.tup (.cons (.var 3) (.cons (.ife (.op2 .eq (.op1 .len (.var 5)) (.op2 .sub (.op1 .len (.var 3)) (.con (.int 1)))) (.op2 .idx (.var 5) (.op1 .neg (.con (.int 1)))) (.glb p2)) .nil)))) .nil)))
    (.cons (.retO 2) .nil)))))
/-- _law_pieces: p0 _law_mixed, p1 _law_fraction -/
def b_law_pieces_2 [Nm] (p0 p1 : Nat) : Ss :=
  (.cons (.asgO 1 (.lst .nil))
    (.cons (.for_ (.nm 2) (.rng1 (.op2 .mod (.var 0) (.con (.int 5)))) (.cons (.asg (.nm 5) (.op2 .idx (.lst (.cons (.tup (.cons (.con (.int 0)) (.cons (.con (.int 1)) .nil))) (.cons (.tup (.cons (.con (.int 1)) (.cons (.con (.int 1)) .nil))) (.cons (.tup (.cons (.op1 .neg (.con (.int 1))) (.cons (.con (.int 1)) .nil))) (.cons (.tup (.cons (.con (.int 1)) (.cons (.con (.int 2)) .nil))) (.cons (.tup (.cons (.con (.int 3)) (.cons (.con (.int 1)) .nil))) .nil)))))) (.var 2)))
    (.cons (.app 1 (.lst (.cons (.tup (.cons (.op1 .neg (.op2 .idx (.var 5) (.con (.int 0)))) (.cons (.op2 .idx (.var 5) (.con (.int 1))) .nil))) (.cons (.tup (.cons (.con (.int 1)) (.cons (.con (.int 1)) .nil))) .nil)))) .nil)))
    (.cons (.for_ (.nm 2) (.rng1 (.op2 .mod (.op2 .fdiv (.var 0) (.con (.int 5))) (.con (.int 3)))) (.cons (.app 1 (.lst (.cons (.op2 .idx (.lst (.cons (.tup (.cons (.con (.int 1)) (.cons (.con (.int 1)) .nil))) (.cons (.tup (.cons (.op1 .neg (.con (.int 2))) (.cons (.con (.int 1)) .nil))) .nil))) (.var 2)) (.cons (.tup (.cons (.con (.int 0)) (.cons (.con (.int 1)) .nil))) (.cons (.tup (.cons (.con (.int 1)) (.cons (.con (.int 1)) .nil))) .nil))))) .nil))
    (.cons (.frz 1)
    (.cons (.asgO 3 (.lst .nil))
    (.cons (.asg (.nm 4) (.con (.int 9)))
    (.cons (.for_ (.tp (.cons (.nm 2) (.cons (.nm 6) .nil))) (.enum (.var 1)) (.cons (.asg (.nm 7) (.op2 .add (.con (.int 1)) (.op2 .mod (.call p0 (.cons (.var 0) (.cons (.op2 .add (.con (.int 10)) (.var 2)) .nil)) 0) (.con (.int 3)))))
    (.cons (.ite (.op2 .le (.op2 .mul (.var 7) (.op2 .sub (.op1 .len (.var 6)) (.con (.int 1)))) (.var 4)) (.cons (.asg (.nm 4) (.op2 .sub (.var 4) (.op2 .mul (.var 7) (.op2 .sub (.op1 .len (.var 6)) (.con (.int 1))))))
    (.cons (.asgC 8 false (.cmp (.call p1 (.cons (.call p0 (.cons (.var 0) (.cons (.op2 .add (.op2 .add (.con (.int 20)) (.op2 .mul (.con (.int 3)) (.var 2))) (.var 9)) .nil)) 0) .nil) 0) (.nm 9) (.rng1 (.op2 .sub (.op1 .len (.var 6)) (.con (.int 1)))) .none [(Nm.n 9, 9)]))
    (.cons (.app 3 (.tup (.cons (.var 6) (.cons (.var 7) (.cons (.var 8) .nil))))) .nil))) (.nil)) .nil)))
    (.cons (.retO 3) .nil))))))))
/-- _law_made: p0 quotient, p1 q_sum, p2 _law_plain, p3 _law_product -/
def b_law_made (p0 p1 p2 p3 : Nat) : Ss :=
  (.cons (.asg (.nm 1) (.call p0 (.cons (.tup .nil) (.cons (.tup (.cons (.tup (.cons (.con (.int 1)) (.cons (.con (.int 1)) .nil))) .nil)) .nil)) 0))
    (.cons (.for_ (.tp (.cons (.nm 2) (.cons (.nm 3) (.cons (.nm 4) .nil)))) (.seq (.var 0)) (.cons (.asg (.nm 1) (.call p1 (.cons (.var 1) (.cons (.call p0 (.cons (.call p2 (.cons (.var 4) .nil) 0) (.cons (.call p2 (.cons (.var 2) .nil) 0) .nil)) 0) .nil)) 0))
    (.cons (.ite (.op2 .gt (.var 3) (.con (.int 1))) (.cons (.asg (.nm 5) (.lst (.cons (.tup (.cons (.con (.int 1)) (.cons (.con (.int 1)) .nil))) .nil)))
    (.cons (.for_ (.nm 6) (.rng1 (.var 3)) (.cons (.asg (.nm 5) (.call p3 (.cons (.var 5) (.cons (.var 2) .nil)) 0)) .nil))
    (.cons (.asg (.nm 1) (.call p1 (.cons (.var 1) (.cons (.call p0 (.cons (.tup (.cons (.tup (.cons (.con (.int 1)) (.cons (.con (.int 1)) .nil))) .nil)) (.cons (.call p2 (.cons (.var 5) .nil) 0) .nil)) 0) .nil)) 0)) .nil))) (.nil)) .nil)))
    (.cons (.ret (.var 1)) .nil)))
/-- _law_due: p0 _law_plain, p1 _law_product, p2 _law_sum -/
def b_law_due_3 (p0 p1 p2 : Nat) : Ss :=
  (.cons (.asgO 1 (.lst .nil))
    (.cons (.for_ (.nm 2) (.rng2 (.con (.int 1)) (.con (.int 4))) (.cons (.asg (.nm 3) (.lst (.cons (.tup (.cons (.con (.int 1)) (.cons (.con (.int 1)) .nil))) .nil)))
    (.cons (.asg (.nm 4) (.tup (.cons (.con (.int 0)) (.cons (.con (.int 1)) .nil))))
    (.cons (.for_ (.tp (.cons (.nm 5) (.cons (.nm 6) (.cons (.nm 7) .nil)))) (.seq (.var 0)) (.cons (.ite (.and (.op2 .eq (.var 6) (.var 2)) (.or (.op2 .gt (.var 6) (.con (.int 1))) (.op2 .ne (.call p0 (.cons (.var 7) .nil) 0) (.tup .nil)))) (.cons (.asg (.nm 3) (.call p1 (.cons (.var 3) (.cons (.var 5) .nil)) 0))
    (.cons (.asg (.nm 4) (.call p2 (.cons (.var 4) (.cons (.op2 .idx (.lst (.cons (.op2 .idx (.var 7) (.op1 .neg (.con (.int 1)))) (.cons (.tup (.cons (.con (.int 0)) (.cons (.con (.int 1)) .nil))) .nil))) (.op1 .intB (.op2 .lt (.op1 .len (.var 7)) (.op2 .sub (.op1 .len (.var 5)) (.con (.int 1)))))) .nil)) 0)) .nil)) (.nil)) .nil))
    (.cons (.ite (.op2 .gt (.op1 .len (.var 3)) (.con (.int 1))) (.cons (.app 1 (.tup (.cons (.op1 .tuple (.var 3)) (.cons (.var 4) .nil)))) .nil) (.nil)) .nil)))))
    (.cons (.retO 1) .nil)))
/-- law: p0 _law_pieces, p1 _law_cell_at, p2 _law_made, p3 part_residues, p4 _law_due -/
def b_law_14 (p0 p1 p2 p3 p4 : Nat) : Ss :=
  (.cons (.for_ (.nm 1) (.rng1 (.op2 .max2 (.con (.int 1)) (.op2 .min2 (.op1 .len (.var 0)) (.con (.int 7))))) (.cons (.asg (.nm 2) (.call p0 (.cons (.call p1 (.cons (.var 0) (.cons (.var 1) .nil)) 0) .nil) 0))
    (.cons (.asg (.nm 3) (.call p2 (.cons (.var 2) .nil) 0))
    (.cons (.asgO 4 (.call p3 (.cons (.var 3) .nil) 0))
    (.cons (.ite (.or (.not (.isi (.peek 4) [.bi "list"])) (.op2 .ne (.peek 4) (.call p4 (.cons (.var 2) .nil) 0))) (.cons (.ret (.con (.bool false))) .nil) (.nil))
    (.cons (.app 4 (.con .none)) .nil))))))
    (.cons (.ret (.con (.bool true))) .nil))
end AW

/-! AwTw: what turns one polynomial within another. -/
namespace AW
open PySem PySem.Spec PyProof.Rows
theorem am4 (a b : Nat) : 4 * (a * b) ≤ (a + b) * (a + b) := by
  rcases Nat.le_total a b with h | h
  · obtain ⟨k, rfl⟩ := Nat.exists_eq_add_of_le h
    have : (a + (a + k)) * (a + (a + k)) = 4 * (a * (a + k)) + k * k := by grind
    omega
  · obtain ⟨k, rfl⟩ := Nat.exists_eq_add_of_le h
    have : (b + k + b) * (b + k + b) = 4 * ((b + k) * b) + k * k := by grind
    omega
theorem quo_smul {a b : PS} {x y : Rat} (pa : Pl a) (db : Pl b) (b0 : b ≠ 0) (hy : y ≠ 0) : quo (PS.C x * a) (PS.C y * b) = PS.C (x * y⁻¹) * quo a b ∧ rem (PS.C x * a) (PS.C y * b) = PS.C x * rem a b := by
  obtain ⟨n, hb⟩ := db.dg b0
  obtain ⟨m, hm⟩ := pa
  obtain ⟨e, hr, hs⟩ := quo_rem hb hm
  have d2 : Dg (PS.C y * b) n := by
    have := (Dg.C hy).mul hb
    rwa [Nat.zero_add] at this
  refine quo_eq d2 ((Pl.C _).mul ⟨_, hs⟩) (hr.smul x) ?_
  have z := C_cancel hy
  have : PS.C (x * y⁻¹) * quo a b * (PS.C y * b) = PS.C x * (PS.C y⁻¹ * PS.C y) * (quo a b * b) := by rw [PS.C_mulC]; grind
  rw [this, z]
  conv => lhs; rw [e]
  grind
theorem Bd.inv2 {b : Nat} {x : Rat} (h : Bd b x) (hx : x ≠ 0) : Bd b x⁻¹ := by
  have nz : x.num ≠ 0 := by rw [Ne, Rat.num_eq_zero]; exact hx
  rw [← inv_divInt hx]
  have := divInt_le (a := (x.den : Int)) (b := x.num) nz
  exact ⟨Nat.le_trans this.1 (by simpa using h.2), Nat.le_trans this.2 h.1⟩
theorem Bd.mul' {a b : Nat} {x y : Rat} (h : Bd a x) (k : Bd b y) : Bd (a + b) (x * y) := by
  have := (Hb.C k).ofC h
  rw [← PS.C_mulC] at this
  exact this.bd 0
theorem Bd.mono' {a b : Nat} {x : Rat} (h : Bd a x) (l : a ≤ b) : Bd b x := ⟨Nat.le_trans h.1 (Nat.pow_le_pow_right (by decide) l), Nat.le_trans h.2 (Nat.pow_le_pow_right (by decide) l)⟩
/-- the walk of rests: hi, lo, and their factors ri, le (of o) -/
def TwS (o w : PS) (m n H R : Nat) (hi lo ri le : PS) (jh jl : Nat) : Prop := ∃ (ch cl : Rat) (Mh Ml ua ub : PS),
  hi = PS.C ch * Mh ∧ lo = PS.C cl * Ml ∧ ri = PS.C ch * ua ∧ le = PS.C cl * ub ∧ ch ≠ 0 ∧ cl ≠ 0 ∧ Mn Mh jh ∧ Mn Ml jl ∧ jl < jh ∧ jh ≤ n ∧ Z (n + 1) H Mh ∧ Z (n + 1) H Ml ∧ Z (n + 1) H ua ∧ Z (n + 1) H ub ∧
  Bd ((n - jh + 1) * R) ch ∧ Bd ((n - jh + 1) * R) cl ∧ ((Mh = w ∧ Ml = o ∧ ua = 0 ∧ ub = 1 ∧ jh = n ∧ jl = m) ∨ ∃ va vb, Eu3 o w m n Mh Ml ua va ub vb jh)
def twH (m n h l : Nat) : Nat := (m + n) * (h + l)
def twR (n H : Nat) : Nat := H + (n + 2) * (H + 1)
/-- the first pair -/
theorem TwS.init {o w : PS} {m n h l : Nat} (ho : Mn o m) (hw : Mn w n) (n1 : 1 ≤ n) (hc : Cop o w) (h1 : Hb h o) (h2 : Hb h w) (hl : 2 * (m + n) + 1 ≤ 2 ^ l) :
    ∃ jl, TwS o w m n (twH m n h l) (twR n (twH m n h l)) w (rem o w) 0 1 n jl := by
  have hH : h ≤ twH m n h l := by
    unfold twH
    have : 1 * (h + l) ≤ (m + n) * (h + l) := Nat.mul_le_mul_right _ (by omega)
    omega
  have l1 : 1 ≤ l := by
    rcases Nat.eq_zero_or_pos l with q | q
    · subst q
      have : (2 : Nat) ^ 0 = 1 := rfl
      omega
    · exact q
  generalize eH : twH m n h l = H at *
  rcases Nat.lt_or_ge m n with hmn | hmn
  · have e := (quo_eq hw.dg Pl.zero (ho.1.mono (by omega)) (show o = 0 * w + o by grind)).2
    rw [e]
    refine ⟨m, 1, 1, w, o, 0, 1, ?_, ?_, ?_, ?_, by decide, by decide, hw, ho, hmn, Nat.le_refl _, ⟨hw.1, h2.mono hH⟩, ⟨ho.1.mono (by omega), h1.mono hH⟩, Z.zero _ _, Z.one _ _ (by omega), Bd.one _, Bd.one _, .inl ⟨rfl, rfl, rfl, rfl, rfl, rfl⟩⟩ <;> rw [PS.C_one] <;> grind
  · obtain ⟨e, hr, hs⟩ := quo_rem hw.dg ho.1
    have r0 : rem o w ≠ 0 := fun z => by
      rw [z] at e
      have dv : Dv w o := ⟨quo o w, ⟨_, hs⟩, by rw [← show quo o w * w + 0 = quo o w * w by grind]; exact e⟩
      have c1 := hc.symm.dv dv
      obtain ⟨u, v, pu, pv, e1⟩ := c1
      have d1 : Dv w 1 := ⟨u + v, pu.add pv, by rw [← e1]; grind⟩
      have := d1.dg hw.dg Mn.one.dg
      omega
    obtain ⟨jl, dr⟩ := (show Pl (rem o w) from ⟨_, hr⟩).dg r0
    have pr : Pl (rem o w) := ⟨_, hr⟩
    have cne := lc_ne pr r0
    have ci : (lc (rem o w))⁻¹ ≠ 0 := by grind
    have eu := Eu3.start ho.1 hw.dg hmn e hr hs ci
    have em : PS.C (lc (rem o w))⁻¹ * rem o w = mon (rem o w) := rfl
    rw [em] at eu
    have ht := eu.ht (l := l) h1 h2 ho.dg hw.dg (mon_mn dr) hl
    have eH' : (m + n) * (h + l) = H := eH
    rw [eH'] at ht
    -- the number taken out
    have zr := (Z.div (m := m + 1) (n := n) (h := h) (k := h) ⟨ho.1, h1⟩ ⟨hw.1, h2⟩ hw.dg).2
    have bR : h + (m + 1) * (h + 1) ≤ twR n H := by
      have q1 : (m + 1) * (h + 1) ≤ (m + n) * (h + l) := Nat.mul_le_mul (by omega) (by omega)
      unfold twR
      have q2 : 1 * (H + 1) ≤ (n + 2) * (H + 1) := Nat.mul_le_mul_right _ (by omega)
      omega
    have bl : Bd (twR n H) (lc (rem o w)) := by
      rw [lc_eq dr]
      exact (zr.bd jl).mono' bR
    have q : (n - n + 1) * twR n H = twR n H := by rw [Nat.sub_self, Nat.zero_add, Nat.one_mul]
    have cc := C_cancel cne
    refine ⟨jl, 1, lc (rem o w), w, mon (rem o w), 0, PS.C (lc (rem o w))⁻¹, by rw [PS.C_one]; grind, mon_back pr, by rw [PS.C_one]; grind, by grind, by decide, cne, hw, mon_mn dr, dr.lt hr, Nat.le_refl _, ⟨hw.1, h2.mono hH⟩, ⟨(mon_mn dr).1.mono (by have := dr.lt hr; omega), ht.1⟩, Z.zero _ _, ⟨(Lt.C _).mono (by omega), ht.2⟩, Bd.one _, by rw [q]; exact bl, .inr ⟨_, _, eu⟩⟩
theorem TwS.cop {o w : PS} {m n H R : Nat} {hi lo ri le : PS} {jh jl : Nat} (hc : Cop o w) (st : TwS o w m n H R hi lo ri le jh jl) : ∀ {Mh Ml ua ub : PS}, ((Mh = w ∧ Ml = o ∧ ua = 0 ∧ ub = 1 ∧ jh = n ∧ jl = m) ∨ ∃ va vb, Eu3 o w m n Mh Ml ua va ub vb jh) → Cop Mh Ml := fun h => by
  rcases h with ⟨rfl, rfl, _⟩ | ⟨va, vb, eu⟩
  · exact hc.symm
  · exact eu.cop hc
/-- one turn -/
theorem TwS.step {o w : PS} {m n h l : Nat} (ho : Mn o m) (hw : Mn w n) (hc : Cop o w) (h1 : Hb h o) (h2 : Hb h w) (hl : 2 * (m + n) + 1 ≤ 2 ^ l) {hi lo ri le : PS} {jh jl : Nat} (st : TwS o w m n (twH m n h l) (twR n (twH m n h l)) hi lo ri le jh jl) (j1 : 1 ≤ jl) :
    ∃ jl', jl' < jl ∧ TwS o w m n (twH m n h l) (twR n (twH m n h l)) lo (rem hi lo) le (ri + PS.C (-1) * (quo hi lo * le)) jl jl' ∧ Z (n + 1) ((n - jh + 1) * twR n (twH m n h l) + (n - jh + 1) * twR n (twH m n h l) + twR n (twH m n h l)) (quo hi lo) := by
  obtain ⟨ch, cl, Mh, Ml, ua, ub, e1, e2, e3, e4, nh, nl, mh, ml, jj, jn, zh, zl, za, zb, bh, bl, rel⟩ := st
  have copM := TwS.cop hc ⟨ch, cl, Mh, Ml, ua, ub, e1, e2, e3, e4, nh, nl, mh, ml, jj, jn, zh, zl, za, zb, bh, bl, rel⟩ rel
  have eH' : (m + n) * (h + l) = twH m n h l := rfl
  generalize eH : twH m n h l = H at *
  obtain ⟨qe, re⟩ := quo_smul (x := ch) (y := cl) mh.dg.pl ml.dg.pl ml.dg.ne nl
  rw [← e1, ← e2] at qe re
  obtain ⟨e, hr, hs⟩ := quo_rem ml.dg mh.1
  have r0 : rem Mh Ml ≠ 0 := fun z => by
    rw [z] at e
    have dv : Dv Ml Mh := ⟨quo Mh Ml, ⟨_, hs⟩, by rw [← show quo Mh Ml * Ml + 0 = quo Mh Ml * Ml by grind]; exact e⟩
    have c1 := copM.dv_l dv
    obtain ⟨u, v, pu, pv, e1⟩ := c1
    have d1 : Dv Ml 1 := ⟨u + v, pu.add pv, by rw [← e1]; grind⟩
    have := d1.dg ml.dg Mn.one.dg
    omega
  have pr : Pl (rem Mh Ml) := ⟨_, hr⟩
  obtain ⟨j', dr⟩ := pr.dg r0
  have cne := lc_ne pr r0
  have ci : (lc (rem Mh Ml))⁻¹ ≠ 0 := by grind
  have em : PS.C (lc (rem Mh Ml))⁻¹ * rem Mh Ml = mon (rem Mh Ml) := rfl
  have cc := C_cancel cne
  have zd := Z.div (m := n + 1) (n := jl) (h := H) (k := H) zh ⟨ml.1, zl.hb⟩ ml.dg
  have bR : H + (n + 1) * (H + 1) ≤ twR n H := by
    unfold twR
    have : (n + 1) * (H + 1) ≤ (n + 2) * (H + 1) := Nat.mul_le_mul_right _ (by omega)
    omega
  have blc : Bd (twR n H) (lc (rem Mh Ml)) := by
    rw [lc_eq dr]
    exact (zd.2.bd j').mono' bR
  have rel' : ∃ va' vb', Eu3 o w m n Ml (mon (rem Mh Ml)) ub va' (PS.C (lc (rem Mh Ml))⁻¹ * (ua - quo Mh Ml * ub)) vb' jl := by
    rcases rel with ⟨rfl, rfl, rfl, rfl, rfl, rfl⟩ | ⟨va, vb, eu⟩
    · have eu := (Eu3.start mh.1 ml.dg (by omega) e hr hs ci).swap
      rw [em] at eu
      exact ⟨_, _, by
        rw [show PS.C (lc (rem Mh Ml))⁻¹ * (0 - quo Mh Ml * 1) = -(PS.C (lc (rem Mh Ml))⁻¹ * quo Mh Ml) by grind]
        exact eu⟩
    · have eu := eu.step ml.dg e hr hs ci
      rw [em] at eu
      exact ⟨_, _, eu⟩
  obtain ⟨va', vb', eu⟩ := rel'
  have ht := eu.ht (l := l) h1 h2 ho.dg hw.dg (mon_mn dr) hl
  rw [eH'] at ht
  have jlt := dr.lt hr
  have hm : (n - jh + 1) * twR n H + twR n H ≤ (n - jl + 1) * twR n H := by
    have : (n - jh + 1) * twR n H + twR n H = (n - jh + 2) * twR n H := by grind
    rw [this]
    exact Nat.mul_le_mul_right _ (by omega)
  refine ⟨j', jlt, ⟨cl, ch * lc (rem Mh Ml), Ml, mon (rem Mh Ml), ub, PS.C (lc (rem Mh Ml))⁻¹ * (ua - quo Mh Ml * ub), e2, ?_, e4, ?_, nl, fun z => ?_, ml, mon_mn dr, jlt, by omega, zl, ⟨(mon_mn dr).1.mono (by omega), ht.1⟩, zb, ⟨eu.lub.mono (by omega), ht.2⟩, bl.mono' (by omega), (bh.mul' blc).mono' (by omega), .inr ⟨_, _, eu⟩⟩, ?_⟩
  · rw [re, PS.C_mulC, ← em]
    grind
  · rw [qe, e3, e4]
    have h1 : PS.C (ch * cl⁻¹) * quo Mh Ml * (PS.C cl * ub) = PS.C ch * (PS.C cl⁻¹ * PS.C cl) * (quo Mh Ml * ub) := by rw [PS.C_mulC]; grind
    rw [h1, C_cancel nl]
    have h2 : PS.C (ch * lc (rem Mh Ml)) * (PS.C (lc (rem Mh Ml))⁻¹ * (ua - quo Mh Ml * ub)) = PS.C ch * (PS.C (lc (rem Mh Ml))⁻¹ * PS.C (lc (rem Mh Ml))) * (ua - quo Mh Ml * ub) := by rw [PS.C_mulC]; grind
    rw [h2, cc, PS.C_neg, PS.C_one]
    grind
  · rcases (by grind : ch = 0 ∨ lc (rem Mh Ml) = 0) with q | q
    · exact nh q
    · exact cne q
  · rw [qe]
    exact ⟨(zd.1.lt.smul _).mono (by omega), ((zd.1.hb.ofC (bh.mul' (bl.inv2 nl))).mono (by omega))⟩
end AW

/-! AwTw2: the walk of turned_within. -/
namespace AW
open PySem PySem.Spec PyProof.Rows
section
variable {G : Nat → D} {c : Nat → List Sl → R (D × Bool)} {T : List Fn} {nm : Nm}
def TwOk (m n h l : Nat) : Prop := 2 * (m + n) + 1 ≤ 2 ^ l ∧ m + n ≤ 10000 ∧ (n + 6) * (n + 6) * twR n (twH m n h l) ≤ 150000000
def SpTw (c : Nat → List Sl → R (D × Bool)) (j : Nat) : Prop := ∀ (o w : PS) (m n h l : Nat), Mn o m → Mn w n → 1 ≤ n → Cop o w → Hb h o → Hb h w → TwOk m n h l → ∃ t v, Pl v ∧ t * o + v * w = 1 ∧ Z (n + 1) (twH m n h l) t ∧ c j [.va (po o), .va (po w)] = va (po t)
theorem turned_within_ok {jp kO js jk jm jt : Nat} (hp : SpDiv c jp) (hG : G kO = po 1) (hs : SpSum c js) (hk : SpScaled c jk) (hm : SpProdZ c jm) (ht : SpTurn c jt) {o w : PS} {m n h l : Nat} (ho : Mn o m) (hw : Mn w n) (n1 : 1 ≤ n) (hc : Cop o w) (h1 : Hb h o) (h2 : Hb h w) (ok : TwOk m n h l) :
    ∃ t v, Pl v ∧ t * o + v * w = 1 ∧ Z (n + 1) (twH m n h l) t ∧ bo G c T (b_turned_within jp kO js jk jm jt) [.va (po o), .va (po w)] 6 = va (po t) := by
  obtain ⟨hl, hmn, hB⟩ := ok
  have hH : h ≤ twH m n h l := by
    unfold twH
    have : 1 * (h + l) ≤ (m + n) * (h + l) := Nat.mul_le_mul_right _ (by omega)
    omega
  have hHl : l ≤ twH m n h l := by
    unfold twH
    have : 1 * (h + l) ≤ (m + n) * (h + l) := Nat.mul_le_mul_right _ (by omega)
    omega
  have l1 : 1 ≤ l := by
    rcases Nat.eq_zero_or_pos l with q | q
    · subst q
      have : (2 : Nat) ^ 0 = 1 := rfl
      omega
    · exact q
  have hHm : (m + 1) * (h + 1) ≤ twH m n h l := Nat.mul_le_mul (by omega) (by omega)
  obtain ⟨j0, st0⟩ := TwS.init ho hw n1 hc h1 h2 hl
  have step := fun {hi lo ri le : PS} {jh jl : Nat} => TwS.step (hi := hi) (lo := lo) (ri := ri) (le := le) (jh := jh) (jl := jl) ho hw hc h1 h2 hl
  have eHt : twH m n h l = twH m n h l := rfl
  generalize eH : twH m n h l = H at *
  have hHR : H + 1 ≤ twR n H := by
    unfold twR
    have : 1 * (H + 1) ≤ (n + 2) * (H + 1) := Nat.mul_le_mul_right _ (by omega)
    omega
  have hR2 : H + 2 * (H + 1) ≤ twR n H := by
    unfold twR
    have : 2 * (H + 1) ≤ (n + 2) * (H + 1) := Nat.mul_le_mul_right _ (by omega)
    omega
  generalize eR : twR n H = Q at *
  have big : ∀ x y : Nat, x + y ≤ n + 6 → x * y * Q ≤ 37500000 := fun x y hxy => by
    have a1 := am4 x y
    have a2 : (x + y) * (x + y) ≤ (n + 6) * (n + 6) := Nat.mul_le_mul hxy hxy
    have a3 : 4 * (x * y) * Q ≤ (n + 6) * (n + 6) * Q := Nat.mul_le_mul_right _ (by omega)
    rw [Nat.mul_assoc] at a3
    omega
  have big3 : (3 * n + 6) * Q ≤ 37500000 := by
    have a : 4 * (3 * n + 6) ≤ (n + 6) * (n + 6) := by
      have : (n + 6) * (n + 6) = n * n + 12 * n + 36 := by grind
      omega
    have a3 : 4 * (3 * n + 6) * Q ≤ (n + 6) * (n + 6) * Q := Nat.mul_le_mul_right _ a
    rw [Nat.mul_assoc] at a3
    omega
  have e1 := hp o w (m + 1) (n + 1) h h ⟨ho.1, h1⟩ ⟨hw.1, h2⟩ hw.dg.ne ⟨by omega, by omega, by
    have q : (m + 1 + 2) * (h + 1) = (m + 1) * (h + 1) + 2 * (h + 1) := by rw [Nat.add_mul]
    have := big 5 7
    have q2 : (m + 1) * (h + 1) ≥ 1 * (h + 1) := Nat.mul_le_mul_right _ (by omega)
    have := big3
    have q3 : 6 * Q ≤ (3 * n + 6) * Q := Nat.mul_le_mul_right _ (by omega)
    omega⟩
  obtain ⟨P, hP⟩ : ∃ P : R (D × Bool) → Prop, P = (fun r => ∃ t v, Pl v ∧ t * o + v * w = 1 ∧ Z (n + 1) H t ∧ r = va (po t)) := ⟨_, rfl⟩
  suffices P (bo G c T (b_turned_within jp kO js jk jm jt) [.va (po o), .va (po w)] 6) by rw [hP] at this; exact this
  have c0 : (0 : Nat) ≤ line := Nat.zero_le _
  have c2 : (2 : Nat) ≤ line := by unfold line; omega
  unfold bo b_turned_within
  simp [val, es_whl, hG, e1, c0, c2]
  refine whileR_then (P := fun r => P (outF (r.bind _))) (I := fun en => ∃ hi lo ri le jh jl z6 z7, en = [.va (po o), .va (po w), .va (po lo), .va (po hi), .va (po le), .va (po ri), z6, z7] ∧ TwS o w m n H Q hi lo ri le jh jl) (m := fun en => match en with
    | [_, _, .va (.tuple ds), _, _, _, _, _] => ds.length
    | _ => 0) ?_ ⟨w, rem o w, 0, 1, n, j0, .un, .un, by rw [po_zero], st0⟩
  rintro en ⟨hi, lo, ri, le, jh, jl, z6, z7, rfl, st⟩
  have st' := st
  obtain ⟨ch, cl, Mh, Ml, ua, ub, f1, f2, f3, f4, nh, nl, mh, ml, jj, jn, zh, zl, za, zb, bh, bl, rel⟩ := st'
  have dlo : Dg lo jl := by
    have := (Dg.C nl).mul ml.dg
    rwa [Nat.zero_add, ← f2] at this
  have llo := toL_len dlo
  have bB : (n - jh + 1) * Q ≤ (n + 1) * Q := Nat.mul_le_mul_right _ (by omega)
  have bB2 : (n + 1) * Q + (n + 1) * Q + (n + 1) * Q + 3 * Q = (3 * n + 6) * Q := by grind
  generalize eB : (n - jh + 1) * Q = B at *
  have zhi : Z (jh + 1) (B + H) hi := by rw [f1]; exact ⟨mh.1.smul _, zh.hb.ofC bh⟩
  have zlo : Z (jl + 1) (B + H) lo := by rw [f2]; exact ⟨ml.1.smul _, zl.hb.ofC bl⟩
  have zri : Z (n + 1) (B + H) ri := by rw [f3]; exact za.smul bh
  have zle : Z (n + 1) (B + H) le := by rw [f4]; exact zb.smul bl
  rcases Nat.eq_zero_or_pos jl with j0 | j1
  · left
    subst j0
    have hlt : ¬ ((1 : Int) < ((toL lo).length : Int)) := by omega
    have ix := idx_po dlo.pl (i := 0) (by omega)
    have M1 : Ml = 1 := by
      have := Dg.const ml.1
      rw [this, ml.2, PS.C_one]
    have lof : lo.f 0 = cl := by
      rw [f2, PS.C_mul, ml.2]
      grind
    rw [lof] at ix
    have e2 := ht cl nl
    have e3 := hk.z zle ((bl.inv2 nl).mono' (b := B + H) (by omega)) ⟨by omega, by omega⟩
    have e4 : PS.C cl⁻¹ * le = ub := by
      rw [f4]
      have : PS.C cl⁻¹ * (PS.C cl * ub) = (PS.C cl⁻¹ * PS.C cl) * ub := by grind
      rw [this, C_cancel nl]
      grind
    rw [e4] at e3
    refine ⟨by simp [val, llo], ?_⟩
    have ix' : sem2 .idx (po lo) (.int 0) = v1 (fr cl) := ix
    simp [val, ix', e2, e3]
    rw [hP]
    rcases rel with ⟨r1, r2, r3, r4, r5, r6⟩ | ⟨va', vb', eu⟩
    · refine ⟨ub, 0, Pl.zero, ?_, zb, rfl⟩
      rw [r4, ← r2, M1]
      grind
    · refine ⟨ub, vb', ⟨_, eu.lvb⟩, ?_, zb, rfl⟩
      rw [← eu.eb, M1]
  · right
    have hlt : (1 : Int) < ((toL lo).length : Int) := by omega
    obtain ⟨j', jlt, stn, zq⟩ := step st j1
    rw [eB] at zq
    have e2 := hp hi lo (jh + 1) (jl + 1) (B + H) (B + H) zhi zlo dlo.ne ⟨by omega, by omega, by
      have q1 := big (jh + 4) (n - jh + 2) (by omega)
      have q2 : (n - jh + 2) * Q = B + Q := by rw [← eB]; grind
      have q3 : (jh + 4) * (B + H + 1) ≤ (jh + 4) * ((n - jh + 2) * Q) := Nat.mul_le_mul_left _ (by omega)
      rw [← Nat.mul_assoc] at q3
      have q4 : (jh + 4) * (B + H + 1) = (jh + 1 + 2) * (B + H + 1) + (B + H + 1) := by grind
      omega⟩
    have nl2 : n + 1 ≤ 2 ^ l := by omega
    have e3 := hm (quo hi lo) le (n + 1) (n + 1) (B + B + Q) (B + H) l zq zle ⟨nl2, by omega, by omega, by omega⟩
    have zp := zq.mul zle nl2
    generalize eS : B + B + Q + (B + H) + l = S at *
    have b1 : Bd S (-1) := ⟨by show 1 ≤ _; exact Nat.one_le_two_pow, by show 1 ≤ _; exact Nat.one_le_two_pow⟩
    have e4 := hk.z zp b1 ⟨by omega, by omega⟩
    have zs : Z (n + 1 + (n + 1) - 1) S (PS.C (-1) * (quo hi lo * le)) := ⟨zp.lt.smul _, by
      rw [show PS.C (-1) * (quo hi lo * le) = -(quo hi lo * le) by rw [PS.C_neg, PS.C_one]; grind]
      exact zp.hb.neg⟩
    have e5 := hs.z (zri.mono (n := n + 1 + (n + 1) - 1) (k := S) (by omega) (by omega)) zs ⟨by omega, by omega⟩
    refine ⟨by simp [val, llo]; omega, [.va (po o), .va (po w), .va (po (rem hi lo)), .va (po lo), .va (po (ri + PS.C (-1) * (quo hi lo * le))), .va (po le), .va (po (quo hi lo)), .va (po (rem hi lo))], by simp [val, e2, e3, e4, e5, fr_m1, c2], ⟨lo, rem hi lo, le, _, jl, j', _, _, rfl, stn⟩, ?_⟩
    obtain ⟨ch', cl', Mh', Ml', ua', ub', g1, g2, g3, g4, nh', nl', mh', ml', _⟩ := stn
    have drm : Dg (rem hi lo) j' := by
      have := (Dg.C nl').mul ml'.dg
      rwa [Nat.zero_add, ← g2] at this
    have l2 := toL_len drm
    show ((toL (rem hi lo)).map fr).length < ((toL lo).map fr).length
    rw [List.length_map, List.length_map]
    omega
end
end AW

/-! AwPd: quotients parted. -/
namespace AW
open PySem PySem.Spec PyProof.Rows
open Classical in
/-- the simple fractions of a top over a part so often -/
noncomputable def rowsP (f : PS) : Nat → PS → List Row
  | 0, _ => []
  | t + 1, a => rowsP f t (quo a f) ++ (if rem a f = 0 then [] else [⟨f, t + 1, rem a f⟩])
theorem rowsP_len (f : PS) : ∀ (t : Nat) (a : PS), (rowsP f t a).length ≤ t
  | 0, _ => Nat.le_refl _
  | t + 1, a => by
    have := rowsP_len f t (quo a f)
    show (rowsP f t (quo a f) ++ _).length ≤ _
    rw [List.length_append]
    split <;> simp <;> omega
section
variable {G : Nat → D} {c : Nat → List Sl → R (D × Bool)} {T : List Fn} {nm : Nm}
def SpRowsOf (c : Nat → List Sl → R (D × Bool)) (j : Nat) : Prop := ∀ (f : PS) (m k t : Nat) (a : PS) (N h : Nat), Mn f m → Hb k f → Z N h a → t ≤ 1000 ∧ N ≤ 20000 ∧ m + 1 ≤ 20000 ∧ h + (t + 1) * ((N + 2) * (k + 1)) ≤ 39000000 → c j [.va (po f), .va (.int (t : Nat)), .va (po a)] = .ok (.list ((rowsP f t a).map rd), true)
theorem rows_of_ok {jp : Nat} (hp : SpDiv c jp) {f : PS} {m k t : Nat} {a : PS} {N h : Nat} (hf : Mn f m) (hk : Hb k f) (za : Z N h a) (hz : t ≤ 1000 ∧ N ≤ 20000 ∧ m + 1 ≤ 20000 ∧ h + (t + 1) * ((N + 2) * (k + 1)) ≤ 39000000) :
    bo G c T (b_rows_of jp) [.va (po f), .va (.int (t : Nat)), .va (po a)] 2 = .ok (.list ((rowsP f t a).map rd), true) := by
  obtain ⟨w1, w2, w3, w4⟩ := hz
  have c0 : (0 : Nat) ≤ line := Nat.zero_le _
  have c3 : (3 : Nat) ≤ line := by unfold line; omega
  unfold bo b_rows_of
  simp [val, es_whl, c0]
  refine whileR_then (P := fun r => outF (r.bind _) = _) (I := fun en => ∃ (s : Nat) (b : PS) (F : List Row) (z4 : Sl), en = [.va (po f), .va (.int (s : Nat)), .va (po b), .ow (F.map rd), z4] ∧ s ≤ t ∧ F.length ≤ t - s ∧ rowsP f s b ++ F.reverse = rowsP f t a ∧ Z N (h + (t - s) * (N * (k + 1))) b)
    (m := fun en => match en with
    | [_, .va (.int s), _, _, _] => s.toNat
    | _ => 0) ?_ ⟨t, a, [], .un, rfl, Nat.le_refl _, by simp, by simp, by rw [Nat.sub_self, Nat.zero_mul]; exact za⟩
  rintro en ⟨s, b, F, z4, rfl, hst, hF, hrow, zb⟩
  cases s with
  | zero =>
    left
    refine ⟨by simp [val], ?_⟩
    have e : (rowsP f t a).map rd = (F.map rd).reverse := by
      rw [← hrow, ← List.map_reverse]
      rfl
    rw [e]
    generalize F.map rd = FF
    simp [val]
  | succ s =>
    right
    have e1 := hp b f N (m + 1) (h + (t - (s + 1)) * (N * (k + 1))) k zb ⟨hf.1, hk⟩ hf.dg.ne ⟨by omega, by omega, by
      have q1 : (t - (s + 1)) * (N * (k + 1)) ≤ t * ((N + 2) * (k + 1)) := Nat.mul_le_mul (by omega) (Nat.mul_le_mul_right _ (by omega))
      rw [Nat.add_mul] at w4
      omega⟩
    obtain ⟨z1, z2⟩ := Z.div zb ⟨hf.1, hk⟩ hf.dg
    have e2 := ne_po0 z2.pl
    have hs : (0 : Int) < ((s + 1 : Nat) : Int) := by omega
    have hs1 : ((s + 1 : Nat) : Int) - 1 = (s : Int) := by omega
    have hlt : F.length < line := by unfold line; omega
    have zq : Z N (h + (t - s) * (N * (k + 1))) (quo b f) := z1.mono (by omega) (by
      have q : t - s = t - (s + 1) + 1 := by omega
      rw [q, Nat.add_mul]
      omega)
    by_cases q : rem b f = 0
    · refine ⟨by simp [val], [.va (po f), .va (.int (s : Nat)), .va (po (quo b f)), .ow (F.map rd), .va (po (rem b f))], ?_, ⟨s, quo b f, F, _, rfl, by omega, by omega, ?_, zq⟩, ?_⟩
      · rw [q] at e1 e2 ⊢
        have e2' : sem2 .ne (po 0) (.tuple []) = v1 (.bool false) := by rw [e2]; simp
        generalize F.map rd = FF
        simp [val, e1, e2', c0]
      · rw [← hrow]
        show _ = rowsP f s (quo b f) ++ _ ++ F.reverse
        rw [if_pos q, List.append_nil]
      · show ((s : Int)).toNat < (((s + 1 : Nat) : Int)).toNat
        omega
    · refine ⟨by simp [val], [.va (po f), .va (.int (s : Nat)), .va (po (quo b f)), .ow ((F ++ [(⟨f, s + 1, rem b f⟩ : Row)]).map rd), .va (po (rem b f))], ?_, ⟨s, quo b f, F ++ [(⟨f, s + 1, rem b f⟩ : Row)], _, rfl, by omega, by rw [List.length_append]; simp; omega, ?_, zq⟩, ?_⟩
      · rw [List.map_append]
        have hl2 : (F.map rd).length < line := by rw [List.length_map]; exact hlt
        generalize F.map rd = FF at *
        simp [val, e1, e2, q, c0, c3, hl2, rd]
      · rw [← hrow]
        show _ = rowsP f s (quo b f) ++ _ ++ F.reverse
        rw [if_neg q, List.reverse_append, List.append_assoc]
        rfl
      · show ((s : Int)).toNat < (((s + 1 : Nat) : Int)).toNat
        omega
/-! ### parted -/
/-- own is the top over the power w in a rest over b -/
def Own (b rest w own : PS) : Prop := Dv w (rest - own * quo b w) ∧ ∀ n, Mn w n → Lt own n
def PtOk (N M ha e l : Nat) : Prop := 4 * N + 2 ≤ 2 ^ l ∧ N ≤ 1000 ∧ M ≤ 10000 ∧ N * (e + 12) ≤ 30000000 ∧ ComOk N N ((N + 3) * (e + l + 1)) l ∧ (N + 5) * (N + 5) * twR N (N * (e + l)) ≤ 150000000 ∧ ha + (M + N * N + 6 * N + 10) * (e + l + 1) ≤ 39000000
/-- the bits of the tops over powers -/
def pdb (N M ha e l : Nat) : Nat := ha + (M + 3 * N + 1) * (e + l + 1)
theorem Cop.powpow {a b : PS} (pa : Pl a) (pb : Pl b) (h : Cop a b) (m n : Nat) : Cop (a ^ m) (b ^ n) := ((h.pow pa pb n).symm.pow (pb.pow n) pa m).symm
theorem Cop.Pw {f : PS} {F : List (PS × Nat)} (pf : Pl f) (g : Good F) (h : ∀ y ∈ F, Cop f y.1) : Cop f (AW.Pw F) := by
  induction F with
  | nil => exact Cop.one f
  | cons y F ih =>
    obtain ⟨⟨m, h1⟩, _, _, _, h5⟩ := g
    obtain ⟨d, hd⟩ := Pw_mn h5
    exact Cop.mul pf (h1.dg.pl.pow _) hd.dg.pl ((h y List.mem_cons_self).pow pf h1.dg.pl _) (ih h5 fun z hz => h z (List.mem_cons_of_mem _ hz))
/-- a power's other ones -/
theorem Pw_other {F : List (PS × Nat)} (g : Good F) {y : PS × Nat} (hy : y ∈ F) : ∃ o m, Mn o m ∧ Pw F = o * y.1 ^ y.2 ∧ Cop o (y.1 ^ y.2) := by
  revert hy
  induction F with
  | nil => intro h; cases h
  | cons w A ih =>
    have g' := g
    obtain ⟨⟨m', h1'⟩, h2, h3, h4, h5⟩ := g
    intro h
    obtain ⟨d, hd⟩ := Pw_mn h5
    rcases List.mem_cons.mp h with rfl | h
    · exact ⟨Pw A, d, hd, by show y.1 ^ y.2 * Pw A = _; grind, (Cop.Pw (h1'.dg.pl.pow _) h5 fun z hz => by
        obtain ⟨⟨mz, hz1⟩, _⟩ := h5.mn z hz
        exact ((h4 z hz).symm.pow hz1.dg.pl h1'.dg.pl _).symm).symm⟩
    · obtain ⟨o, m, ho, e, hc⟩ := ih h5 h
      obtain ⟨⟨my, hy1⟩, _⟩ := h5.mn y h
      refine ⟨w.1 ^ w.2 * o, _, (h1'.pow _).mul ho, ?_, Cop.mul_l (h1'.dg.pl.pow _) ho.dg.pl (hy1.dg.pl.pow _) ((h4 y h).powpow h1'.dg.pl hy1.dg.pl _ _) hc⟩
      show w.1 ^ w.2 * Pw A = _
      rw [e]
      grind
def SpParted (c : Nat → List Sl → R (D × Bool)) (j : Nat) : Prop := ∀ (a b : PS) (nb N M h ha e l : Nat), Z M ha a → Mn b nb → nb < N → Hb h b → (∀ g d, Mn g d → Dv g b → Hb e g) → h + l + 2 ≤ e → PtOk N M ha e l →
  ∃ (L : List (PS × Nat)) (own : PS × Nat → PS), SP b L ∧ (∀ z ∈ L, Own b (rem a b) (z.1 ^ z.2) (own z) ∧ Z N (pdb N M ha e l) (own z)) ∧ c j [.va (qd (a, b))] = va (.tuple [po (quo a b), .list ((L.flatMap fun z => rowsP z.1 z.2 (own z)).map rd)])
theorem parted_2_ok {jp js jw jm jt jr : Nat} (hp : SpDiv c jp) (hs : SpParts2 c js) (hw : SpPow c jw) (hm : SpProdZ c jm) (ht : SpTw c jt) (hr : SpRowsOf c jr) {a b : PS} {nb N M h ha e l : Nat} (za : Z M ha a) (hb : Mn b nb) (hbN : nb < N) (hbh : Hb h b) (hdv : ∀ g d, Mn g d → Dv g b → Hb e g) (he : h + l + 2 ≤ e) (ok : PtOk N M ha e l) :
    ∃ (L : List (PS × Nat)) (own : PS × Nat → PS), SP b L ∧ (∀ z ∈ L, Own b (rem a b) (z.1 ^ z.2) (own z) ∧ Z N (pdb N M ha e l) (own z)) ∧ bo G c T (b_parted_2 jp js jw jm jt jr) [.va (qd (a, b))] 10 = va (.tuple [po (quo a b), .list ((L.flatMap fun z => rowsP z.1 z.2 (own z)).map rd)]) := by
  obtain ⟨o1, o2, o3, o4, o5, o6, o7⟩ := ok
  have zb : Z N h b := ⟨hb.1.mono (by omega), hbh⟩
  have mb : mon b = b := mon_of hb
  obtain ⟨L, hL, e1⟩ := hs b N h l e zb hb.dg.ne (by rw [mb]; exact hdv) he o1 o2 o5
  obtain ⟨gL, pL, sL⟩ := hL.good
  rw [mb] at pL
  -- sums of bits
  generalize eE : e + l + 1 = E at *
  have x0 : (M + N * N + 6 * N + 10) * E = M * E + N * N * E + 6 * (N * E) + 10 * E := by grind
  have x1 : M * (h + 1) ≤ M * E := Nat.mul_le_mul_left _ (by omega)
  have x2 : (M + 2) * (h + 1) ≤ (M + 2) * E := Nat.mul_le_mul_left _ (by omega)
  have x2' : (M + 2) * E = M * E + 2 * E := by rw [Nat.add_mul]
  have x3 : (N + 2) * (e + 1) ≤ (N + 2) * E := Nat.mul_le_mul_left _ (by omega)
  have x3' : (N + 2) * E = N * E + 2 * E := by rw [Nat.add_mul]
  have x4 : N * (e + l) ≤ N * E := Nat.mul_le_mul_left _ (by omega)
  have x5 : (2 * N + 2) * (e + 1) ≤ (2 * N + 2) * E := Nat.mul_le_mul_left _ (by omega)
  have x5' : (2 * N + 2) * E = 2 * (N * E) + 2 * E := by grind
  have x6 : pdb N M ha e l = ha + M * E + 3 * (N * E) + E := by unfold pdb; rw [eE]; grind
  have x7 : (N + 1) * ((N + 2) * (e + 1)) ≤ (N + 1) * ((N + 2) * E) := Nat.mul_le_mul_left _ x3
  have x7' : (N + 1) * ((N + 2) * E) = N * N * E + 3 * (N * E) + 2 * E := by grind
  have zdiv := Z.div (h := ha) (k := h) (m := M) za ⟨hb.1, hbh⟩ hb.dg
  have e0 := hp a b M N ha h za zb hb.dg.ne ⟨by omega, by omega, by omega⟩
  have zr : Z N (ha + M * E) (rem a b) := zdiv.2.mono (by omega) (by omega)
  -- each part
  have one : ∀ z : PS × Nat, ∃ own : PS, z ∈ L → Own b (rem a b) (z.1 ^ z.2) own ∧ Z N (pdb N M ha e l) own ∧ z.2 ≤ N ∧ ∃ t : PS,
      c jw [.va (po z.1), .va (.int (z.2 : Nat))] = va (po (z.1 ^ z.2)) ∧
      c jp [.va (po b), .va (po (z.1 ^ z.2))] = va (.tuple [po (quo b (z.1 ^ z.2)), po (rem b (z.1 ^ z.2))]) ∧
      c jt [.va (po (quo b (z.1 ^ z.2))), .va (po (z.1 ^ z.2))] = va (po t) ∧
      c jm [.va (po (rem a b)), .va (po t)] = va (po (rem a b * t)) ∧
      c jp [.va (po (rem a b * t)), .va (po (z.1 ^ z.2))] = va (.tuple [po (quo (rem a b * t) (z.1 ^ z.2)), po own]) ∧
      c jr [.va (po z.1), .va (.int (z.2 : Nat)), .va (po own)] = .ok (.list ((rowsP z.1 z.2 own).map rd), true) := fun z => by
    by_cases hz : z ∈ L
    · obtain ⟨⟨m, hf⟩, _, t1⟩ := gL.mn z hz
      obtain ⟨o, mo, ho, eo, co⟩ := Pw_other gL hz
      rw [pL] at eo
      have hpw := hf.pow z.2
      have dvw : Dv (z.1 ^ z.2) b := ⟨o, ho.dg.pl, eo⟩
      have dvf : Dv z.1 b := by
        refine Dv.trans ?_ dvw
        have := pow_dv hf.dg.pl t1
        rwa [show (z.1 ^ 1 : PS) = z.1 by grind] at this
      have dvo : Dv o b := ⟨z.1 ^ z.2, hpw.dg.pl, by rw [eo]; grind⟩
      have hef := hdv _ _ hf dvf
      have hew := hdv _ _ hpw dvw
      have heo := hdv _ _ ho dvo
      have hdeg : nb = mo + (m + 1) * z.2 := by
        have := ho.mul hpw
        rw [← eo] at this
        exact hb.dg.uniq this.dg
      have ht1 : 1 * z.2 ≤ (m + 1) * z.2 := Nat.mul_le_mul_right _ (by omega)
      have qo : quo b (z.1 ^ z.2) = o := by
        rw [eo]
        exact (quo_mul hpw.dg.pl hpw.dg.ne ho.dg.pl).1
      generalize eN1 : (m + 1) * z.2 = n1 at *
      have hm1 : m + 1 ≤ n1 := by
        rw [← eN1]
        have : (m + 1) * 1 ≤ (m + 1) * z.2 := Nat.mul_le_mul_left _ t1
        omega
      have zf : Z (m + 1 + 1) e z.1 := ⟨hf.1, hef⟩
      have y1 := hw z.1 (m + 1) e z.2 zf ⟨by omega, by rw [eN1]; have : (2 : Nat) ^ 12 = 4096 := by decide
                                                       omega, by
        have : z.2 * (e + 12) ≤ N * (e + 12) := Nat.mul_le_mul_right _ (by omega)
        omega⟩
      have zw : Z N e (z.1 ^ z.2) := ⟨hpw.1.mono (by omega), hew⟩
      have y2 := hp b (z.1 ^ z.2) N N h e zb zw hpw.dg.ne ⟨by omega, by omega, by omega⟩
      have mo1 : mo + n1 ≤ N := by omega
      have hH : twH mo n1 e l ≤ N * (e + l) := Nat.mul_le_mul_right _ mo1
      obtain ⟨t, v, pv, et, zt, y3⟩ := ht o (z.1 ^ z.2) mo n1 e l ho hpw (by omega) co heo hew ⟨by omega, by omega, by
        refine Nat.le_trans (Nat.mul_le_mul (Nat.mul_le_mul (show n1 + 6 ≤ N + 5 by omega) (show n1 + 6 ≤ N + 5 by omega)) (?_ : twR n1 (twH mo n1 e l) ≤ twR N (N * (e + l)))) o6
        exact Nat.add_le_add hH (Nat.mul_le_mul (by omega) (Nat.add_le_add_right hH 1))⟩
      have zt' : Z N (N * E) t := zt.mono (by omega) (by omega)
      have nl2 : N ≤ 2 ^ l := by omega
      have y4 := hm (rem a b) t N N (ha + M * E) (N * E) l zr zt' ⟨nl2, by omega, by omega, by omega⟩
      have zp : Z (2 * N) (ha + M * E + N * E + l) (rem a b * t) := (zr.mul zt' nl2).mono (by omega) (Nat.le_refl _)
      have y5 := hp (rem a b * t) (z.1 ^ z.2) (2 * N) N (ha + M * E + N * E + l) e zp zw hpw.dg.ne ⟨by omega, by omega, by omega⟩
      obtain ⟨ed, hrd, hqd⟩ := quo_rem hpw.dg zp.lt
      have zd := (Z.div (m := 2 * N) (n := n1) zp ⟨hpw.1, hew⟩ hpw.dg).2
      have x8 : 2 * N * (e + 1) ≤ 2 * N * E := Nat.mul_le_mul_left _ (by omega)
      have x8' : 2 * N * E = 2 * (N * E) := by rw [Nat.mul_assoc]
      have zown : Z N (pdb N M ha e l) (rem (rem a b * t) (z.1 ^ z.2)) := zd.mono (by omega) (by rw [x6]; omega)
      have x9 : (z.2 + 1) * ((N + 2) * (e + 1)) ≤ (N + 1) * ((N + 2) * (e + 1)) := Nat.mul_le_mul_right _ (by omega)
      have y6 := hr z.1 (m + 1) e z.2 (rem (rem a b * t) (z.1 ^ z.2)) N (pdb N M ha e l) hf hef zown ⟨by omega, by omega, by omega, by rw [x6]; omega⟩
      refine ⟨rem (rem a b * t) (z.1 ^ z.2), fun _ => ⟨⟨?_, fun n hn => by rw [hn.dg.uniq hpw.dg]; exact hrd⟩, zown, by omega, t, y1, y2, by rw [qo]; exact y3, y4, y5, y6⟩⟩
      rw [qo]
      -- rest - own * o = rest * (1 - t * o) + quo * w * o
      generalize z.1 ^ z.2 = w at *
      refine ⟨rem a b * v + quo (rem a b * t) w * o, (zr.pl.mul pv).add (Pl.mul ⟨_, hqd⟩ ho.dg.pl), ?_⟩
      have r1 : rem (rem a b * t) w = rem a b * t - quo (rem a b * t) w * w := by
        have := ed
        grind
      rw [r1]
      have r2 : rem a b - (rem a b * t - quo (rem a b * t) w * w) * o = rem a b * (1 - t * o) + quo (rem a b * t) w * w * o := by grind
      rw [r2, ← et]
      grind
    · exact ⟨0, fun q => absurd q hz⟩
  obtain ⟨own, hown⟩ := Classical.axiomOfChoice one
  refine ⟨L, own, hL, fun z hz => ⟨(hown z hz).1, (hown z hz).2.1⟩, ?_⟩
  have c0 : (0 : Nat) ≤ line := Nat.zero_le _
  have c2 : (2 : Nat) ≤ line := by unfold line; omega
  have Ll : ∀ {k : Nat} {F : List (PS × Nat)}, Good F → ∀ d, Mn (Pw F) d → F.length ≤ d := fun {k F} => by
    induction F with
    | nil => intro _ d _; exact Nat.zero_le _
    | cons y F ih =>
      rintro ⟨⟨m, h1⟩, _, h3, _, h5⟩ d hd
      obtain ⟨n', hn'⟩ := Pw_mn h5
      have := ih h5 n' hn'
      have ed := hd.dg.uniq ((h1.pow y.2).mul hn').dg
      have : (m + 1) * 1 ≤ (m + 1) * y.2 := Nat.mul_le_mul_left _ h3
      simp only [List.length_cons]
      omega
  have lL : L.length ≤ nb := Ll (k := 0) gL nb (by rw [pL]; exact hb)
  have flen : ∀ i, ((L.take i).flatMap fun z => rowsP z.1 z.2 (own z)).length ≤ i * N := fun i => by
    have : ∀ A : List (PS × Nat), (∀ z ∈ A, z ∈ L) → (A.flatMap fun z => rowsP z.1 z.2 (own z)).length ≤ A.length * N := fun A => by
      induction A with
      | nil => intro _; simp
      | cons y A ih =>
        intro hA
        have i1 := ih fun z hz => hA z (List.mem_cons_of_mem _ hz)
        have i2 := rowsP_len y.1 y.2 (own y)
        have i3 := (hown y (hA y List.mem_cons_self)).2.2.1
        rw [List.flatMap_cons, List.length_append, List.length_cons, Nat.add_mul]
        omega
    refine Nat.le_trans (this _ fun z hz => List.mem_of_mem_take hz) (Nat.mul_le_mul_right _ ?_)
    rw [List.length_take]
    omega
  unfold bo b_parted_2
  unfold qd
  simp only [ess_cons, es_asg, val, List.cons_append, List.nil_append]
  simp [val, es_for, e0, e1, c0]
  refine forR_then (P := fun r => outF (r.bind _) = _) (I := fun i en => ∃ z6 z7 z8 z9 z10, en = [.va (.tuple [po a, po b]), .ow (((L.take i).flatMap fun z => rowsP z.1 z.2 (own z)).map rd), .va (po a), .va (po b), .va (po (quo a b)), .va (po (rem a b)), z6, z7, z8, z9, z10]) ?_ ⟨.un, .un, .un, .un, .un, rfl⟩ ?_
  · rintro i en d hi ⟨z6, z7, z8, z9, z10, rfl⟩
    rw [List.getElem?_map] at hi
    cases hx : L[i]? with
    | none => rw [hx] at hi; cases hi
    | some z =>
      rw [hx] at hi
      cases Option.some.inj hi
      have hil := (List.getElem?_eq_some_iff.mp hx).1
      obtain ⟨_, _, zN, t, y1, y2, y3, y4, y5, y6⟩ := hown z (List.mem_of_getElem? hx)
      have est : ((L.take (i + 1)).flatMap fun z => rowsP z.1 z.2 (own z)).map rd = ((L.take i).flatMap fun z => rowsP z.1 z.2 (own z)).map rd ++ (rowsP z.1 z.2 (own z)).map rd := by
        rw [List.take_succ, hx]
        show ((L.take i ++ [z]).flatMap _).map rd = _
        rw [List.flatMap_append, List.map_append, List.flatMap_singleton]
      rw [est]
      have fl := flen i
      have rl := rowsP_len z.1 z.2 (own z)
      have iN : i * N ≤ 1000 * 1000 := Nat.mul_le_mul (by omega) (by omega)
      have hlen : (((L.take i).flatMap fun z => rowsP z.1 z.2 (own z)).map rd).length + ((rowsP z.1 z.2 (own z)).map rd).length ≤ line := by
        rw [List.length_map, List.length_map]
        unfold line
        omega
      generalize ((L.take i).flatMap fun z => rowsP z.1 z.2 (own z)).map rd = A at *
      generalize (rowsP z.1 z.2 (own z)).map rd = B at *
      refine ⟨[.va (.tuple [po a, po b]), .ow (A ++ B), .va (po a), .va (po b), .va (po (quo a b)), .va (po (rem a b)), .va (po z.1), .va (.int (z.2 : Nat)), .va (po (z.1 ^ z.2)), .va (po (quo b (z.1 ^ z.2))), .va (po (own z))], .inl ?_, _, _, _, _, _, rfl⟩
      unfold pd
      simp only [bindT_tpt, bindTs_cons, bindT_nm, bindTs_nil, R.bind_ok, List.set_cons_succ, List.set_cons_zero]
      simp [val, y1, y2, y3, y4, y5, y6, extL, hlen]
  · rintro en ⟨z6, z7, z8, z9, z10, rfl⟩
    rw [List.length_map, List.take_length]
    generalize (L.flatMap fun z => rowsP z.1 z.2 (own z)).map rd = A
    simp [val, c2]
end
end AW

/-! AwUnq: simple parts are the only ones. -/
namespace AW
open PySem PySem.Spec PyProof.Rows
theorem seq_uniq {F F' : List (PS × Nat)} (g : Good F) (g' : Good F') (e : Pw F = Pw F') : ∀ k, Lp (Ge (k + 1) F) = Lp (Ge (k + 1) F') ∧ Rk (k + 1) (Ge (k + 1) F) = Rk (k + 1) (Ge (k + 1) F')
  | 0 => by
    have base : ∀ {F : List (PS × Nat)}, Good F → Lp F = quo (Pw F) (gcd (Pw F) (der (Pw F))) ∧ Rk 0 F = quo (der (Pw F)) (gcd (Pw F) (der (Pw F))) := fun {F} gF => by
      obtain ⟨f1, f2⟩ := der_Pm 0 (F := F) fun z hz => by have := (gF.mn z hz).2.2; omega
      rw [Pm_zero] at f1 f2
      obtain ⟨dP, hdP⟩ := Pm_mn 1 gF
      have hw : gcd (Pw F) (der (Pw F)) = Pm 1 F := by
        rw [f1]
        conv => lhs; lhs; rw [f2]
        rw [show Lp F * Pm (0 + 1) F = Pm 1 F * Lp F by grind]
        exact gcd_mul (Lp_pl gF) (Rk_pl 0 gF) hdP (Rk_cop 0 gF fun z hz => by have := (gF.mn z hz).2.2; omega)
      rw [hw]
      refine ⟨?_, ?_⟩
      · conv => rhs; lhs; rw [f2]
        exact (quo_mul hdP.dg.pl hdP.dg.ne (Lp_pl gF)).1.symm
      · conv => rhs; lhs; rw [f1]
        rw [show Pm (0 + 1) F * Rk 0 F = Rk 0 F * Pm 1 F by grind]
        exact (quo_mul hdP.dg.pl hdP.dg.ne (Rk_pl 0 gF)).1.symm
    obtain ⟨b1, b2⟩ := base g
    obtain ⟨b1', b2'⟩ := base g'
    rw [← e, ← b1] at b1'
    rw [← e, ← b2] at b2'
    rw [ge_one g, ge_one g']
    exact ⟨b1'.symm, by rw [← der_Lp 0 F, ← der_Lp 0 F', b1', b2']⟩
  | k + 1 => by
    obtain ⟨h1, h2⟩ := seq_uniq g g' e k
    have G1 : Good (Ge (k + 1) F) := g.filter _
    have G2 : Good (Ge (k + 1) F') := g'.filter _
    have a1 := gcd_at (k + 1) G1
    have a2 := gcd_at (k + 1) G2
    rw [at_ge] at a1 a2
    have ea : Lp (At (k + 1) F) = Lp (At (k + 1) F') := by rw [← a1, ← a2, h1, h2]
    obtain ⟨q1, q2⟩ := quo_at (k + 1) G1
    obtain ⟨q1', q2'⟩ := quo_at (k + 1) G2
    rw [at_ge, ov_ge] at q1 q2 q1' q2'
    have l : Lp (Ge (k + 1 + 1) F) = Lp (Ge (k + 1 + 1) F') := by rw [← q1, ← q1', h1, ea]
    have r : Rk (k + 1) (Ge (k + 1 + 1) F) = Rk (k + 1) (Ge (k + 1 + 1) F') := by rw [← q2, ← q2', h2, ea]
    exact ⟨l, by rw [← der_Lp (k + 1) (Ge (k + 1 + 1) F), ← der_Lp (k + 1) (Ge (k + 1 + 1) F'), l, r]⟩
theorem at_uniq {F F' : List (PS × Nat)} (g : Good F) (g' : Good F') (e : Pw F = Pw F') (k : Nat) : Lp (At (k + 1) F) = Lp (At (k + 1) F') := by
  obtain ⟨h1, h2⟩ := seq_uniq g g' e k
  have a1 := gcd_at (k + 1) (F := Ge (k + 1) F) (g.filter _)
  have a2 := gcd_at (k + 1) (F := Ge (k + 1) F') (g'.filter _)
  rw [at_ge] at a1 a2
  rw [← a1, ← a2, h1, h2]
theorem Lp_nil_iff {F : List (PS × Nat)} (g : Good F) : Lp F = 1 ↔ F = [] := by
  constructor
  · intro h
    cases F with
    | nil => rfl
    | cons y F =>
      exfalso
      have h5 := g.2.2.2.2
      obtain ⟨m, h1⟩ := g.1
      obtain ⟨n, hn⟩ := Lp_mn h5
      have d := (h1.mul hn).dg
      have e : y.1 * Lp F = 1 := h
      rw [e] at d
      have := d.uniq Mn.one.dg
      omega
  · rintro rfl; rfl
theorem partsF_stab {F : List (PS × Nat)} {K : Nat} (hK : ∀ z ∈ F, z.2 ≤ K) : ∀ j, K ≤ j → partsF F j = partsF F K := fun j hj => by
  induction j with
  | zero => rw [show K = 0 by omega]
  | succ j ih =>
    rcases Nat.eq_or_lt_of_le hj with q | q
    · rw [q]
    · show partsF F j ++ _ = _
      have : At (j + 1) F = [] := by
        unfold At
        rw [List.filter_eq_nil_iff]
        intro z hz hz2
        have hz2 : z.2 = j + 1 := by simpa using hz2
        have := hK z hz
        omega
      rw [if_pos this, List.append_nil]
      exact ih (by omega)
theorem partsF_uniq {F F' : List (PS × Nat)} (g : Good F) (g' : Good F') (e : Pw F = Pw F') : ∀ K, partsF F K = partsF F' K
  | 0 => rfl
  | K + 1 => by
    have ea := at_uniq g g' e K
    have i1 := Lp_nil_iff (F := At (K + 1) F) (g.filter _)
    have i2 := Lp_nil_iff (F := At (K + 1) F') (g'.filter _)
    show partsF F K ++ _ = partsF F' K ++ _
    rw [partsF_uniq g g' e K]
    by_cases h : At (K + 1) F = []
    · have h' : At (K + 1) F' = [] := i2.mp (by rw [← ea]; exact i1.mpr h)
      rw [if_pos h, if_pos h']
    · have h' : ¬ At (K + 1) F' = [] := fun z => h (i1.mp (by rw [ea]; exact i2.mpr z))
      rw [if_neg h, if_neg h', ea]
theorem SP.eq {p : PS} {L F' : List (PS × Nat)} {K' : Nat} (h : SP p L) (g' : Good F') (e' : Pw F' = mon p) (hK' : ∀ z ∈ F', z.2 ≤ K') : L = partsF F' K' := by
  obtain ⟨F, K, g, e, hK, rfl⟩ := h
  rw [← partsF_stab hK (max K K') (Nat.le_max_left _ _), ← partsF_stab hK' (max K K') (Nat.le_max_right _ _)]
  exact partsF_uniq g g' (by rw [e, e']) _
theorem SP.uniq {p : PS} {L L' : List (PS × Nat)} (h : SP p L) (h' : SP p L') : L = L' := by
  obtain ⟨F, K, g, e, hK, rfl⟩ := h'
  exact h.eq g e hK
end AW

/-! AwPr: the residues of parts. -/
namespace AW
open PySem PySem.Spec PyProof.Rows
/-! ### dicts in general -/
theorem dlook_cons (x : D × D) (kvs : List (D × D)) (k : D) : dlook (x :: kvs) k = if nk x.1 = nk k then some x.2 else dlook kvs k := by
  unfold dlook
  rw [List.find?_cons]
  by_cases h : nk x.1 = nk k
  · simp [h]
  · simp [h]
theorem dlook_map (k v k' : D) : ∀ kvs : List (D × D), dlook (kvs.map fun x => if nk x.1 = nk k then (x.1, v) else x) k' = if nk k = nk k' then (dlook kvs k).map (fun _ => v) else dlook kvs k'
  | [] => by
    by_cases h : nk k = nk k'
    · rw [if_pos h]; rfl
    · rw [if_neg h]; rfl
  | x :: kvs => by
    have ih := dlook_map k v k' kvs
    rw [List.map_cons, dlook_cons, dlook_cons, dlook_cons, ih]
    by_cases h : nk x.1 = nk k
    · have e1 : (if nk x.1 = nk k then (x.1, v) else x) = (x.1, v) := if_pos h
      have e2 : (if nk x.1 = nk k then some x.2 else dlook kvs k) = some x.2 := if_pos h
      rw [e1, e2]
      by_cases h2 : nk k = nk k'
      · rw [if_pos (show nk (x.1, v).1 = nk k' from h.trans h2), if_pos h2]; rfl
      · have h3 : ¬ nk x.1 = nk k' := fun z => h2 (h.symm.trans z)
        rw [if_neg h2, if_neg h3, if_neg h2, if_neg h3]
    · have e1 : (if nk x.1 = nk k then (x.1, v) else x) = x := if_neg h
      have e2 : (if nk x.1 = nk k then some x.2 else dlook kvs k) = dlook kvs k := if_neg h
      rw [e1, e2]
      by_cases h2 : nk k = nk k'
      · rw [if_pos h2, if_neg (fun z => h (z.trans h2.symm)), if_pos h2]
      · rw [if_neg h2, if_neg h2]
theorem dlook_snoc (k v k' : D) : ∀ kvs : List (D × D), dlook kvs k = none → dlook (kvs ++ [(k, v)]) k' = if nk k = nk k' then some v else dlook kvs k'
  | [], _ => by
    show dlook ((k, v) :: []) k' = _
    rw [dlook_cons]
  | x :: kvs, hn => by
    rw [dlook_cons] at hn
    by_cases h : nk x.1 = nk k
    · rw [if_pos h] at hn; cases hn
    · rw [if_neg h] at hn
      have ih := dlook_snoc k v k' kvs hn
      show dlook (x :: (kvs ++ [(k, v)])) k' = _
      rw [dlook_cons, dlook_cons, ih]
      by_cases h2 : nk k = nk k'
      · rw [if_pos h2, if_neg (fun z => h (z.trans h2.symm)), if_pos h2]
      · rw [if_neg h2, if_neg h2]
theorem dlook_dput (kvs : List (D × D)) (k v k' : D) : dlook (dput kvs k v) k' = if nk k = nk k' then some v else dlook kvs k' := by
  unfold dput
  cases h : dlook kvs k with
  | none => rw [if_neg (by simp), dlook_snoc k v k' kvs h]
  | some w =>
    rw [if_pos (show (some w).isSome = true from rfl), dlook_map, h]
    rfl
theorem dput_len (kvs : List (D × D)) (k v : D) : (dput kvs k v).length ≤ kvs.length + 1 := by
  unfold dput
  split
  · rw [List.length_map]; omega
  · rw [List.length_append]; simp
theorem nks_inj : ∀ {p q : List Rat}, nks (p.map fr) = nks (q.map fr) → p = q
  | [], [], _ => rfl
  | [], _ :: _, h => by cases h
  | _ :: _, [], h => by cases h
  | a :: p, b :: q, h => by
    have h : nk (fr a) :: nks (p.map fr) = nk (fr b) :: nks (q.map fr) := h
    injection h with h1 h2
    rw [nk_inj.mp h1, nks_inj h2]
theorem nk_po {a b : PS} (ha : Pl a) (hb : Pl b) : nk (po a) = nk (po b) ↔ a = b := by
  constructor
  · intro h
    have h : NestedKey.tup (nks ((toL a).map fr)) = .tup (nks ((toL b).map fr)) := h
    injection h with h
    exact toL_inj ha hb (nks_inj h)
  · rintro rfl; rfl
theorem keyBs_fr : ∀ p : List Rat, keyBs (p.map fr) = true
  | [] => rfl
  | a :: p => by
    show (keyB (fr a) && keyBs (p.map fr)) = true
    rw [keyBs_fr p]
    rfl
theorem depth_fr : ∀ p : List Rat, NestedKey.depthAll (nks (p.map fr)) ≤ 2
  | [] => by show NestedKey.depthAll [] ≤ 2; simp [NestedKey.depthAll]
  | a :: p => by
    have ih := depth_fr p
    have e : (nk (fr a)).depth ≤ 2 := by
      show (NestedKey.tup [.num a.num, .num (a.den : Int)]).depth ≤ 2
      simp [NestedKey.depth, NestedKey.depthAll]
    show NestedKey.depthAll (nk (fr a) :: nks (p.map fr)) ≤ 2
    rw [NestedKey.depthAll]
    omega
theorem keyOk_po (a : PS) : keyOk (po a) = true := by
  have h1 := keyBs_fr (toL a)
  have h2 := depth_fr (toL a)
  show (true && keyBs ((toL a).map fr) && decide ((NestedKey.tup (nks ((toL a).map fr))).depth ≤ 8)) = true
  rw [h1]
  simp [NestedKey.depth]
  omega
/-! ### tops over a part once -/
noncomputable def dg1 (f : PS) : Nat → PS → PS
  | 0, _ => 0
  | 1, a => rem a f
  | t + 2, a => dg1 f (t + 1) (quo a f)
theorem dg1_lt {f : PS} {n : Nat} (hf : Mn f n) : ∀ (t : Nat) {a : PS}, Pl a → Lt (dg1 f t a) n
  | 0, _, _ => Lt.zero _
  | 1, a, ⟨m, h⟩ => (quo_rem hf.dg h).2.1
  | t + 2, a, ⟨m, h⟩ => dg1_lt hf (t + 1) (a := quo a f) ⟨_, (quo_rem hf.dg h).2.2⟩
theorem dg1_top {f : PS} {n : Nat} (hf : Mn f n) (n1 : 1 ≤ n) : ∀ (t : Nat) {a : PS}, 1 ≤ t → Lt a (n * t) → (dg1 f t a).f (n - 1) = a.f (n * t - 1)
  | 0, _, h, _ => by omega
  | 1, a, _, h => by
    rw [Nat.mul_one] at h ⊢
    show (rem a f).f _ = _
    rw [(quo_eq hf.dg Pl.zero h (show a = 0 * f + a by grind)).2]
  | t + 2, a, _, h => by
    obtain ⟨e, hr, hq⟩ := quo_rem hf.dg h
    have e2 : n * (t + 2) - n = n * (t + 1) := by rw [Nat.mul_add, Nat.mul_add]; omega
    rw [e2] at hq
    have ih := dg1_top hf n1 (t + 1) (a := quo a f) (by omega) hq
    show (dg1 f (t + 1) (quo a f)).f _ = _
    rw [ih]
    have p1 : 1 * 1 ≤ n * (t + 1) := Nat.mul_le_mul n1 (by omega)
    have tm := top_mul hf.1 (a := quo a f) (m := n * (t + 1) - 1) (hq.mono (by omega))
    rw [hf.2] at tm
    have e3 : n * (t + 1) - 1 + n = n * (t + 2) - 1 := by rw [Nat.mul_add, Nat.mul_add]; rw [Nat.mul_add] at p1; omega
    rw [e3] at tm
    conv => rhs; rw [e]
    rw [PS.add_f, tm, hr _ (by rw [Nat.mul_add]; omega)]
    grind
open Classical in
/-- the last row told of a part once -/
noncomputable def lk1 (f : PS) (acc : PS) (r : Row) : PS := if r.t = 1 ∧ r.p = f then r.o else acc
theorem lk1_other {f : PS} : ∀ {rs : List Row} {acc : PS}, (∀ r ∈ rs, r.p ≠ f) → rs.foldl (lk1 f) acc = acc
  | [], _, _ => rfl
  | r :: rs, acc, h => by
    show rs.foldl (lk1 f) (lk1 f acc r) = acc
    rw [lk1_other fun x hx => h x (List.mem_cons_of_mem _ hx)]
    unfold lk1
    rw [if_neg fun z => h r List.mem_cons_self z.2]
theorem rowsP_p {f : PS} : ∀ (t : Nat) (a : PS), ∀ r ∈ rowsP f t a, r.p = f
  | 0, _, r, hr => by cases hr
  | t + 1, a, r, hr => by
    rcases List.mem_append.mp hr with hr | hr
    · exact rowsP_p t _ r hr
    · by_cases q : rem a f = 0
      · rw [if_pos q] at hr; cases hr
      · rw [if_neg q] at hr
        rcases List.mem_cons.mp hr with rfl | hr
        · rfl
        · cases hr
open Classical in
theorem lk1_rows {f : PS} : ∀ (t : Nat) (a acc : PS), 1 ≤ t → (rowsP f t a).foldl (lk1 f) acc = if dg1 f t a = 0 then acc else dg1 f t a
  | 0, _, _, h => by omega
  | 1, a, acc, _ => by
    show (rowsP f 0 (quo a f) ++ _).foldl (lk1 f) acc = _
    show ([] ++ _ : List Row).foldl (lk1 f) acc = if rem a f = 0 then acc else rem a f
    rw [List.nil_append]
    by_cases q : rem a f = 0
    · rw [if_pos q, if_pos q]; rfl
    · rw [if_neg q, if_neg q]
      show lk1 f acc _ = _
      unfold lk1
      rw [if_pos ⟨rfl, rfl⟩]
  | t + 2, a, acc, _ => by
    show (rowsP f (t + 1) (quo a f) ++ _).foldl (lk1 f) acc = _
    rw [List.foldl_append, lk1_rows (t + 1) (quo a f) acc (by omega)]
    show List.foldl (lk1 f) _ _ = if dg1 f (t + 1) (quo a f) = 0 then acc else dg1 f (t + 1) (quo a f)
    by_cases q : rem a f = 0
    · rw [if_pos q]; rfl
    · rw [if_neg q, List.foldl_cons, List.foldl_nil]
      have : ∀ A : PS, lk1 f A ⟨f, t + 1 + 1, rem a f⟩ = A := fun A => by
        unfold lk1
        rw [if_neg (fun z => by have : t + 1 + 1 = 1 := z.1; omega)]
      rw [this]
theorem lk1_flat_other {own : PS × Nat → PS} {f : PS} : ∀ {L : List (PS × Nat)} {acc : PS}, (∀ z ∈ L, z.1 ≠ f) → (L.flatMap fun z => rowsP z.1 z.2 (own z)).foldl (lk1 f) acc = acc
  | [], _, _ => rfl
  | y :: L, acc, h => by
    rw [List.flatMap_cons, List.foldl_append, lk1_other (rs := rowsP y.1 y.2 (own y)) fun r hr => by
      rw [rowsP_p _ _ r hr]; exact h y List.mem_cons_self]
    exact lk1_flat_other fun z hz => h z (List.mem_cons_of_mem _ hz)
theorem lk1_flat {own : PS × Nat → PS} : ∀ {L : List (PS × Nat)}, (L.map (·.1)).Nodup → (∀ z ∈ L, 1 ≤ z.2) → ∀ z ∈ L, (L.flatMap fun z => rowsP z.1 z.2 (own z)).foldl (lk1 z.1) 0 = dg1 z.1 z.2 (own z)
  | [], _, _, z, hz => by cases hz
  | y :: L, hn, h1, z, hz => by
    rw [List.map_cons, List.nodup_cons] at hn
    rw [List.flatMap_cons, List.foldl_append]
    rcases List.mem_cons.mp hz with rfl | hz
    · rw [lk1_rows _ _ _ (h1 z List.mem_cons_self), lk1_flat_other fun x hx e => hn.1 (List.mem_map.mpr ⟨x, hx, e⟩)]
      split
      · next q => exact q.symm
      · rfl
    · rw [lk1_other (rs := rowsP y.1 y.2 (own y)) fun r hr => by
        rw [rowsP_p _ _ r hr]
        exact fun e => hn.1 (List.mem_map.mpr ⟨z, hz, e.symm⟩)]
      exact lk1_flat hn.2 (fun x hx => h1 x (List.mem_cons_of_mem _ hx)) z hz
theorem Good.nodup {F : List (PS × Nat)} (g : Good F) : (F.map (·.1)).Nodup := by
  induction F with
  | nil => exact List.nodup_nil
  | cons y F ih =>
    have g5 := g.2.2.2.2
    rw [List.map_cons, List.nodup_cons]
    refine ⟨fun h => ?_, ih g5⟩
    obtain ⟨x, hx, e⟩ := List.mem_map.mp h
    obtain ⟨m, h1⟩ := g.1
    have c := g.2.2.2.1 x hx
    rw [e] at c
    obtain ⟨u, v, pu, pv, e1⟩ := c
    have d1 : Dv y.1 1 := ⟨u + v, pu.add pv, by rw [← e1]; grind⟩
    have := d1.dg h1.dg Mn.one.dg
    omega
section
variable {G : Nat → D} {c : Nat → List Sl → R (D × Bool)} {T : List Fn} {nm : Nm}
def SpPartRes (c : Nat → List Sl → R (D × Bool)) (j : Nat) : Prop := ∀ (a b : PS) (nb N M h ha e l : Nat), Z M ha a → Mn b nb → nb < N → Hb h b → (∀ g d, Mn g d → Dv g b → Hb e g) → h + l + 2 ≤ e → PtOk N M ha e l →
  ∃ (L : List (PS × Nat)) (own : PS × Nat → PS) (w : PS × Nat → Rat), SP b L ∧ (∀ z ∈ L, Own b (rem a b) (z.1 ^ z.2) (own z) ∧ ∀ n, Mn z.1 n → w z = (own z).f (n * z.2 - 1)) ∧ c j [.va (qd (a, b))] = .ok (.list (L.map fun z => .tuple [po z.1, fr (w z)]), true)
theorem part_residues_ok {jp js kN : Nat} (hG : G kN = fr 0) (hp : SpParted c jp) (hs : SpParts2 c js) {a b : PS} {nb N M h ha e l : Nat} (za : Z M ha a) (hb : Mn b nb) (hbN : nb < N) (hbh : Hb h b) (hdv : ∀ g d, Mn g d → Dv g b → Hb e g) (he : h + l + 2 ≤ e) (ok : PtOk N M ha e l) :
    ∃ (L : List (PS × Nat)) (own : PS × Nat → PS) (w : PS × Nat → Rat), SP b L ∧ (∀ z ∈ L, Own b (rem a b) (z.1 ^ z.2) (own z) ∧ ∀ n, Mn z.1 n → w z = (own z).f (n * z.2 - 1)) ∧ bo G c T (b_part_residues jp js kN) [.va (qd (a, b))] 5 = .ok (.list (L.map fun z => .tuple [po z.1, fr (w z)]), true) := by
  obtain ⟨L, own, hL, hown, e1⟩ := hp a b nb N M h ha e l za hb hbN hbh hdv he ok
  have ok' := ok
  obtain ⟨o1, o2, o3, o4, o5, o6, o7⟩ := ok'
  have mb : mon b = b := mon_of hb
  obtain ⟨L', hL', e2⟩ := hs b N h l e ⟨hb.1.mono (by omega), hbh⟩ hb.dg.ne (by rw [mb]; exact hdv) he o1 o2 o5
  have eL := hL'.uniq hL
  subst eL
  obtain ⟨gL, pL, sL⟩ := hL.good
  rw [mb] at pL
  have nd := gL.nodup
  have t1 : ∀ z ∈ L', 1 ≤ z.2 := fun z hz => (gL.mn z hz).2.2
  have deg : ∀ z ∈ L', ∀ n, Mn z.1 n → n < N := fun z hz n hn => by
    obtain ⟨o, mo, ho, eo, _⟩ := Pw_other gL hz
    rw [pL] at eo
    have d := ho.mul (hn.pow z.2)
    rw [← eo] at d
    have := hb.dg.uniq d.dg
    have h2 : n * 1 ≤ n * z.2 := Nat.mul_le_mul_left _ (t1 z hz)
    omega
  have hw : ∀ z : PS × Nat, ∃ w : Rat, z ∈ L' → ∀ n, Mn z.1 n → w = (own z).f (n * z.2 - 1) := fun z => by
    by_cases hz : z ∈ L'
    · obtain ⟨⟨m, hm⟩, _⟩ := gL.mn z hz
      exact ⟨(own z).f ((m + 1) * z.2 - 1), fun _ n hn => by rw [hn.dg.uniq hm.dg]⟩
    · exact ⟨0, fun q => absurd q hz⟩
  obtain ⟨w, hw⟩ := Classical.axiomOfChoice hw
  refine ⟨L', own, w, hL, fun z hz => ⟨(hown z hz).1, hw z hz⟩, ?_⟩
  obtain ⟨rows, hrows⟩ : ∃ rows, rows = (L'.flatMap fun z => rowsP z.1 z.2 (own z)) := ⟨_, rfl⟩
  have hlk : ∀ z ∈ L', rows.foldl (lk1 z.1) 0 = dg1 z.1 z.2 (own z) := fun z hz => by rw [hrows]; exact lk1_flat nd t1 z hz
  have rpl : ∀ r ∈ rows, Pl r.p := fun r hr => by
    rw [hrows] at hr
    obtain ⟨z, hz, hr⟩ := List.mem_flatMap.mp hr
    rw [rowsP_p _ _ r hr]
    obtain ⟨⟨m, hm⟩, _⟩ := gL.mn z hz
    exact hm.dg.pl
  have Ll : L'.length ≤ N := by
    have : ∀ {F : List (PS × Nat)}, Good F → ∀ d, Mn (Pw F) d → F.length ≤ d := fun {F} => by
      induction F with
      | nil => intro _ d _; exact Nat.zero_le _
      | cons y F ih =>
        rintro ⟨⟨m, h1⟩, _, h3, _, h5⟩ d hd
        obtain ⟨n', hn'⟩ := Pw_mn h5
        have := ih h5 n' hn'
        have ed := hd.dg.uniq ((h1.pow y.2).mul hn').dg
        have : (m + 1) * 1 ≤ (m + 1) * y.2 := Nat.mul_le_mul_left _ h3
        simp only [List.length_cons]
        omega
    have := this gL nb (by rw [pL]; exact hb)
    omega
  have rl : rows.length ≤ 1000 * 1000 := by
    rw [hrows]
    have z2N : ∀ z ∈ L', z.2 ≤ N := fun z hz => by
      obtain ⟨⟨m, hm⟩, _⟩ := gL.mn z hz
      obtain ⟨o, mo, ho, eo, _⟩ := Pw_other gL hz
      rw [pL] at eo
      have d := ho.mul (hm.pow z.2)
      rw [← eo] at d
      have := hb.dg.uniq d.dg
      have h2 : 1 * z.2 ≤ (m + 1) * z.2 := Nat.mul_le_mul_right _ (by omega)
      omega
    have : ∀ A : List (PS × Nat), (∀ z ∈ A, z ∈ L') → (A.flatMap fun z => rowsP z.1 z.2 (own z)).length ≤ A.length * N := fun A => by
      induction A with
      | nil => intro _; simp
      | cons y A ih =>
        intro hA
        have i1 := ih fun z hz => hA z (List.mem_cons_of_mem _ hz)
        have i2 := rowsP_len y.1 y.2 (own y)
        have i3 := z2N y (hA y List.mem_cons_self)
        rw [List.flatMap_cons, List.length_append, List.length_cons, Nat.add_mul]
        omega
    exact Nat.le_trans (this L' fun _ h => h) (Nat.mul_le_mul (by omega) o2)
  rw [← hrows] at e1
  have c2 : (2 : Nat) ≤ line := by unfold line; omega
  have c0 : (0 : Nat) ≤ line := Nat.zero_le _
  have i1 : sem2 .idx (.tuple [po (quo a b), .list (rows.map rd)]) (.int 1) = v1 (.list (rows.map rd)) := by rw [s2_idxt, atD_1]
  obtain ⟨QD, hQD⟩ : ∃ d, d = qd (a, b) := ⟨_, rfl⟩
  have iq : sem2 .idx QD (.int 1) = v1 (po b) := by rw [hQD]; exact idx_qd1 _
  rw [← hQD] at e1 ⊢
  unfold bo b_part_residues
  simp [val, es_for, e1, i1]
  refine forR_then (P := fun r => outF (r.bind _) = _) (I := fun i en => ∃ kvs z3 z4 z5, en = [.va QD, .dk kvs, .un, z3, z4, z5] ∧ kvs.length ≤ i ∧ ∀ f, Pl f → (dlook kvs (po f)).getD (po 0) = po ((rows.take i).foldl (lk1 f) 0)) ?_ ⟨[], .un, .un, .un, rfl, Nat.le_refl _, fun f _ => rfl⟩ ?_
  · rintro i en d hi ⟨kvs, z3, z4, z5, rfl, hl, hk⟩
    rw [List.getElem?_map] at hi
    cases hx : rows[i]? with
    | none => rw [hx] at hi; cases hi
    | some r =>
      rw [hx] at hi
      cases Option.some.inj hi
      have hil := (List.getElem?_eq_some_iff.mp hx).1
      have hrp := rpl r (List.mem_of_getElem? hx)
      have est : ∀ f, (rows.take (i + 1)).foldl (lk1 f) 0 = lk1 f ((rows.take i).foldl (lk1 f) 0) r := fun f => by
        rw [List.take_succ, hx]
        show ((rows.take i) ++ [r]).foldl (lk1 f) 0 = _
        rw [List.foldl_append]
        rfl
      have ko := keyOk_po r.p
      have hlt : kvs.length < line := by unfold line; omega
      by_cases h1 : r.t = 1
      · refine ⟨[.va QD, .dk (dput kvs (po r.p) (po r.o)), .un, .va (po r.p), .va (.int (r.t : Nat)), .va (po r.o)], .inl ?_, _, _, _, _, rfl, by have := dput_len kvs (po r.p) (po r.o); omega, fun f hf => ?_⟩
        · unfold rd
          simp only [bindT_tpt, bindTs_cons, bindT_nm, bindTs_nil, R.bind_ok, List.set_cons_succ, List.set_cons_zero]
          have h1' : (r.t : Int) = 1 := by omega
          simp [val, h1', ko, hlt]
        · rw [est, dlook_dput]
          unfold lk1
          by_cases hf2 : r.p = f
          · rw [if_pos ((nk_po hrp hf).mpr hf2), if_pos ⟨h1, hf2⟩]; rfl
          · rw [if_neg (fun z => hf2 ((nk_po hrp hf).mp z)), if_neg (fun z => hf2 z.2)]
            exact hk f hf
      · refine ⟨[.va QD, .dk kvs, .un, .va (po r.p), .va (.int (r.t : Nat)), .va (po r.o)], .inl ?_, _, _, _, _, rfl, by omega, fun f hf => ?_⟩
        · unfold rd
          simp only [bindT_tpt, bindTs_cons, bindT_nm, bindTs_nil, R.bind_ok, List.set_cons_succ, List.set_cons_zero]
          have h1' : ¬ (r.t : Int) = 1 := by omega
          simp [val, h1']
        · rw [est]
          unfold lk1
          rw [if_neg (fun z => h1 z.1)]
          exact hk f hf
  · rintro en ⟨kvs, z3, z4, z5, rfl, hl, hk⟩
    rw [List.length_map, List.take_length] at hk
    simp [val, es_for, iq, e2, c0]
    refine forR_then (P := fun r => outF (r.bind _) = _) (I := fun i en => ∃ z3 z4 z5, en = [.va QD, .dk kvs, .ow ((L'.take i).map fun z => .tuple [po z.1, fr (w z)]), z3, z4, z5]) ?_ ⟨_, _, _, rfl⟩ ?_
    · rintro i en d hi ⟨z3, z4, z5, rfl⟩
      rw [List.getElem?_map] at hi
      cases hx : L'[i]? with
      | none => rw [hx] at hi; cases hi
      | some z =>
        rw [hx] at hi
        cases Option.some.inj hi
        have hil := (List.getElem?_eq_some_iff.mp hx).1
        have hz := List.mem_of_getElem? hx
        obtain ⟨⟨m, hm⟩, _, z1⟩ := gL.mn z hz
        have est : ((L'.take (i + 1)).map fun z => (PyData.tuple [po z.1, fr (w z)] : D)) = ((L'.take i).map fun z => (PyData.tuple [po z.1, fr (w z)] : D)) ++ [.tuple [po z.1, fr (w z)]] := by
          rw [List.take_succ, hx]
          show ((L'.take i) ++ [z]).map _ = _
          rw [List.map_append]
          rfl
        have hkz := hk z.1 hm.dg.pl
        rw [hlk z hz] at hkz
        have ho := (hown z hz).1.2 _ (hm.pow z.2)
        have dlt := dg1_lt hm z.2 (a := own z) ⟨_, ho⟩
        have dtop := dg1_top hm (by omega) z.2 z1 ho
        rw [← hw z hz _ hm] at dtop
        rw [show m + 1 - 1 = m by omega] at dtop
        have ko := keyOk_po z.1
        have lz := toL_len hm.dg
        have hlen : ((L'.take i).map fun z => (PyData.tuple [po z.1, fr (w z)] : D)).length < line := by
          rw [List.length_map, List.length_take]
          unfold line
          omega
        rw [est]
        generalize ((L'.take i).map fun z => (PyData.tuple [po z.1, fr (w z)] : D)) = A at *
        generalize hdd : dg1 z.1 z.2 (own z) = dd at *
        refine ⟨[.va QD, .dk kvs, .ow (A ++ [.tuple [po z.1, fr (w z)]]), .va (po z.1), .va (.int (z.2 : Nat)), .va (po dd)], .inl ?_, _, _, _, rfl⟩
        unfold pd
        simp only [bindT_tpt, bindTs_cons, bindT_nm, bindTs_nil, R.bind_ok, List.set_cons_succ, List.set_cons_zero]
        have eg : dlook kvs (po z.1) = some (po dd) ∨ (dlook kvs (po z.1) = none ∧ dd = 0) := by
          cases hq : dlook kvs (po z.1) with
          | none => rw [hq] at hkz; exact .inr ⟨rfl, ((po_inj Pl.zero ⟨_, dlt⟩).mp hkz).symm⟩
          | some d => rw [hq] at hkz; exact .inl (by rw [← hkz]; rfl)
        by_cases hd : dd.f m = 0
        · have hll : ¬ ((toL dd).length : Int) = ((m + 1 : Nat) : Int) + 1 - 1 := by
            have : (toL dd).length ≤ m := toL_le (fun k hk => by
              rcases Nat.eq_or_lt_of_le hk with rfl | hk
              · exact hd
              · exact dlt k hk)
            omega
          have w0 : w z = 0 := by rw [← dtop, hd]
          have hll' : ¬ ((toL dd).length : Int) = (m : Int) + 1 := by omega
          rcases eg with eg | ⟨eg, d0⟩
          · simp [val, ev_dget, ko, eg, c2, c0, lz, hll', hG, hlen, w0]
          · subst d0
            have m0 : ¬ (0 : Int) = (m : Int) + 1 := by omega
            simp [val, ev_dget, ko, eg, c2, c0, lz, m0, hG, hlen, w0, po_zero]
        · have dd2 : Dg dd m := ⟨dlt, hd⟩
          have hll : ((toL dd).length : Int) = (m : Int) + 1 := by rw [toL_len dd2]; omega
          have ix := idx_last dd2
          rw [dtop] at ix
          rcases eg with eg | ⟨eg, d0⟩
          · simp [val, ev_dget, ko, eg, c2, c0, lz, hll, hG, hlen, ix]
          · subst d0
            exact absurd (PS.zero_f m) hd
    · rintro en ⟨z3, z4, z5, rfl⟩
      rw [List.length_map, List.take_length]
      simp [val]
end
end AW

/-! AwK45: quotients made of tops over pieces; what stands over each power. -/
namespace AW
open PySem PySem.Spec PyProof.Rows
/-- a piece, how often, the top above it once -/
structure Pc where
  p : List Rat
  t : Nat
  o : List Rat
def pcd (x : Pc) : D := .tuple [.list (x.p.map fr), .int (x.t : Nat), .list (x.o.map fr)]
structure PcOk (x : Pc) : Prop where
  mem : x.p ∈ pcs
  t1 : 1 ≤ x.t
  t3 : x.t ≤ 3
  len : x.o.length + 1 = x.p.length
  bd : BdL 4 x.o
def Pc.m (x : Pc) : Nat := x.p.length - 1
def Pc.e (x : Pc) : Prop := 1 < x.t ∨ ser x.o ≠ 0
/-- the top over the piece so often -/
def Pc.g (x : Pc) : PS := ser x.o * ser x.p ^ (x.t - 1) + (if 1 < x.t then 1 else 0)
def Pc.l (x : Pc) : Rat := (ser x.o).f (x.m - 1)
theorem PcOk.mn {x : Pc} (h : PcOk x) : Mn (ser x.p) x.m := pc_mn h.mem
theorem PcOk.m1 {x : Pc} (h : PcOk x) : 1 ≤ x.m ∧ x.m ≤ 2 := by
  have := pc_len h.mem
  unfold Pc.m
  omega
theorem PcOk.lto {x : Pc} (h : PcOk x) : Lt (ser x.o) x.m := (lt_ser x.o).mono (by have := h.len; unfold Pc.m; omega)
theorem sq2 (a : Rat) : a * a + (-2) ≠ 0 := fun z => by
  have e1 : a * a = 2 := by grind
  have hd := a.den_nz
  have e2 : (a.num : Rat) = a * (a.den : Rat) := by
    have := Rat.num_divInt_den a
    rw [Rat.divInt_eq_div] at this
    have hne : ((a.den : Int) : Rat) ≠ 0 := int_ne (by omega)
    have h3 : (a.num : Rat) / ((a.den : Int) : Rat) * ((a.den : Int) : Rat) = (a.num : Rat) := by grind
    rw [this] at h3
    rw [← h3]
    rfl
  have e3 : (a.num : Rat) * (a.num : Rat) = 2 * ((a.den : Rat) * (a.den : Rat)) := by
    rw [e2]
    have : a * (a.den : Rat) * (a * (a.den : Rat)) = a * a * ((a.den : Rat) * (a.den : Rat)) := by grind
    rw [this, e1]
  have e4 : a.num * a.num = 2 * ((a.den : Int) * (a.den : Int)) := by
    have : ((a.num * a.num : Int) : Rat) = ((2 * ((a.den : Int) * (a.den : Int)) : Int) : Rat) := by
      push_cast
      exact e3
    exact Rat.intCast_inj.mp this
  have red := a.reduced
  have e5 : a.num.natAbs * a.num.natAbs = 2 * (a.den * a.den) := by
    have := congrArg Int.natAbs e4
    rw [Int.natAbs_mul, Int.natAbs_mul, Int.natAbs_mul, Int.natAbs_natCast] at this
    exact this
  generalize a.num.natAbs = n at *
  generalize a.den = d at *
  have h2 : n % 2 = 0 := by
    rcases Nat.mod_two_eq_zero_or_one n with q | q
    · exact q
    · have := Nat.mul_mod n n 2
      rw [q] at this
      omega
  obtain ⟨k, rfl⟩ : ∃ k, n = 2 * k := ⟨n / 2, by omega⟩
  have e6 : d * d = 2 * (k * k) := by
    have : 2 * k * (2 * k) = 4 * (k * k) := by grind
    omega
  have h3 : d % 2 = 0 := by
    rcases Nat.mod_two_eq_zero_or_one d with q | q
    · exact q
    · have := Nat.mul_mod d d 2
      rw [q] at this
      omega
  have h4 : 2 ∣ Nat.gcd (2 * k) d := Nat.dvd_gcd ⟨k, rfl⟩ (Nat.dvd_of_mod_eq_zero h3)
  have red : Nat.gcd (2 * k) d = 1 := red
  rw [red] at h4
  omega
/-- tops over pieces that have no root that is a fraction -/
theorem PcOk.cop {x : Pc} (h : PcOk x) (hx : x.p ∈ [pcs[0], pcs[1], pcs[2], pcs[3], pcs[5], pcs[6]]) (n0 : ser x.o ≠ 0) : Cop (ser x.o) (ser x.p) := by
  have lin : x.p.length = 2 → Cop (ser x.o) (ser x.p) := fun hl => by
    have l1 : Lt (ser x.o) 1 := h.lto.mono (by unfold Pc.m; omega)
    have e := Dg.const l1
    have c0 : (ser x.o).f 0 ≠ 0 := fun z => n0 (by rw [e, z, PS.C_zero])
    rw [e]
    exact ⟨PS.C ((ser x.o).f 0)⁻¹, 0, Pl.C _, Pl.zero, by rw [C_cancel c0]; grind⟩
  have quad : ∀ w : Rat, (∀ a : Rat, a * a + w ≠ 0) → x.p = [w, 0, 1] → Cop (ser x.o) (ser x.p) := fun w hw hp => by
    have lo := h.len
    rw [hp] at lo
    have hol : x.o.length = 2 := by simp at lo; omega
    obtain ⟨c0, c1, ho⟩ : ∃ c0 c1, x.o = [c0, c1] := by
      match hq : x.o, hol with
      | [c0, c1], _ => exact ⟨c0, c1, rfl⟩
    rw [ho] at n0 ⊢
    rw [hp]
    have e1 : ser [c0, c1] = PS.C c0 + PS.X * PS.C c1 := by
      show PS.C c0 + PS.X * (PS.C c1 + PS.X * 0) = _
      grind
    have e2 : ser [w, 0, 1] = PS.X * PS.X + PS.C w := by
      show PS.C w + PS.X * (PS.C 0 + PS.X * (PS.C 1 + PS.X * 0)) = _
      rw [PS.C_zero, PS.C_one]
      grind
    have nz : c0 * c0 + w * (c1 * c1) ≠ 0 := fun z => by
      by_cases h1 : c1 = 0
      · rw [h1] at z
        have h0 : c0 = 0 := by grind
        rw [h0, h1] at n0
        exact n0 (by show PS.C 0 + PS.X * (PS.C 0 + PS.X * 0) = 0; rw [PS.C_zero]; grind)
      · refine hw (c0 * c1⁻¹) ?_
        have hi : c1⁻¹ * c1 = 1 := Rat.inv_mul_cancel _ h1
        have : c0 * c1⁻¹ * (c0 * c1⁻¹) + w = (c0 * c0 + w * (c1 * c1)) * (c1⁻¹ * c1⁻¹) := by
          generalize c1⁻¹ = i at *
          grind
        rw [this, z]
        grind
    refine ⟨PS.C (c0 * c0 + w * (c1 * c1))⁻¹ * (PS.C c0 - PS.X * PS.C c1), PS.C (c0 * c0 + w * (c1 * c1))⁻¹ * (PS.C c1 * PS.C c1), ?_, ?_, ?_⟩
    · exact (Pl.C _).mul ((Pl.C _).sub (Pl.X.mul (Pl.C _)))
    · exact (Pl.C _).mul ((Pl.C _).mul (Pl.C _))
    · rw [e1, e2]
      have : PS.C (c0 * c0 + w * (c1 * c1))⁻¹ * (PS.C c0 - PS.X * PS.C c1) * (PS.C c0 + PS.X * PS.C c1) + PS.C (c0 * c0 + w * (c1 * c1))⁻¹ * (PS.C c1 * PS.C c1) * (PS.X * PS.X + PS.C w) = PS.C (c0 * c0 + w * (c1 * c1))⁻¹ * (PS.C c0 * PS.C c0 + PS.C w * (PS.C c1 * PS.C c1)) := by grind
      rw [this, ← PS.C_mulC, ← PS.C_mulC, ← PS.C_mulC, ← PS.C_add, C_cancel nz]
  simp only [List.mem_cons, List.not_mem_nil, or_false] at hx
  rcases hx with hx | hx | hx | hx | hx | hx
  · exact lin (by rw [hx]; rfl)
  · exact lin (by rw [hx]; rfl)
  · exact lin (by rw [hx]; rfl)
  · exact lin (by rw [hx]; rfl)
  · exact quad 1 sq_ne1 hx
  · refine quad (-2) (fun a z => ?_) hx
    exact sq2 a z
open Classical in
/-- tops and bottoms put together, the newest ahead -/
noncomputable def AA : List Pc → PS × PS
  | [] => (0, 1)
  | x :: R => if x.e then ((AA R).1 * ser x.p ^ x.t + x.g * (AA R).2, (AA R).2 * ser x.p ^ x.t) else AA R
open Classical in
/-- the same for those that stand k times -/
noncomputable def wg (k : Nat) : List Pc → PS × PS
  | [] => (0, 1)
  | x :: R => if x.e ∧ x.t = k then ((wg k R).1 * ser x.p ^ k + x.g * (wg k R).2, (wg k R).2 * ser x.p ^ k) else wg k R
open Classical in
noncomputable def nmk (k : Nat) : List Pc → Rat
  | [] => 0
  | x :: R => if x.e ∧ x.t = k then nmk k R + x.l else nmk k R
open Classical in
noncomputable def FF : List Pc → List (PS × Nat)
  | [] => []
  | x :: R => if x.e then (ser x.p, x.t) :: FF R else FF R
theorem AA_wg : ∀ {R : List Pc}, (∀ x ∈ R, PcOk x) → (AA R).2 = (wg 1 R).2 * (wg 2 R).2 * (wg 3 R).2 ∧ (AA R).1 = (wg 1 R).1 * (wg 2 R).2 * (wg 3 R).2 + (wg 2 R).1 * (wg 1 R).2 * (wg 3 R).2 + (wg 3 R).1 * (wg 1 R).2 * (wg 2 R).2
  | [], _ => ⟨by show (1 : PS) = 1 * 1 * 1; grind, by show (0 : PS) = 0 * 1 * 1 + 0 * 1 * 1 + 0 * 1 * 1; grind⟩
  | x :: R, h => by
    obtain ⟨i1, i2⟩ := AA_wg fun y hy => h y (List.mem_cons_of_mem _ hy)
    have hx := h x List.mem_cons_self
    unfold AA wg
    by_cases he : x.e
    · have : x.t = 1 ∨ x.t = 2 ∨ x.t = 3 := by have := hx.t1; have := hx.t3; omega
      rcases this with ht | ht | ht
      · rw [if_pos he, if_pos ⟨he, ht⟩, if_neg (fun z => by omega), if_neg (fun z => by omega), ht]
        generalize ser x.p ^ 1 = P
        exact ⟨by rw [i1]; grind, by rw [i1, i2]; grind⟩
      · rw [if_pos he, if_neg (fun z => by omega), if_pos ⟨he, ht⟩, if_neg (fun z => by omega), ht]
        generalize ser x.p ^ 2 = P
        exact ⟨by rw [i1]; grind, by rw [i1, i2]; grind⟩
      · rw [if_pos he, if_neg (fun z => by omega), if_neg (fun z => by omega), if_pos ⟨he, ht⟩, ht]
        generalize ser x.p ^ 3 = P
        exact ⟨by rw [i1]; grind, by rw [i1, i2]; grind⟩
    · rw [if_neg he, if_neg (fun z => he z.1), if_neg (fun z => he z.1), if_neg (fun z => he z.1)]
      exact ⟨i1, i2⟩
theorem Pw_FF : ∀ R : List Pc, Pw (FF R) = (AA R).2
  | [] => rfl
  | x :: R => by
    have ih := Pw_FF R
    unfold FF AA
    by_cases he : x.e
    · rw [if_pos he, if_pos he]
      show ser x.p ^ x.t * Pw (FF R) = _
      rw [ih]
      grind
    · rw [if_neg he, if_neg he]; exact ih
theorem Lp_FF (k : Nat) : ∀ R : List Pc, Lp (At k (FF R)) ^ k = (wg k R).2
  | [] => one_pow' k
  | x :: R => by
    have ih := Lp_FF k R
    unfold FF wg
    by_cases he : x.e
    · rw [if_pos he]
      unfold At at ih ⊢
      by_cases ht : x.t = k
      · rw [List.filter_cons_of_pos (by simpa using ht), if_pos ⟨he, ht⟩]
        show (ser x.p * Lp _) ^ k = _
        rw [mul_pow', ih]
        grind
      · rw [List.filter_cons_of_neg (by simpa using ht), if_neg (fun z => ht z.2)]
        exact ih
    · rw [if_neg he, if_neg (fun z => he z.1)]; exact ih
theorem FF_mem {R : List Pc} : ∀ z ∈ FF R, ∃ x ∈ R, x.e ∧ z = (ser x.p, x.t) := by
  induction R with
  | nil => intro z hz; cases hz
  | cons x R ih =>
    intro z hz
    unfold FF at hz
    by_cases he : x.e
    · rw [if_pos he] at hz
      rcases List.mem_cons.mp hz with rfl | hz
      · exact ⟨x, List.mem_cons_self, he, rfl⟩
      · obtain ⟨y, hy, h⟩ := ih z hz
        exact ⟨y, List.mem_cons_of_mem _ hy, h⟩
    · rw [if_neg he] at hz
      obtain ⟨y, hy, h⟩ := ih z hz
      exact ⟨y, List.mem_cons_of_mem _ hy, h⟩
theorem FF_good {R : List Pc} (h : ∀ x ∈ R, PcOk x) (nd : (R.map (·.p)).Nodup) : Good (FF R) := by
  induction R with
  | nil => trivial
  | cons x R ih =>
    rw [List.map_cons, List.nodup_cons] at nd
    have i := ih (fun y hy => h y (List.mem_cons_of_mem _ hy)) nd.2
    have hx := h x List.mem_cons_self
    unfold FF
    by_cases he : x.e
    · rw [if_pos he]
      refine ⟨⟨x.m - 1, by have := hx.m1; rw [show x.m - 1 + 1 = x.m by omega]; exact hx.mn⟩, pc_der hx.mem, hx.t1, fun y hy => ?_, i⟩
      obtain ⟨z, hz, _, rfl⟩ := FF_mem y hy
      exact pc_cop hx.mem (h z (List.mem_cons_of_mem _ hz)).mem fun e => nd.1 (List.mem_map.mpr ⟨z, hz, e.symm⟩)
    · rw [if_neg he]; exact i
/-- how great the top over a piece is -/
theorem PcOk.glt {x : Pc} (h : PcOk x) (he : x.e) : Lt x.g (x.m * x.t) ∧ x.g.f (x.m * x.t - 1) = x.l := by
  have hm := h.m1
  have hp := h.mn.pow (x.t - 1)
  have ho := h.lto
  have ht := h.t1
  have e1 : x.m + x.m * (x.t - 1) = x.m * x.t := by
    rw [show x.t = x.t - 1 + 1 by omega, Nat.mul_add]
    simp
    omega
  have l1 : Lt (ser x.o * ser x.p ^ (x.t - 1)) (x.m * x.t) := ho.mul' hp.1 (by omega)
  have c1 : (ser x.o * ser x.p ^ (x.t - 1)).f (x.m * x.t - 1) = x.l := by
    have tm := top_mul hp.1 (a := ser x.o) (m := x.m - 1) (ho.mono (by omega))
    rw [hp.2] at tm
    rw [show x.m * x.t - 1 = x.m - 1 + x.m * (x.t - 1) by omega, tm]
    show (ser x.o).f (x.m - 1) * 1 = (ser x.o).f (x.m - 1)
    grind
  unfold Pc.g
  by_cases h2 : 1 < x.t
  · have q : 1 * 2 ≤ x.m * x.t := Nat.mul_le_mul hm.1 h2
    rw [if_pos h2]
    refine ⟨l1.add (Lt.one.mono (by omega)), ?_⟩
    rw [PS.add_f, c1, Lt.one _ (by omega)]
    grind
  · rw [if_neg h2, show ser x.o * ser x.p ^ (x.t - 1) + 0 = ser x.o * ser x.p ^ (x.t - 1) by grind]
    exact ⟨l1, c1⟩
theorem wg_top (k : Nat) : ∀ {R : List Pc}, (∀ x ∈ R, PcOk x) → ∃ d, Mn (wg k R).2 d ∧ Lt (wg k R).1 d ∧ (d = 0 → nmk k R = 0) ∧ (1 ≤ d → (wg k R).1.f (d - 1) = nmk k R)
  | [], _ => ⟨0, Mn.one, Lt.zero _, fun _ => rfl, fun h => by omega⟩
  | x :: R, h => by
    obtain ⟨d, i1, i2, i3, i4⟩ := wg_top k fun y hy => h y (List.mem_cons_of_mem _ hy)
    have hx := h x List.mem_cons_self
    unfold wg nmk
    by_cases he : x.e ∧ x.t = k
    · rw [if_pos he, if_pos he]
      obtain ⟨g1, g2⟩ := hx.glt he.1
      rw [he.2] at g1 g2
      have hm := hx.m1
      have hk := hx.t1
      rw [he.2] at hk
      have hp := hx.mn.pow k
      have q : 1 * 1 ≤ x.m * k := Nat.mul_le_mul hm.1 hk
      refine ⟨d + x.m * k, i1.mul hp, (i2.mul' hp.1 (by omega)).add (g1.mul' i1.1 (by omega)), fun z => by omega, fun _ => ?_⟩
      have t2 := top_mul i1.1 (a := x.g) (m := x.m * k - 1) (g1.mono (by omega))
      rw [g2, i1.2, show x.m * k - 1 + d = d + x.m * k - 1 by omega] at t2
      rw [PS.add_f, t2]
      rcases Nat.eq_zero_or_pos d with d0 | d0
      · have : (wg k R).1 = 0 := (i2.mono (by omega)).nil
        rw [this, i3 d0, show (0 : PS) * ser x.p ^ k = 0 by grind, PS.zero_f]
        show 0 + x.l * 1 = 0 + x.l
        grind
      · have t1 := top_mul hp.1 (a := (wg k R).1) (m := d - 1) (i2.mono (by omega))
        rw [i4 d0, hp.2, show d - 1 + x.m * k = d + x.m * k - 1 by omega] at t1
        rw [t1]
        show nmk k R * 1 + x.l * 1 = nmk k R + x.l
        grind
    · rw [if_neg he, if_neg he]
      exact ⟨d, i1, i2, i3, i4⟩
/-- what stands over a power -/
theorem own_num {R : List Pc} (h : ∀ x ∈ R, PcOk x) (nd : (R.map (·.p)).Nodup) {L : List (PS × Nat)} (hL : SP (AA R).2 L) {d : Nat} (hd : Mn (AA R).2 d) (hlt : Lt (AA R).1 d) {z : PS × Nat} (hz : z ∈ L) {own : PS} (ho : Own (AA R).2 (rem (AA R).1 (AA R).2) (z.1 ^ z.2) own) {w : Rat} (hw : ∀ n, Mn z.1 n → w = own.f (n * z.2 - 1)) :
    w = nmk z.2 R := by
  have gF := FF_good h nd
  have eL := hL.eq gF (by rw [Pw_FF, mon_of hd]) (K' := 3) fun y hy => by
    obtain ⟨x, hx, _, rfl⟩ := FF_mem y hy
    exact (h x hx).t3
  obtain ⟨gL, pL, sL⟩ := hL.good
  rw [mon_of hd] at pL
  have hz' := hz
  rw [eL] at hz'
  obtain ⟨k1, k3, ez, ne⟩ := partsF_mem z hz'
  obtain ⟨⟨m, hm⟩, _⟩ := gL.mn z hz
  have wz := hw _ hm
  have hpw := hm.pow z.2
  have ew : z.1 ^ z.2 = (wg z.2 R).2 := by rw [← Lp_FF z.2 R, ← ez]
  obtain ⟨o, mo, hmo, eo, co⟩ := Pw_other gL hz
  rw [pL] at eo
  obtain ⟨d', i1, i2, i3, i4⟩ := wg_top z.2 h
  have hd' : d' = (m + 1) * z.2 := by
    rw [← ew] at i1
    exact i1.dg.uniq hpw.dg
  have q1 : 1 * 1 ≤ (m + 1) * z.2 := Nat.mul_le_mul (by omega) k1
  have er : rem (AA R).1 (AA R).2 = (AA R).1 := (quo_eq hd.dg Pl.zero hlt (show (AA R).1 = 0 * (AA R).2 + (AA R).1 by grind)).2
  have qo : quo (AA R).2 (z.1 ^ z.2) = o := by
    rw [eo]
    exact (quo_mul hpw.dg.pl hpw.dg.ne hmo.dg.pl).1
  obtain ⟨hdv, hlt2⟩ := ho
  rw [er, qo] at hdv
  have plw : ∀ k, Pl (wg k R).2 ∧ Pl (wg k R).1 := fun k => by
    obtain ⟨dk, j1, j2, _⟩ := wg_top k h
    exact ⟨j1.dg.pl, ⟨_, j2⟩⟩
  have dv2 : Dv (z.1 ^ z.2) ((AA R).1 - (wg z.2 R).1 * o) := by
    obtain ⟨b1, b2⟩ := AA_wg h
    rw [eo, ew] at b1
    have k13 : z.2 = 1 ∨ z.2 = 2 ∨ z.2 = 3 := by omega
    have cn := i1.dg.ne
    rw [ew, b2]
    rcases k13 with e | e | e
    · rw [e] at b1 cn ⊢
      have : o = (wg 2 R).2 * (wg 3 R).2 := Pl.cancel hmo.dg.pl ((plw 2).1.mul (plw 3).1) (plw 1).1 cn (by rw [b1]; grind)
      rw [this]
      exact ⟨(wg 2 R).1 * (wg 3 R).2 + (wg 3 R).1 * (wg 2 R).2, ((plw 2).2.mul (plw 3).1).add ((plw 3).2.mul (plw 2).1), by grind⟩
    · rw [e] at b1 cn ⊢
      have : o = (wg 1 R).2 * (wg 3 R).2 := Pl.cancel hmo.dg.pl ((plw 1).1.mul (plw 3).1) (plw 2).1 cn (by rw [b1]; grind)
      rw [this]
      exact ⟨(wg 1 R).1 * (wg 3 R).2 + (wg 3 R).1 * (wg 1 R).2, ((plw 1).2.mul (plw 3).1).add ((plw 3).2.mul (plw 1).1), by grind⟩
    · rw [e] at b1 cn ⊢
      have : o = (wg 1 R).2 * (wg 2 R).2 := Pl.cancel hmo.dg.pl ((plw 1).1.mul (plw 2).1) (plw 3).1 cn (by rw [b1])
      rw [this]
      exact ⟨(wg 1 R).1 * (wg 2 R).2 + (wg 2 R).1 * (wg 1 R).2, ((plw 1).2.mul (plw 2).1).add ((plw 2).2.mul (plw 1).1), by grind⟩
  have dv3 : Dv (z.1 ^ z.2) (o * (own - (wg z.2 R).1)) := by
    have := dv2.sub hdv
    rwa [show (AA R).1 - (wg z.2 R).1 * o - ((AA R).1 - own * o) = o * (own - (wg z.2 R).1) by grind] at this
  have lo := hlt2 _ hpw
  rw [hd'] at i2 i4
  have ps : Pl (own - (wg z.2 R).1) := ⟨_, lo.sub i2⟩
  have dv4 := Cop.dv_mul ps co.symm dv3
  have e0 : own - (wg z.2 R).1 = 0 := Classical.byContradiction fun q => by
    obtain ⟨j, hj⟩ := ps.dg q
    have a1 := dv4.dg hpw.dg hj
    have a2 := hj.lt (lo.sub i2)
    omega
  have e1 : own = (wg z.2 R).1 := by grind
  rw [wz, e1]
  exact i4 (by omega)
end AW

/-! AwK43g: the drawn quotient of two pieces at most. -/
namespace AW
open PySem PySem.Spec PyProof.Rows
section
variable {G : Nat → D} {c : Nat → List Sl → R (D × Bool)} {T : List Fn} {nm : Nm}
end
end AW

/-! AwK43h: the law of rows told. -/
namespace AW
open PySem PySem.Spec PyProof.Rows
section
variable {G : Nat → D} {c : Nat → List Sl → R (D × Bool)} {T : List Fn} {nm : Nm}
end
end AW

/-! AwK45b: pieces drawn; the quotient made of them. -/
namespace AW
open PySem PySem.Spec PyProof.Rows
def pcs6 : List (List Rat) := [pcs[0], pcs[1], pcs[2], pcs[3], pcs[5], pcs[6]]
structure PcOk2 (x : Pc) : Prop where
  ok : PcOk x
  six : x.p ∈ [pcs[0], pcs[1], pcs[2], pcs[3], pcs[5], pcs[6]]
def degs (R : List Pc) : Nat := (R.map fun x => x.m * x.t).sum
theorem degs_cons (x : Pc) (R : List Pc) : degs (x :: R) = x.m * x.t + degs R := by
  unfold degs
  rw [List.map_cons, List.sum_cons]
theorem cop_step {A B P g : PS} (pA : Pl A) (pB : Pl B) (pP : Pl P) (pg : Pl g) (h1 : Cop A B) (h2 : Cop B P) (h3 : Cop g P) : Cop (A * P + g * B) (B * P) := by
  refine Cop.mul ((pA.mul pP).add (pg.mul pB)) pB pP ?_ ?_
  · exact ((Cop.mul pB pA pP h1.symm h2).add_mul (s := g) pg).symm
  · have := (Cop.mul pP pg pB h3.symm h2.symm).add_mul (s := A) pA
    rw [show g * B + A * P = A * P + g * B by grind] at this
    exact this.symm
theorem PcOk2.gcop {x : Pc} (h : PcOk2 x) (he : x.e) : Cop x.g (ser x.p) ∧ Cop x.g (ser x.p ^ x.t) := by
  have pp := h.ok.mn.dg.pl
  have pg : Pl x.g := ⟨_, (h.ok.glt he).1⟩
  have key : Cop x.g (ser x.p) := by
    unfold Pc.g
    by_cases h2 : 1 < x.t
    · rw [if_pos h2]
      have e : ser x.o * ser x.p ^ (x.t - 1) = (ser x.o * ser x.p ^ (x.t - 2)) * ser x.p := by
        rw [show x.t - 1 = x.t - 2 + 1 by omega]
        grind
      rw [e]
      have := ((Cop.one (ser x.p)).add_mul (s := ser x.o * ser x.p ^ (x.t - 2)) ((pl_ser _).mul (pp.pow _))).symm
      rwa [show 1 + ser x.o * ser x.p ^ (x.t - 2) * ser x.p = ser x.o * ser x.p ^ (x.t - 2) * ser x.p + 1 by grind] at this
    · rw [if_neg h2]
      have ht : x.t = 1 := by have := h.ok.t1; omega
      rw [ht, show ser x.o * ser x.p ^ (1 - 1) + 0 = ser x.o by
        show ser x.o * 1 + 0 = _
        grind]
      rcases he with he | he
      · omega
      · exact h.ok.cop h.six he
  exact ⟨key, key.pow pg pp _⟩
theorem PcOk.zg {x : Pc} (h : PcOk x) (he : x.e) : Z (x.m * x.t) 40 x.g := by
  refine ⟨(h.glt he).1, ?_⟩
  have zp := pc_z h.mem
  have zt : Z 2 10 (ser x.o) := ⟨h.lto.mono h.m1.2, (Hb.ser h.bd).mono (by have := h.len; have := (pc_len h.mem).2; omega)⟩
  have zw := hbpow zp (x.t - 1) (by have := h.t3; omega)
  have z1 := (zt.mul zw (l := 1) (by decide)).hb.mono (b := 39) (by have := h.t3; omega)
  unfold Pc.g
  by_cases h2 : 1 < x.t
  · rw [if_pos h2]
    exact (z1.add (Hb.one 0)).mono (by omega)
  · rw [if_neg h2, show ser x.o * ser x.p ^ (x.t - 1) + 0 = ser x.o * ser x.p ^ (x.t - 1) by grind]
    exact z1.mono (by omega)
structure Mk45 (R : List Pc) (d : Nat) : Prop where
  mn : Mn (AA R).2 d
  dd : d ≤ degs R
  lt : Lt (AA R).1 d
  cop : Cop (AA R).1 (AA R).2
  oth : ∀ p ∈ pcs, p ∉ R.map (·.p) → Cop (AA R).2 (ser p)
  hb : Hb (20 * degs R) (AA R).2
  ha : Hb (300 * R.length) (AA R).1
theorem AA_ok : ∀ {R : List Pc}, (∀ x ∈ R, PcOk2 x) → (R.map (·.p)).Nodup → degs R ≤ 9 → ∃ d, Mk45 R d
  | [], _, _, _ => ⟨0, Mn.one, Nat.zero_le _, Lt.zero _, Cop.one _, fun p _ _ => (Cop.one _).symm, Hb.one _, Hb.zero _⟩
  | x :: R, h, nd, hd => by
    rw [degs_cons] at hd
    rw [List.map_cons, List.nodup_cons] at nd
    have hx := h x List.mem_cons_self
    obtain ⟨d, k⟩ := AA_ok (fun y hy => h y (List.mem_cons_of_mem _ hy)) nd.2 (by omega)
    have eL : (x :: R).length = R.length + 1 := rfl
    by_cases he : x.e
    · have e : AA (x :: R) = ((AA R).1 * ser x.p ^ x.t + x.g * (AA R).2, (AA R).2 * ser x.p ^ x.t) := by
        conv => lhs; unfold AA
        rw [if_pos he]
      have kk := k
      obtain ⟨k1, k2, k3, k4, k5, k6, k7⟩ := k
      have cb := k5 x.p hx.ok.mem nd.1
      have pp := hx.ok.mn.dg.pl
      have hpw := hx.ok.mn.pow x.t
      obtain ⟨g1, g2⟩ := hx.gcop he
      have zg := hx.ok.zg he
      have zw := hbpow (pc_z hx.ok.mem) x.t hx.ok.t3
      have t1 := hx.ok.t1
      have t3 := hx.ok.t3
      have hm := hx.ok.m1
      have q : 1 * x.t ≤ x.m * x.t := Nat.mul_le_mul_right _ hm.1
      refine ⟨d + x.m * x.t, ?_, ?_, ?_, ?_, ?_, ?_, ?_⟩ <;> (try rw [e])
      · exact k1.mul hpw
      · rw [degs_cons]; omega
      · exact (k3.mul' hpw.1 (by omega)).add (zg.lt.mul' k1.1 (by omega))
      · exact cop_step ⟨_, k3⟩ k1.dg.pl hpw.dg.pl zg.pl k4 (cb.pow k1.dg.pl pp _) g2
      · intro p hp hn
        rw [List.map_cons, List.mem_cons, not_or] at hn
        exact Cop.mul_l k1.dg.pl hpw.dg.pl (pl_ser p) (k5 p hp hn.2) ((pc_cop hx.ok.mem hp fun z => hn.1 z.symm).symm.pow (pl_ser p) pp x.t).symm
      · rw [degs_cons]
        exact (k6.mul zw.hb k1.1 (l := 4) (by omega)).mono (by omega)
      · rw [eL]
        have a1 := k7.mul zw.hb k3 (l := 4) (by omega)
        have a2 := zg.hb.mul k6 zg.lt (l := 4) (by omega)
        exact (a1.add a2).mono (by omega)
    · have e : AA (x :: R) = AA R := by
        conv => lhs; unfold AA
        rw [if_neg he]
      obtain ⟨k1, k2, k3, k4, k5, k6, k7⟩ := k
      refine ⟨d, ?_, ?_, ?_, ?_, ?_, ?_, ?_⟩ <;> (try rw [e])
      · exact k1
      · rw [degs_cons]; omega
      · exact k3
      · exact k4
      · intro p hp hn
        rw [List.map_cons, List.mem_cons, not_or] at hn
        exact k5 p hp hn.2
      · rw [degs_cons]
        exact k6.mono (by omega)
      · rw [eL]
        exact k7.mono (by omega)
section
variable {G : Nat → D} {c : Nat → List Sl → R (D × Bool)} {T : List Fn} {nm : Nm}
theorem made_step {jq js : Nat} (hq : SpQuot c jq) (hs : SpQSum c js) {R : List Pc} {x : Pc} (ok : ∀ y ∈ x :: R, PcOk2 y) (nd : ((x :: R).map (·.p)).Nodup) (hd : degs (x :: R) ≤ 9) (hl : R.length ≤ 5) :
    ∃ q1 m1 : PS × PS, c jq [.va (po (ser x.o)), .va (po (ser x.p))] = va (qd q1) ∧ c js [.va (qd (AA R)), .va (qd q1)] = va (qd m1) ∧ (¬ 1 < x.t → m1 = AA (x :: R)) ∧ (1 < x.t → ∃ q2, c jq [.va (.tuple [fr 1]), .va (po (ser x.p ^ x.t))] = va (qd q2) ∧ c js [.va (qd m1), .va (qd q2)] = va (qd (AA (x :: R)))) := by
  obtain ⟨d', kx⟩ := AA_ok ok nd hd
  have hx := ok x List.mem_cons_self
  have nd' := nd
  rw [List.map_cons, List.nodup_cons] at nd'
  have hd' := hd
  rw [degs_cons] at hd'
  obtain ⟨d, k⟩ := AA_ok (fun y hy => ok y (List.mem_cons_of_mem _ hy)) nd'.2 (by omega)
  have zp := pc_z hx.ok.mem
  have pne := hx.ok.mn.dg.ne
  have zt : Z 2 10 (ser x.o) := ⟨hx.ok.lto.mono hx.ok.m1.2, (Hb.ser hx.ok.bd).mono (by have := hx.ok.len; have := (pc_len hx.ok.mem).2; omega)⟩
  have zA : Z 10 1800 (AA R).1 := ⟨k.lt.mono (by have := k.dd; omega), k.ha.mono (by omega)⟩
  have zB : Z 10 180 (AA R).2 := ⟨k.mn.1.mono (by have := k.dd; omega), k.hb.mono (by omega)⟩
  have zw := hbpow zp x.t hx.ok.t3
  have hpw := hx.ok.mn.pow x.t
  have t1 := hx.ok.t1
  have t3 := hx.ok.t3
  have cbp := k.oth x.p hx.ok.mem nd'.1
  have e1 := hq (ser x.o) (ser x.p) 3 3 10 4 (zt.mono (by decide) (by decide)) (zp.mono (by decide) (by decide)) pne (by unfold QuotOk ComOk cb; decide)
  obtain ⟨q1, hq1⟩ : ∃ q1, q1 = qc (ser x.o) (ser x.p) := ⟨_, rfl⟩
  obtain ⟨m1, hm1⟩ : ∃ m1, m1 = qc ((AA R).1 * q1.2 + q1.1 * (AA R).2) ((AA R).2 * q1.2) := ⟨_, rfl⟩
  -- the first two, plainly
  have pl : (q1 = (0, 1) ∧ m1 = AA R ∧ ser x.o = 0) ∨ (q1 = (ser x.o, ser x.p) ∧ m1 = ((AA R).1 * ser x.p + ser x.o * (AA R).2, (AA R).2 * ser x.p) ∧ ser x.o ≠ 0) := by
    by_cases o0 : ser x.o = 0
    · left
      have h1 : q1 = (0, 1) := by
        rw [hq1, o0]
        exact qc_of ⟨Cop.one _, Pl.zero, ⟨0, Mn.one⟩, by show (0 : PS) * ser x.p = 0 * 1; grind⟩ Pl.zero zp.pl pne
      refine ⟨h1, ?_, o0⟩
      rw [hm1, h1]
      refine qc_of ⟨k.cop, zA.pl, ⟨d, k.mn⟩, ?_⟩ ((zA.pl.mul Pl.one).add (Pl.zero.mul zB.pl)) (zB.pl.mul Pl.one) (Pl.mul_ne zB.pl Pl.one k.mn.dg.ne Mn.one.dg.ne)
      show (AA R).1 * ((AA R).2 * 1) = ((AA R).1 * 1 + 0 * (AA R).2) * (AA R).2
      grind
    · right
      have cp := hx.ok.cop hx.six o0
      have h1 : q1 = (ser x.o, ser x.p) := by
        rw [hq1]
        exact qc_of ⟨cp, zt.pl, ⟨_, hx.ok.mn⟩, rfl⟩ zt.pl zp.pl pne
      refine ⟨h1, ?_, o0⟩
      rw [hm1, h1]
      exact qc_of ⟨cop_step zA.pl zB.pl zp.pl zt.pl k.cop cbp cp, (zA.pl.mul zp.pl).add (zt.pl.mul zB.pl), ⟨_, k.mn.mul hx.ok.mn⟩, rfl⟩ ((zA.pl.mul zp.pl).add (zt.pl.mul zB.pl)) (zB.pl.mul zp.pl) (Pl.mul_ne zB.pl zp.pl k.mn.dg.ne pne)
  have zq : Z 3 10 q1.1 ∧ Z 3 9 q1.2 ∧ q1.2 ≠ 0 := by
    rcases pl with ⟨h, _⟩ | ⟨h, _⟩ <;> rw [h]
    · exact ⟨Z.zero _ _, Z.one _ _ (by decide), Mn.one.dg.ne⟩
    · exact ⟨zt.mono (by decide) (by decide), zp, pne⟩
  have e2 := hs (AA R) q1 10 10 1800 180 3 3 10 9 6 12 12 zA zB zq.1 zq.2.1 k.mn.dg.ne zq.2.2 ⟨by decide, by decide, by decide, by decide, by decide, by decide, by decide, by decide, by decide, by decide, by decide, by unfold QuotOk ComOk cb; decide⟩
  rw [← hm1] at e2
  rw [← hq1] at e1
  refine ⟨q1, m1, e1, e2, fun h1 => ?_, fun h1 => ?_⟩
  · have ht : x.t = 1 := by omega
    rcases pl with ⟨_, h, o0⟩ | ⟨_, h, o0⟩
    · rw [h]
      have he : ¬ x.e := fun z => by
        rcases z with z | z
        · exact h1 z
        · exact z o0
      conv => rhs; unfold AA
      rw [if_neg he]
    · rw [h]
      have he : x.e := .inr o0
      conv => rhs; unfold AA
      rw [if_pos he]
      unfold Pc.g
      rw [if_neg h1, ht, show (ser x.p ^ 1 : PS) = ser x.p by grind, show (ser x.o * ser x.p ^ (1 - 1) + 0 : PS) = ser x.o by
        show ser x.o * 1 + 0 = _
        grind]
  · have he : x.e := .inl h1
    have zm : Z 13 2100 m1.1 ∧ Z 13 200 m1.2 ∧ m1.2 ≠ 0 := by
      rcases pl with ⟨_, h, o0⟩ | ⟨_, h, o0⟩ <;> rw [h]
      · exact ⟨zA.mono (by decide) (by decide), zB.mono (by decide) (by decide), k.mn.dg.ne⟩
      · exact ⟨((zA.mul zp (l := 4) (by decide)).add (zt.mul zB (l := 1) (by decide))).mono (by decide) (by decide), (zB.mul zp (l := 4) (by decide)).mono (by decide) (by decide), (k.mn.mul hx.ok.mn).dg.ne⟩
    have zw' : Z 7 36 (ser x.p ^ x.t) := zw.mono (by omega) (by omega)
    have f1 := hq 1 (ser x.p ^ x.t) 7 7 36 5 (Z.one _ _ (by decide)) zw' hpw.dg.ne (by unfold QuotOk ComOk cb; decide)
    rw [qc_of (q := (1, ser x.p ^ x.t)) ⟨(Cop.one _).symm, Pl.one, ⟨_, hpw⟩, rfl⟩ Pl.one zw'.pl hpw.dg.ne, po_one] at f1
    have f2 := hs m1 (1, ser x.p ^ x.t) 13 13 2100 200 1 7 0 36 7 19 19 zm.1 zm.2.1 (Z.one _ _ (by decide)) zw' zm.2.2 hpw.dg.ne ⟨by decide, by decide, by decide, by decide, by decide, by decide, by decide, by decide, by decide, by decide, by decide, by unfold QuotOk ComOk cb; decide⟩
    refine ⟨_, f1, ?_⟩
    rw [f2]
    congr 1
    rw [show qc (m1.1 * (1, ser x.p ^ x.t).2 + (1, ser x.p ^ x.t).1 * m1.2) (m1.2 * (1, ser x.p ^ x.t).2) = AA (x :: R) from ?_]
    refine qc_of ⟨kx.cop, ⟨_, kx.lt⟩, ⟨_, kx.mn⟩, ?_⟩ ((zm.1.pl.mul zw'.pl).add (Pl.one.mul zm.2.1.pl)) (zm.2.1.pl.mul zw'.pl) (Pl.mul_ne zm.2.1.pl zw'.pl zm.2.2 hpw.dg.ne)
    conv =>
      lhs; unfold AA
    conv =>
      rhs; unfold AA
    rw [if_pos he]
    show ((AA R).1 * ser x.p ^ x.t + x.g * (AA R).2) * (m1.2 * ser x.p ^ x.t) = (m1.1 * ser x.p ^ x.t + 1 * m1.2) * ((AA R).2 * ser x.p ^ x.t)
    unfold Pc.g
    rw [if_pos h1]
    rcases pl with ⟨_, h, o0⟩ | ⟨_, h, o0⟩
    · rw [h, o0]
      generalize ser x.p ^ x.t = P
      generalize ser x.p ^ (x.t - 1) = S
      grind
    · rw [h]
      have eP : ser x.p ^ x.t = ser x.p ^ (x.t - 1) * ser x.p := by
        conv => lhs; rw [show x.t = x.t - 1 + 1 by omega]
        grind
      rw [eP]
      generalize ser x.p ^ (x.t - 1) = S
      generalize ser x.p = p
      generalize ser x.o = o
      show ((AA R).1 * (S * p) + (o * S + 1) * (AA R).2) * ((AA R).2 * p * (S * p)) = (((AA R).1 * p + o * (AA R).2) * (S * p) + 1 * ((AA R).2 * p)) * ((AA R).2 * (S * p))
      grind
end
end AW

/-! AwK45c: the walks of the law. -/
namespace AW
open PySem PySem.Spec PyProof.Rows
def lfr (p : List Rat) : D := .list (p.map fr)
section
variable {G : Nat → D} {c : Nat → List Sl → R (D × Bool)} {T : List Fn} {nm : Nm}
def SpPcs45 (c : Nat → List Sl → R (D × Bool)) (j : Nat) : Prop := ∀ x : Int, 0 ≤ x → ∃ Q : List Pc, Q.length ≤ 6 ∧ (Q.map (·.p)).Nodup ∧ (∀ y ∈ Q, PcOk2 y) ∧ degs Q ≤ 9 ∧ c j [.va (.int x)] = .ok (.list (Q.map pcd), true)
theorem pieces45_ok {jm jf : Nat} (hm : SpMix c jm) (hf : SpLFr c jf) {x : Int} (hx : 0 ≤ x) : ∃ Q : List Pc, Q.length ≤ 6 ∧ (Q.map (·.p)).Nodup ∧ (∀ y ∈ Q, PcOk2 y) ∧ degs Q ≤ 9 ∧ bo G c T (b_law_pieces_2 jm jf) [.va (.int x)] 9 = .ok (.list (Q.map pcd), true) := by
  have p60 : (2 : Nat) ^ 60 = 1152921504606846976 := by decide
  have c0 : (0 : Nat) ≤ line := Nat.zero_le _
  have c2 : (2 : Nat) ≤ line := by unfold line; omega
  have c3 : (3 : Nat) ≤ line := by unfold line; omega
  have c5 : (5 : Nat) ≤ line := by unfold line; omega
  obtain ⟨s1, hs1, hs1'⟩ : ∃ s : Nat, x % 5 = (s : Int) ∧ s ≤ 4 := ⟨(x % 5).toNat, by omega, by omega⟩
  obtain ⟨s2, hs2, hs2'⟩ : ∃ s : Nat, x / 5 % 3 = (s : Int) ∧ s ≤ 2 := ⟨(x / 5 % 3).toNat, by omega, by omega⟩
  have u5 := fmd (x := x) 5 (by decide)
  have v5 := fdv (x := x) 5 (by decide)
  have u3 := fmd (x := x / 5) 3 (by decide)
  have hr1 := rngR_nat s1 (by omega)
  have hr2 := rngR_nat s2 (by omega)
  have a1 : ∀ (a b : D) (l : List D), atD (a :: b :: l) 1 = v1 b := fun _ _ _ => atD_nat (n := 1) rfl
  have a2 : ∀ (a b d : D) (l : List D), atD (a :: b :: d :: l) 2 = v1 d := fun _ _ _ _ => atD_nat (n := 2) rfl
  have a3 : ∀ (a b d e : D) (l : List D), atD (a :: b :: d :: e :: l) 3 = v1 e := fun _ _ _ _ _ => atD_nat (n := 3) rfl
  obtain ⟨P, hP⟩ : ∃ P : R (D × Bool) → Prop, P = (fun r => ∃ Q : List Pc, Q.length ≤ 6 ∧ (Q.map (·.p)).Nodup ∧ (∀ y ∈ Q, PcOk2 y) ∧ degs Q ≤ 9 ∧ r = .ok (.list (Q.map pcd), true)) := ⟨_, rfl⟩
  suffices P (bo G c T (b_law_pieces_2 jm jf) [.va (.int x)] 9) by rw [hP] at this; exact this
  unfold bo b_law_pieces_2
  simp [val, es_for, c0, u5, hs1, hr1]
  refine forR_then (P := fun r => P (outF (r.bind _))) (I := fun i en => ∃ z2 z5, en = [.va (.int x), .ow ((pcs.take i).map lfr), z2, .un, .un, z5, .un, .un, .un, .un]) ?_ ⟨_, _, rfl⟩ ?_
  · rintro i en dd hi ⟨z2, z5, rfl⟩
    rw [List.getElem?_map] at hi
    cases hk : (List.range s1)[i]? with
    | none => rw [hk] at hi; cases hi
    | some k =>
      rw [hk] at hi
      cases Option.some.inj hi
      have hkn : k = i ∧ i < s1 := by
        rw [List.getElem?_eq_some_iff] at hk
        obtain ⟨hlt, e⟩ := hk
        rw [List.getElem_range] at e
        rw [List.length_range] at hlt
        exact ⟨e.symm, hlt⟩
      obtain ⟨rfl, hin⟩ := hkn
      have l1 : ((pcs.take k).map lfr).length < line := by
        rw [List.length_map, List.length_take]
        unfold line
        omega
      have hk4 : k = 0 ∨ k = 1 ∨ k = 2 ∨ k = 3 := by omega
      have est : ∀ p, pcs[k]? = some p → (pcs.take (k + 1)).map lfr = (pcs.take k).map lfr ++ [lfr p] := fun p hp => by
        rw [List.take_succ, hp, List.map_append]
        rfl
      rcases hk4 with rfl | rfl | rfl | rfl
      · rw [est _ rfl]
        refine ⟨[.va (.int x), .ow ((pcs.take 0).map lfr ++ [lfr [(0 : Rat), (1 : Rat)]]), .va (.int 0), .un, .un, .va (.tuple [.int 0, .int 1]), .un, .un, .un, .un], .inl ?_, _, _, rfl⟩
        generalize (pcs.take 0).map lfr = A at *
        simp [val, c0, c2, c5, l1]
        rfl
      · rw [est _ rfl]
        refine ⟨[.va (.int x), .ow ((pcs.take 1).map lfr ++ [lfr [(-1 : Rat), (1 : Rat)]]), .va (.int 1), .un, .un, .va (.tuple [.int 1, .int 1]), .un, .un, .un, .un], .inl ?_, _, _, rfl⟩
        generalize (pcs.take 1).map lfr = A at *
        simp [val, c0, c2, c5, l1, a1]
        rfl
      · rw [est _ rfl]
        refine ⟨[.va (.int x), .ow ((pcs.take 2).map lfr ++ [lfr [(1 : Rat), (1 : Rat)]]), .va (.int 2), .un, .un, .va (.tuple [.int (-1), .int 1]), .un, .un, .un, .un], .inl ?_, _, _, rfl⟩
        generalize (pcs.take 2).map lfr = A at *
        simp [val, c0, c2, c5, l1, a1, a2]
        rfl
      · rw [est _ rfl]
        refine ⟨[.va (.int x), .ow ((pcs.take 3).map lfr ++ [lfr [(⟨-1, 2, by decide, by decide⟩ : Rat), (1 : Rat)]]), .va (.int 3), .un, .un, .va (.tuple [.int 1, .int 2]), .un, .un, .un, .un], .inl ?_, _, _, rfl⟩
        generalize (pcs.take 3).map lfr = A at *
        simp [val, c0, c2, c5, l1, a1, a2, a3]
        rfl
  rintro en ⟨z2, z5, rfl⟩
  rw [List.length_map, List.length_range]
  obtain ⟨A1, hA1⟩ : ∃ A1, A1 = (pcs.take s1).map lfr := ⟨_, rfl⟩
  rw [← hA1]
  simp [val, es_for, v5, u3, hs2, hr2]
  refine forR_then (P := fun r => P (outF (r.bind _))) (I := fun i en => ∃ z2, en = [.va (.int x), .ow ((pcs.take s1 ++ ([pcs[5], pcs[6]] : List (List Rat)).take i).map lfr), z2, .un, .un, z5, .un, .un, .un, .un]) ?_ ⟨_, by rw [List.take_zero, List.append_nil, hA1]⟩ ?_
  · rintro i en dd hi ⟨z2, rfl⟩
    rw [List.getElem?_map] at hi
    cases hk : (List.range s2)[i]? with
    | none => rw [hk] at hi; cases hi
    | some k =>
      rw [hk] at hi
      cases Option.some.inj hi
      have hkn : k = i ∧ i < s2 := by
        rw [List.getElem?_eq_some_iff] at hk
        obtain ⟨hlt, e⟩ := hk
        rw [List.getElem_range] at e
        rw [List.length_range] at hlt
        exact ⟨e.symm, hlt⟩
      obtain ⟨rfl, hin⟩ := hkn
      have l1 : ((pcs.take s1 ++ ([pcs[5], pcs[6]] : List (List Rat)).take k).map lfr).length < line := by
        rw [List.length_map, List.length_append, List.length_take, List.length_take]
        unfold line
        omega
      have est : ∀ p, ([pcs[5], pcs[6]] : List (List Rat))[k]? = some p → (pcs.take s1 ++ ([pcs[5], pcs[6]] : List (List Rat)).take (k + 1)).map lfr = (pcs.take s1 ++ ([pcs[5], pcs[6]] : List (List Rat)).take k).map lfr ++ [lfr p] := fun p hp => by
        rw [List.take_succ, hp, ← List.append_assoc, List.map_append]
        rfl
      have hk2 : k = 0 ∨ k = 1 := by omega
      rcases hk2 with rfl | rfl
      · rw [est _ rfl]
        refine ⟨[.va (.int x), .ow ((pcs.take s1 ++ ([pcs[5], pcs[6]] : List (List Rat)).take 0).map lfr ++ [lfr [(1 : Rat), (0 : Rat), (1 : Rat)]]), .va (.int 0), .un, .un, z5, .un, .un, .un, .un], .inl ?_, _, rfl⟩
        generalize (pcs.take s1 ++ ([pcs[5], pcs[6]] : List (List Rat)).take 0).map lfr = A at *
        simp [val, c0, c2, c3, l1]
        rfl
      · rw [est _ rfl]
        refine ⟨[.va (.int x), .ow ((pcs.take s1 ++ ([pcs[5], pcs[6]] : List (List Rat)).take 1).map lfr ++ [lfr [(-2 : Rat), (0 : Rat), (1 : Rat)]]), .va (.int 1), .un, .un, z5, .un, .un, .un, .un], .inl ?_, _, rfl⟩
        generalize (pcs.take s1 ++ ([pcs[5], pcs[6]] : List (List Rat)).take 1).map lfr = A at *
        simp [val, c0, c2, c3, l1, a1]
        rfl
  rintro en ⟨z2, rfl⟩
  rw [List.length_map, List.length_range]
  have hsub : (pcs.take s1 ++ ([pcs[5], pcs[6]] : List (List Rat)).take s2).Sublist pcs6 := by
    have e : pcs6 = pcs.take 4 ++ [pcs[5], pcs[6]] := rfl
    rw [e]
    refine List.Sublist.append ?_ (List.take_sublist _ _)
    have : pcs.take s1 = (pcs.take 4).take s1 := by rw [List.take_take]; congr 1; omega
    rw [this]
    exact List.take_sublist _ _
  have nd6 : pcs6.Nodup := by decide +kernel
  have mem6 : ∀ p ∈ pcs6, p ∈ pcs := by decide +kernel
  generalize pcs.take s1 ++ ([pcs[5], pcs[6]] : List (List Rat)).take s2 = S at *
  have lS : S.length ≤ 6 := hsub.length_le
  have sq : seqR (.list (S.map lfr)) = .ok (S.map lfr) := rfl
  have en1 := enumD_map (e := lfr) S
  simp [val, es_for, c0, sq, en1]
  refine forR_then (P := fun r => P (outF (r.bind _))) (I := fun i en => ∃ (Q : List Pc) (left : Int) (z2 z6 z7 z8 : Sl), en = [.va (.int x), .va (.list (S.map lfr)), z2, .ow (Q.map pcd), .va (.int left), z5, z6, z7, z8, .un] ∧ 0 ≤ left ∧ (degs Q : Int) + left = 9 ∧ (Q.map (·.p)).Sublist (S.take i) ∧ ∀ y ∈ Q, PcOk2 y) ?_ ⟨[], 9, _, _, _, _, rfl, by decide, rfl, List.Sublist.slnil, fun y hy => by cases hy⟩ ?_
  · rintro i en dd hi ⟨Q, left, z2, z6, z7, z8, rfl, l0, hd, hsl, hok⟩
    rw [List.getElem?_map, enumN_get] at hi
    cases hk : S[i]? with
    | none => rw [hk] at hi; cases hi
    | some p =>
      rw [hk] at hi
      cases Option.some.inj hi
      have hil := (List.getElem?_eq_some_iff.mp hk).1
      have hp6 := hsub.subset (List.mem_of_getElem? hk)
      have hp := mem6 p hp6
      have lp := pc_len hp
      rw [Nat.zero_add]
      have e1 := hm x (10 + (i : Int)) (by omega)
      have n1 := (mixV_nn x (10 + (i : Int))).1
      generalize mixV x (10 + (i : Int)) = w at *
      obtain ⟨u, hu, hu'⟩ : ∃ u : Nat, w % 3 = (u : Int) ∧ u ≤ 2 := ⟨(w % 3).toNat, by omega, by omega⟩
      have uw := fmd (x := w) 3 (by decide)
      obtain ⟨m, hm'⟩ : ∃ m, m + 1 = p.length := ⟨p.length - 1, by omega⟩
      have lm : (p.length : Int) - 1 = (m : Int) := by omega
      have lp1 : sem1 .len (lfr p) = v1 (.int (p.length : Int)) := by unfold lfr; simp
      have mo : mulOk (1 + (u : Int)) (m : Int) = true := mulOk_small_l (by omega)
      have mo3 : mulOk 3 (i : Int) = true := mulOk_small_l (by decide)
      have stl : S.take (i + 1) = S.take i ++ [p] := by rw [List.take_succ, hk]; rfl
      have hQl : Q.length ≤ 6 := by
        have := hsl.length_le
        rw [List.length_map, List.length_take] at this
        omega
      have hQl2 : (Q.map pcd).length < line := by rw [List.length_map]; unfold line; omega
      by_cases hle : (1 + (u : Int)) * (m : Int) ≤ left
      · have hrm := rngR_nat m (by omega)
        have h' : ∀ k : Nat, ∃ q : Rat, k ≤ 1000 → Bd 4 q ∧ c jm [.va (.int x), .va (.int (20 + 3 * (i : Int) + (k : Int)))] = va (.int (mixV x (20 + 3 * (i : Int) + (k : Int)))) ∧ c jf [.va (.int (mixV x (20 + 3 * (i : Int) + (k : Int))))] = va (fr q) := fun k => by
          by_cases hk : k ≤ 1000
          · obtain ⟨q, q1, q2⟩ := hf (mixV x (20 + 3 * (i : Int) + (k : Int))) (mixV_nn _ _).1
            exact ⟨q, fun _ => ⟨q1, hm x _ (by omega), q2⟩⟩
          · exact ⟨0, fun h => absurd h hk⟩
        obtain ⟨f, hf'⟩ := Classical.axiomOfChoice h'
        obtain ⟨y, hy⟩ : ∃ y : Pc, y = ⟨p, 1 + u, (List.range m).map f⟩ := ⟨_, rfl⟩
        have yok : PcOk2 y := by
          rw [hy]
          refine ⟨⟨hp, by show 1 ≤ 1 + u; omega, by show 1 + u ≤ 3; omega, by show ((List.range m).map f).length + 1 = p.length; rw [List.length_map, List.length_range]; exact hm', fun a ha => ?_⟩, hp6⟩
          obtain ⟨k, hk, rfl⟩ := List.mem_map.mp ha
          have := List.mem_range.mp hk
          exact (hf' k (by omega)).1
        have ycd : pcd y = .tuple [lfr p, .int (1 + (u : Int)), .list ((List.range m).map fun k => fr (f k))] := by
          rw [hy]
          show PyData.tuple [_, .int ((1 + u : Nat) : Int), .list (((List.range m).map f).map fr)] = _
          rw [List.map_map]
          have : ((1 + u : Nat) : Int) = 1 + (u : Int) := by omega
          rw [this]
          rfl
        have ym : y.m * y.t = m * (1 + u) := by
          rw [hy]
          show (p.length - 1) * (1 + u) = _
          rw [show p.length - 1 = m by omega]
        refine ⟨[.va (.int x), .va (.list (S.map lfr)), .va (.int (i : Int)), .ow ((Q ++ [y]).map pcd), .va (.int (left - (1 + (u : Int)) * (m : Int))), z5, .va (lfr p), .va (.int (1 + (u : Int))), .va (.list ((List.range m).map fun k => fr (f k))), .un], .inl ?_, Q ++ [y], _, _, _, _, _, rfl, by omega, ?_, ?_, ?_⟩
        · rw [List.map_append, List.map_cons, List.map_nil, ycd]
          generalize Q.map pcd = QQ at *
          simp only [bindT_tpt, bindTs_cons, bindT_nm, bindTs_nil, R.bind_ok, List.set_cons_succ, List.set_cons_zero]
          simp [val, e1, uw, hu, lp1, lm, mo, hle]
          rw [cmp_of (xs := List.range m) (e := fun (k : Nat) => .int (k : Int)) (h := fun (k : Nat) => fr (f k)) ?_ (by rw [List.length_range]; unfold line; omega) ?_]
          · simp [val, hQl2, c3]
          · simp [val, lp1, lm, hrm]
          · intro k hk
            have hk := List.mem_range.mp hk
            obtain ⟨_, w1, w2⟩ := hf' k (by omega)
            simp [val, wipe, mo3, w1, w2]
        · have e : degs (Q ++ [y]) = degs Q + m * (1 + u) := by
            unfold degs
            rw [List.map_append, List.sum_append, List.map_cons, List.map_nil, List.sum_cons, List.sum_nil, ym, Nat.add_zero]
          have e2 : ((m * (1 + u) : Nat) : Int) = (1 + (u : Int)) * (m : Int) := by
            push_cast
            rw [Int.mul_comm]
          rw [e]
          omega
        · rw [stl, List.map_append]
          refine List.Sublist.append hsl ?_
          rw [hy]
          exact List.Sublist.refl _
        · intro z hz
          rcases List.mem_append.mp hz with hz | hz
          · exact hok z hz
          · rcases List.mem_cons.mp hz with rfl | hz
            · exact yok
            · cases hz
      · refine ⟨[.va (.int x), .va (.list (S.map lfr)), .va (.int (i : Int)), .ow (Q.map pcd), .va (.int left), z5, .va (lfr p), .va (.int (1 + (u : Int))), z8, .un], .inl ?_, Q, left, _, _, _, _, rfl, l0, hd, ?_, hok⟩
        · generalize Q.map pcd = QQ at *
          simp only [bindT_tpt, bindTs_cons, bindT_nm, bindTs_nil, R.bind_ok, List.set_cons_succ, List.set_cons_zero]
          simp [val, e1, uw, hu, lp1, lm, mo, hle]
        · rw [stl]
          exact hsl.trans (List.sublist_append_left _ _)
  · rintro en ⟨Q, left, z2, z6, z7, z8, rfl, l0, hd, hsl, hok⟩
    rw [List.length_map, enumN_len, List.take_length] at hsl
    rw [hP]
    have := hsl.length_le
    rw [List.length_map] at this
    refine ⟨Q, by omega, hsl.nodup (hsub.nodup nd6), hok, by omega, ?_⟩
    simp [val]
end
end AW

/-! AwK45d: the quotient made, what is due, the law. -/
namespace AW
open PySem PySem.Spec PyProof.Rows
structure QOk (Q : List Pc) : Prop where
  len : Q.length ≤ 6
  nd : (Q.map (·.p)).Nodup
  ok : ∀ y ∈ Q, PcOk2 y
  deg : degs Q ≤ 9
theorem degs_app (A B : List Pc) : degs (A ++ B) = degs A + degs B := by
  unfold degs
  rw [List.map_append, List.sum_append]
theorem QOk.take {Q : List Pc} (h : QOk Q) (i : Nat) : QOk (Q.take i).reverse := by
  refine ⟨?_, ?_, fun y hy => h.ok y (List.mem_of_mem_take (List.mem_reverse.mp hy)), ?_⟩
  · rw [List.length_reverse, List.length_take]
    have := h.len
    omega
  · rw [List.map_reverse, List.map_take]
    exact (List.reverse_perm _).nodup_iff.mpr ((List.take_sublist _ _).nodup h.nd)
  · have e : degs (Q.take i).reverse = degs (Q.take i) := by
      unfold degs
      rw [List.map_reverse, List.sum_reverse]
    have e2 : degs Q = degs (Q.take i) + degs (Q.drop i) := by rw [← degs_app, List.take_append_drop]
    have := h.deg
    omega
theorem take_rev {Q : List Pc} {i : Nat} {x : Pc} (h : Q[i]? = some x) : (Q.take (i + 1)).reverse = x :: (Q.take i).reverse := by
  rw [List.take_succ, h, List.reverse_append]
  rfl
section
variable {G : Nat → D} {c : Nat → List Sl → R (D × Bool)} {T : List Fn} {nm : Nm}
def SpMade45 (c : Nat → List Sl → R (D × Bool)) (j : Nat) : Prop := ∀ Q : List Pc, QOk Q → c j [.va (.list (Q.map pcd))] = va (qd (AA Q.reverse))
theorem made45_ok {jq js jl jp : Nat} (hq : SpQuot c jq) (hs : SpQSum c js) (hl : SpPlain c jl) (hp : SpLProd c jp) {Q : List Pc} (ok : QOk Q) : bo G c T (b_law_made jq js jl jp) [.va (.list (Q.map pcd))] 6 = va (qd (AA Q.reverse)) := by
  have c0 : (0 : Nat) ≤ line := Nat.zero_le _
  have c1 : (1 : Nat) ≤ line := by unfold line; omega
  have c2 : (2 : Nat) ≤ line := by unfold line; omega
  have z11 : PyData.tuple [.int 1, .int 1] = fr 1 := rfl
  have e0 := hq 0 1 1 1 0 3 (Z.zero _ _) (Z.one _ _ (by decide)) Mn.one.dg.ne (by unfold QuotOk ComOk cb; decide)
  rw [po_zero, po_one, qc_one Pl.zero] at e0
  have sq : seqR (.list (Q.map pcd)) = .ok (Q.map pcd) := rfl
  obtain ⟨QD, hQD⟩ : ∃ d : D, d = .list (Q.map pcd) := ⟨_, rfl⟩
  rw [← hQD] at sq ⊢
  unfold bo b_law_made
  simp [val, es_for, c0, c1, c2, z11, e0, sq]
  refine forR_then (P := fun r => outF (r.bind _) = _) (I := fun i en => ∃ z2 z3 z4 z5 z6, en = [.va QD, .va (qd (AA (Q.take i).reverse)), z2, z3, z4, z5, z6]) ?_ ⟨.un, .un, .un, .un, .un, rfl⟩ ?_
  · rintro i en d hi ⟨z2, z3, z4, z5, z6, rfl⟩
    rw [List.getElem?_map] at hi
    cases hx : Q[i]? with
    | none => rw [hx] at hi; cases hi
    | some x =>
      rw [hx] at hi
      cases Option.some.inj hi
      have hil := (List.getElem?_eq_some_iff.mp hx).1
      have o1 := ok.take (i + 1)
      have o0 := ok.take i
      rw [take_rev hx] at o1 ⊢
      generalize (Q.take i).reverse = R at *
      have hxo := o1.ok x List.mem_cons_self
      obtain ⟨q1, m1, e1, e2, e3, e4⟩ := made_step hq hs o1.ok o1.nd o1.deg (by have := o1.len; simp at this; omega)
      have l1 := hl x.o
      have l2 := hl x.p
      rw [pol_trim] at l1 l2
      by_cases ht : 1 < x.t
      · obtain ⟨q2, e5, e6⟩ := e4 ht
        have t3 := hxo.ok.t3
        have hr := rngR_nat x.t (by omega)
        have zp := pc_z hxo.ok.mem
        have lp := pc_len hxo.ok.mem
        -- the power
        obtain ⟨PP, hPP⟩ : ∃ PP : AW.R Fl → Prop, PP = (fun r => ∃ en', r = .ok (.nx en') ∧ ∃ (F : List Rat) (z : Sl), ser F = ser x.p ^ x.t ∧ en' = [.va QD, .va (qd m1), .va (.list (x.p.map fr)), .va (.int (x.t : Nat)), .va (.list (x.o.map fr)), .va (.list (F.map fr)), z]) := ⟨_, rfl⟩
        have pw : PP (forR (bindT (.nm 6)) (evSs G c (dflT T) (.cons (.asg (.nm 5) (.call jp (.cons (.var 5) (.cons (.var 2) .nil)) 0)) .nil)) ((List.range x.t).map fun (k : Nat) => PyData.int (k : Int)) [.va QD, .va (qd m1), .va (.list (x.p.map fr)), .va (.int (x.t : Nat)), .va (.list (x.o.map fr)), .va (.list [fr 1]), z6]) := by
          refine forR_then (P := PP) (I := fun i en => ∃ (F : List Rat) (z : Sl), i ≤ x.t ∧ ser F = ser x.p ^ i ∧ F.length ≤ 1 + 2 * i ∧ en = [.va QD, .va (qd m1), .va (.list (x.p.map fr)), .va (.int (x.t : Nat)), .va (.list (x.o.map fr)), .va (.list (F.map fr)), z]) ?_ ⟨[1], z6, Nat.zero_le _, by rw [ser_one1]; grind, by simp, rfl⟩ ?_
          · rintro i en d hi ⟨F, z, hit, eF, lF, rfl⟩
            have hlt := (List.getElem?_eq_some_iff.mp hi).1
            rw [List.length_map, List.length_range] at hlt
            have zF := hbpow zp i (by omega)
            obtain ⟨F', f1, f2, f3⟩ := hp F x.p ((9 + 3) * i) 9 3 (by rw [eF]; exact zF.hb) zp.hb ⟨by omega, by omega, by omega, by omega⟩
            refine ⟨[.va QD, .va (qd m1), .va (.list (x.p.map fr)), .va (.int (x.t : Nat)), .va (.list (x.o.map fr)), .va (.list (F'.map fr)), .va d], .inl ?_, F', _, by omega, by rw [f2, eF]; grind, by omega, rfl⟩
            generalize F.map fr = L1 at *
            generalize F'.map fr = L2 at *
            generalize x.p.map fr = L3 at *
            generalize x.o.map fr = L4 at *
            simp [val, f3]
          · rintro en ⟨F, z, _, eF, lF, rfl⟩
            rw [List.length_map, List.length_range] at eF
            rw [hPP]
            exact ⟨_, rfl, F, z, eF, rfl⟩
        rw [hPP] at pw
        obtain ⟨en', w1, F, z, w2, rfl⟩ := pw
        have l3 := hl F
        rw [pol_trim, w2] at l3
        refine ⟨[.va QD, .va (qd (AA (x :: R))), .va (.list (x.p.map fr)), .va (.int (x.t : Nat)), .va (.list (x.o.map fr)), .va (.list (F.map fr)), z], .inl ?_, _, _, _, _, _, rfl⟩
        have ht' : (1 : Int) < (x.t : Int) := by omega
        unfold pcd
        simp only [bindT_tpt, bindTs_cons, bindT_nm, bindTs_nil, AW.R.bind_ok, List.set_cons_succ, List.set_cons_zero]
        generalize F.map fr = L2 at *
        generalize x.p.map fr = L3 at *
        generalize x.o.map fr = L4 at *
        simp [val, es_for, c0, c1, c2, z11, l1, l2, e1, e2, ht', hr]
        rw [w1]
        simp [val, es_for, c0, c1, c2, z11, l3, e5, e6]
      · have ht' : ¬ (1 : Int) < (x.t : Int) := by omega
        refine ⟨[.va QD, .va (qd (AA (x :: R))), .va (.list (x.p.map fr)), .va (.int (x.t : Nat)), .va (.list (x.o.map fr)), z5, z6], .inl ?_, _, _, _, _, _, rfl⟩
        rw [← e3 ht]
        unfold pcd
        simp only [bindT_tpt, bindTs_cons, bindT_nm, bindTs_nil, AW.R.bind_ok, List.set_cons_succ, List.set_cons_zero]
        generalize x.p.map fr = L3 at *
        generalize x.o.map fr = L4 at *
        simp [val, es_for, c0, c1, c2, z11, l1, l2, e1, e2, ht']
  · rintro en ⟨z2, z3, z4, z5, z6, rfl⟩
    rw [List.length_map, List.take_length]
    simp [val]
/-! ### what is due -/
noncomputable def pdn (R : List Pc) (z : PS × Nat) : D := .tuple [po z.1, fr (nmk z.2 R)]
open Classical in
theorem Lp_At_cons (k : Nat) (x : Pc) (R : List Pc) : Lp (At k (FF (x :: R))) = if x.e ∧ x.t = k then ser x.p * Lp (At k (FF R)) else Lp (At k (FF R)) := by
  conv => lhs; unfold FF
  by_cases he : x.e
  · rw [if_pos he]
    unfold At
    by_cases ht : x.t = k
    · rw [List.filter_cons_of_pos (by simpa using ht), if_pos ⟨he, ht⟩]
      rfl
    · rw [List.filter_cons_of_neg (by simpa using ht), if_neg (fun z => ht z.2)]
  · rw [if_neg he, if_neg (fun z => he z.1)]
open Classical in
theorem nmk_cons (k : Nat) (x : Pc) (R : List Pc) : nmk k (x :: R) = if x.e ∧ x.t = k then nmk k R + x.l else nmk k R := rfl
theorem nmk_bd (k : Nat) : ∀ {R : List Pc}, (∀ x ∈ R, PcOk2 x) → Bd (R.length * 5) (nmk k R)
  | [], _ => Bd.zero _
  | x :: R, h => by
    have ih := nmk_bd k fun y hy => h y (List.mem_cons_of_mem _ hy)
    have hx := h x List.mem_cons_self
    have bl : Bd 4 x.l := by
      unfold Pc.l
      rw [ser_f]
      by_cases hi : x.m - 1 < x.o.length
      · rw [List.getD_eq_getElem?_getD, List.getElem?_eq_getElem hi]
        exact hx.ok.bd _ (List.getElem_mem hi)
      · rw [List.getD_eq_getElem?_getD, List.getElem?_eq_none (by omega)]
        exact Bd.zero _
    unfold nmk
    by_cases he : x.e ∧ x.t = k
    · rw [if_pos he]
      exact (ih.add bl).mono' (by simp only [List.length_cons]; omega)
    · rw [if_neg he]
      exact ih.mono' (by simp only [List.length_cons]; omega)
theorem LpAt_z (k : Nat) : ∀ {R : List Pc}, (∀ x ∈ R, PcOk2 x) → degs R ≤ 9 → ∃ d, Mn (Lp (At k (FF R))) d ∧ d ≤ degs R ∧ Hb (13 * R.length) (Lp (At k (FF R)))
  | [], _, _ => ⟨0, Mn.one, Nat.zero_le _, Hb.one _⟩
  | x :: R, h, hd => by
    rw [degs_cons] at hd
    obtain ⟨d, i1, i2, i3⟩ := LpAt_z k (fun y hy => h y (List.mem_cons_of_mem _ hy)) (by omega)
    have hx := (h x List.mem_cons_self).ok
    have hm := hx.m1
    have q : x.m * 1 ≤ x.m * x.t := Nat.mul_le_mul_left _ hx.t1
    rw [Lp_At_cons]
    by_cases he : x.e ∧ x.t = k
    · rw [if_pos he]
      refine ⟨x.m + d, hx.mn.mul i1, by rw [degs_cons]; omega, ?_⟩
      exact ((pc_z hx.mem).hb.mul i3 (pc_z hx.mem).lt (l := 2) (by decide)).mono (by simp only [List.length_cons]; omega)
    · rw [if_neg he]
      exact ⟨d, i1, by rw [degs_cons]; omega, i3.mono (by simp only [List.length_cons]; omega)⟩
def SpDue45 (c : Nat → List Sl → R (D × Bool)) (j : Nat) : Prop := ∀ Q : List Pc, QOk Q → c j [.va (.list (Q.map pcd))] = .ok (.list ((partsF (FF Q.reverse) 3).map (pdn Q.reverse)), true)
theorem due45_ok {jl jp js : Nat} (hl : SpPlain c jl) (hp : SpLProd c jp) (hs : SpPlus c js) {Q : List Pc} (ok : QOk Q) : bo G c T (b_law_due_3 jl jp js) [.va (.list (Q.map pcd))] 7 = .ok (.list ((partsF (FF Q.reverse) 3).map (pdn Q.reverse)), true) := by
  have c0 : (0 : Nat) ≤ line := Nat.zero_le _
  have c1 : (1 : Nat) ≤ line := by unfold line; omega
  have c2 : (2 : Nat) ≤ line := by unfold line; omega
  have z11 : PyData.tuple [.int 1, .int 1] = fr 1 := rfl
  have z01 : PyData.tuple [.int 0, .int 1] = fr 0 := rfl
  have r14 : rngR 1 4 = .ok ((List.range 3).map fun (k : Nat) => .int ((k + 1 : Nat) : Int)) := by rfl
  have sq : seqR (.list (Q.map pcd)) = .ok (Q.map pcd) := rfl
  obtain ⟨QD, hQD⟩ : ∃ d : D, d = .list (Q.map pcd) := ⟨_, rfl⟩
  rw [← hQD] at sq ⊢
  have okr := ok.take Q.length
  rw [List.take_length] at okr
  unfold bo b_law_due_3
  simp [val, es_for, c0, r14]
  refine forR_then (P := fun r => outF (r.bind _) = _) (I := fun i en => ∃ z2 z3 z4 z5 z6 z7, en = [.va QD, .ow ((partsF (FF Q.reverse) i).map (pdn Q.reverse)), z2, z3, z4, z5, z6, z7]) ?_ ⟨.un, .un, .un, .un, .un, .un, rfl⟩ ?_
  · rintro i en d hi ⟨z2, z3, z4, z5, z6, z7, rfl⟩
    rw [List.getElem?_map] at hi
    cases hk : (List.range 3)[i]? with
    | none => rw [hk] at hi; cases hi
    | some k =>
      rw [hk] at hi
      cases Option.some.inj hi
      have hkn : k = i ∧ i < 3 := by
        rw [List.getElem?_eq_some_iff] at hk
        obtain ⟨hlt, e⟩ := hk
        rw [List.getElem_range] at e
        rw [List.length_range] at hlt
        exact ⟨e.symm, hlt⟩
      obtain ⟨rfl, hin⟩ := hkn
      have plen : ((partsF (FF Q.reverse) k).map (pdn Q.reverse)).length < line := by
        have : ∀ k, (partsF (FF Q.reverse) k).length ≤ k := fun k => by
          induction k with
          | zero => exact Nat.le_refl _
          | succ k ih =>
            show (partsF (FF Q.reverse) k ++ _).length ≤ _
            rw [List.length_append]
            split <;> simp <;> omega
        have := this k
        rw [List.length_map]
        unfold line
        omega
      have est : (partsF (FF Q.reverse) (k + 1)).map (pdn Q.reverse) = (partsF (FF Q.reverse) k).map (pdn Q.reverse) ++ (if At (k + 1) (FF Q.reverse) = [] then [] else [pdn Q.reverse (Lp (At (k + 1) (FF Q.reverse)), k + 1)]) := by
        show (partsF (FF Q.reverse) k ++ _).map _ = _
        rw [List.map_append]
        congr 1
        split <;> rfl
      rw [est]
      generalize (partsF (FF Q.reverse) k).map (pdn Q.reverse) = A at *
      -- all pieces
      obtain ⟨PP, hPP⟩ : ∃ PP : AW.R Fl → Prop, PP = (fun r => ∃ en', r = .ok (.nx en') ∧ ∃ (F : List Rat) (d : Nat) (z5 z6 z7 : Sl), ser F = Lp (At (k + 1) (FF Q.reverse)) ∧ Mn (ser F) d ∧ F.length = d + 1 ∧ en' = [.va QD, .ow A, .va (.int ((k : Int) + 1)), .va (.list (F.map fr)), .va (fr (nmk (k + 1) Q.reverse)), z5, z6, z7]) := ⟨_, rfl⟩
      have walk : PP (forR (bindT (.tp (.cons (.nm 5) (.cons (.nm 6) (.cons (.nm 7) .nil))))) (evSs G c (dflT T) (.cons (.ite (.and (.op2 .eq (.var 6) (.var 2)) (.or (.op2 .gt (.var 6) (.con (.int 1))) (.op2 .ne (.call jl (.cons (.var 7) .nil) 0) (.tup .nil)))) (.cons (.asg (.nm 3) (.call jp (.cons (.var 3) (.cons (.var 5) .nil)) 0))
          (.cons (.asg (.nm 4) (.call js (.cons (.var 4) (.cons (.op2 .idx (.lst (.cons (.op2 .idx (.var 7) (.op1 .neg (.con (.int 1)))) (.cons (.tup (.cons (.con (.int 0)) (.cons (.con (.int 1)) .nil))) .nil))) (.op1 .intB (.op2 .lt (.op1 .len (.var 7)) (.op2 .sub (.op1 .len (.var 5)) (.con (.int 1)))))) .nil)) 0)) .nil)) (.nil)) .nil))
          (Q.map pcd) [.va QD, .ow A, .va (.int ((k : Int) + 1)), .va (.list [fr 1]), .va (fr 0), z5, z6, z7]) := by
        refine forR_then (P := PP) (I := fun i en => ∃ (F : List Rat) (d : Nat) (z5 z6 z7 : Sl), ser F = Lp (At (k + 1) (FF (Q.take i).reverse)) ∧ Mn (ser F) d ∧ F.length = d + 1 ∧ en = [.va QD, .ow A, .va (.int ((k : Int) + 1)), .va (.list (F.map fr)), .va (fr (nmk (k + 1) (Q.take i).reverse)), z5, z6, z7]) ?_ ⟨[1], 0, z5, z6, z7, by rw [ser_one1]; rfl, by rw [ser_one1]; exact Mn.one, rfl, rfl⟩ ?_
        · rintro i en d hi ⟨F, d, z5, z6, z7, eF, mF, lF, rfl⟩
          rw [List.getElem?_map] at hi
          cases hx : Q[i]? with
          | none => rw [hx] at hi; cases hi
          | some x =>
            rw [hx] at hi
            cases Option.some.inj hi
            have hil := (List.getElem?_eq_some_iff.mp hx).1
            have o1 := ok.take (i + 1)
            have o0 := ok.take i
            rw [take_rev hx] at o1 ⊢
            generalize (Q.take i).reverse = R at *
            have hxo := (o1.ok x List.mem_cons_self).ok
            have hm := hxo.m1
            have lpp := pc_len hxo.mem
            have em : x.p.length = x.m + 1 := by unfold Pc.m; omega
            have lo : x.o.length = x.m := by have := hxo.len; omega
            have l1 := hl x.o
            rw [pol_trim] at l1
            have l2 := ne_po0 (pl_ser x.o)
            have cond : ((x.t : Int) = (k : Int) + 1) ↔ x.t = k + 1 := by omega
            rw [Lp_At_cons]
            rw [nmk_cons]
            have lenP : sem1 .len (.list (x.p.map fr)) = v1 (.int (x.p.length : Int)) := by simp
            have lenO : sem1 .len (.list (x.o.map fr)) = v1 (.int (x.o.length : Int)) := by simp
            have last : atD (x.o.map fr) (-1) = v1 (fr x.l) := by
              rcases List.eq_nil_or_concat x.o with e | ⟨r, a, e⟩
              · rw [e] at lo; simp at lo; omega
              · rw [List.concat_eq_append] at e
                have lr : r.length = x.m - 1 := by rw [e, List.length_append] at lo; simp at lo; omega
                unfold Pc.l
                rw [e, List.map_append, ser_f, ← lr]
                show atD (r.map fr ++ [fr a]) (-1) = _
                rw [atD_last]
                congr 2
                simp
            by_cases ht : x.t = k + 1
            · have ht' := cond.mpr ht
              by_cases he : x.e
              · rw [if_pos ⟨he, ht⟩, if_pos ⟨he, ht⟩]
                obtain ⟨d2, w1, w2, w3⟩ := LpAt_z (k + 1) o0.ok o0.deg
                have dd : d = d2 := by rw [← eF] at w1; exact mF.dg.uniq w1.dg
                have := o0.deg
                have := o0.len
                obtain ⟨F', f1, f2, f3⟩ := hp F x.p (13 * R.length) 9 4 (by rw [eF]; exact w3) (pc_z hxo.mem).hb ⟨by omega, by omega, by omega, by omega⟩
                have bn := nmk_bd (k + 1) o0.ok
                have bn' := nmk_bd (k + 1) o1.ok
                have bl : Bd 4 x.l := by
                  unfold Pc.l
                  rw [ser_f, List.getD_eq_getElem?_getD, List.getElem?_eq_getElem (show x.m - 1 < x.o.length by omega)]
                  exact hxo.bd _ (List.getElem_mem _)
                have s1 := hs (nmk (k + 1) R) x.l (Ok.of bn (by omega)) (Ok.of bl (by decide))
                have hlt : ¬ ((x.o.length : Int) < (x.p.length : Int) - 1) := by omega
                refine ⟨[.va QD, .ow A, .va (.int ((k : Int) + 1)), .va (.list (F'.map fr)), .va (fr (nmk (k + 1) R + x.l)), .va (.list (x.p.map fr)), .va (.int (x.t : Nat)), .va (.list (x.o.map fr))], .inl ?_, F', x.m + d, _, _, _, by rw [f2, eF]; grind, by rw [f2]; have := mF.mul hxo.mn; rwa [Nat.add_comm d] at this, by omega, rfl⟩
                unfold pcd
                simp only [bindT_tpt, bindTs_cons, bindT_nm, bindTs_nil, AW.R.bind_ok, List.set_cons_succ, List.set_cons_zero]
                generalize F.map fr = L1 at *
                generalize F'.map fr = L2 at *
                generalize x.p.map fr = L3 at *
                generalize x.o.map fr = L4 at *
                by_cases h1 : 1 < x.t
                · have h1' : (1 : Int) < (x.t : Int) := by omega
                  have hk1 : (1 : Int) < (k : Int) + 1 := by omega
                  simp [val, ht', h1', hk1, c0, c2, f3, lenO, lenP, last, hlt, z01, s1]
                · have h1' : ¬ (1 : Int) < (x.t : Int) := by omega
                  have o0 : ser x.o ≠ 0 := by
                    rcases he with he | he
                    · exact absurd he h1
                    · exact he
                  have hk1 : ¬ (1 : Int) < (k : Int) + 1 := by omega
                  simp [val, ht', h1', hk1, c0, c2, f3, lenO, lenP, last, hlt, z01, s1, l1, l2, o0]
              · rw [if_neg (fun z => he z.1), if_neg (fun z => he z.1)]
                refine ⟨[.va QD, .ow A, .va (.int ((k : Int) + 1)), .va (.list (F.map fr)), .va (fr (nmk (k + 1) R)), .va (.list (x.p.map fr)), .va (.int (x.t : Nat)), .va (.list (x.o.map fr))], .inl ?_, F, d, _, _, _, eF, mF, lF, rfl⟩
                have h1 : ¬ 1 < x.t := fun z => he (.inl z)
                have o0 : ser x.o = 0 := Classical.byContradiction fun z => he (.inr z)
                have h1' : ¬ (1 : Int) < (x.t : Int) := by omega
                have hk1 : ¬ (1 : Int) < (k : Int) + 1 := by omega
                rw [o0] at l1 l2
                have l2' : sem2 .ne (po 0) (.tuple []) = v1 (.bool false) := by rw [l2]; simp
                unfold pcd
                simp only [bindT_tpt, bindTs_cons, bindT_nm, bindTs_nil, AW.R.bind_ok, List.set_cons_succ, List.set_cons_zero]
                generalize F.map fr = L1 at *
                generalize x.p.map fr = L3 at *
                generalize x.o.map fr = L4 at *
                simp [val, ht', h1', hk1, c0, c2, l1, l2']
            · rw [if_neg (fun z => ht z.2), if_neg (fun z => ht z.2)]
              have ht' : ¬ ((x.t : Int) = (k : Int) + 1) := fun z => ht (cond.mp z)
              refine ⟨[.va QD, .ow A, .va (.int ((k : Int) + 1)), .va (.list (F.map fr)), .va (fr (nmk (k + 1) R)), .va (.list (x.p.map fr)), .va (.int (x.t : Nat)), .va (.list (x.o.map fr))], .inl ?_, F, d, _, _, _, eF, mF, lF, rfl⟩
              unfold pcd
              simp only [bindT_tpt, bindTs_cons, bindT_nm, bindTs_nil, AW.R.bind_ok, List.set_cons_succ, List.set_cons_zero]
              generalize F.map fr = L1 at *
              generalize x.p.map fr = L3 at *
              generalize x.o.map fr = L4 at *
              simp [val, ht']
        · rintro en ⟨F, d, z5, z6, z7, eF, mF, lF, rfl⟩
          rw [List.length_map, List.take_length] at eF ⊢
          rw [hPP]
          exact ⟨_, rfl, F, d, z5, z6, z7, eF, mF, lF, rfl⟩
      rw [hPP] at walk
      obtain ⟨en', w1, F, d, y5, y6, y7, eF, mF, lF, rfl⟩ := walk
      have hnil := Lp_nil_iff (F := At (k + 1) (FF Q.reverse)) ((FF_good (fun x hx => (okr.ok x hx).ok) okr.nd).filter _)
      have lenF : sem1 .len (.list (F.map fr)) = v1 (.int (F.length : Int)) := by simp
      by_cases hA : At (k + 1) (FF Q.reverse) = []
      · have d0 : d = 0 := by
          rw [eF, hnil.mpr hA] at mF
          exact mF.dg.uniq Mn.one.dg
        have hlt : ¬ (1 : Int) < (F.length : Int) := by omega
        rw [if_pos hA, List.append_nil]
        refine ⟨[.va QD, .ow A, .va (.int ((k : Int) + 1)), .va (.list (F.map fr)), .va (fr (nmk (k + 1) Q.reverse)), y5, y6, y7], .inl ?_, _, _, _, _, _, _, rfl⟩
        generalize F.map fr = L1 at *
        simp [val, es_for, c0, c1, c2, z11, z01, sq]
        rw [w1]
        simp [val, lenF, hlt]
      · have d0 : 1 ≤ d := by
          rcases Nat.eq_zero_or_pos d with q | q
          · exfalso
            subst q
            refine hA (hnil.mp ?_)
            rw [← eF, Dg.const mF.1, mF.2, PS.C_one]
          · exact q
        have hlt : (1 : Int) < (F.length : Int) := by omega
        have et : PyData.tuple (F.map fr) = po (Lp (At (k + 1) (FF Q.reverse))) := by
          rw [← eF]
          show _ = pol (toL (ser F))
          rw [toL_full mF.dg lF]
          rfl
        rw [if_neg hA]
        refine ⟨[.va QD, .ow (A ++ [pdn Q.reverse (Lp (At (k + 1) (FF Q.reverse)), k + 1)]), .va (.int ((k : Int) + 1)), .va (.list (F.map fr)), .va (fr (nmk (k + 1) Q.reverse)), y5, y6, y7], .inl ?_, _, _, _, _, _, _, rfl⟩
        unfold pdn
        rw [← et]
        have st : sem1 .tuple (.list (F.map fr)) = v1 (.tuple (F.map fr)) := rfl
        generalize F.map fr = L1 at *
        simp [val, es_for, c0, c1, c2, z11, z01, sq]
        rw [w1]
        simp [val, lenF, hlt, st, c2, plen]
  · rintro en ⟨z2, z3, z4, z5, z6, z7, rfl⟩
    rw [List.length_map, List.length_range]
    simp [val]
end
end AW

/-! AwK45e: the law of residues of parts. -/
namespace AW
open PySem PySem.Spec PyProof.Rows
section
variable {G : Nat → D} {c : Nat → List Sl → R (D × Bool)} {T : List Fn} {nm : Nm}
theorem Shp.pdn (R : List Pc) (z : PS × Nat) : Shp 3 (pdn R z) := Shp.tup fun d hd => by
  rcases List.mem_cons.mp hd with rfl | hd
  · exact Shp.po _
  · rcases List.mem_cons.mp hd with rfl | hd
    · exact (Shp.fr _).mono (by decide)
    · cases hd
/-- what is told is what is due -/
theorem told45 {j : Nat} (h : SpPartRes c j) {Q : List Pc} (ok : QOk Q) : c j [.va (qd (AA Q.reverse))] = .ok (.list ((partsF (FF Q.reverse) 3).map (pdn Q.reverse)), true) := by
  have okr := ok.take Q.length
  rw [List.take_length] at okr
  generalize Q.reverse = R at *
  obtain ⟨d, k⟩ := AA_ok okr.ok okr.nd okr.deg
  have oks : ∀ x ∈ R, PcOk x := fun x hx => (okr.ok x hx).ok
  have dd := k.dd
  have od := okr.deg
  have ol := okr.len
  have za : Z 10 1800 (AA R).1 := ⟨k.lt.mono (by omega), k.ha.mono (by omega)⟩
  have zb : Z 10 180 (AA R).2 := ⟨k.mn.1.mono (by omega), k.hb.mono (by omega)⟩
  obtain ⟨L, own, w, hL, hown, e⟩ := h (AA R).1 (AA R).2 d 10 10 180 1800 3948 6 za k.mn (by omega) zb.hb (fun g n hg hd => (dv_hb (l := 6) hg zb k.mn.dg.ne hd (by decide)).mono (by unfold db; decide)) (by decide) (by unfold PtOk ComOk cb twR; decide)
  have e' : c j [.va (qd (AA R))] = .ok (.list (L.map fun z => .tuple [po z.1, fr (w z)]), true) := e
  rw [e']
  congr 3
  have gF := FF_good oks okr.nd
  have eL := hL.eq gF (by rw [Pw_FF, mon_of k.mn]) (K' := 3) fun y hy => by
    obtain ⟨x, hx, _, rfl⟩ := FF_mem y hy
    exact (oks x hx).t3
  have : ∀ z ∈ L, (PyData.tuple [po z.1, fr (w z)] : D) = pdn R z := fun z hz => by
    obtain ⟨h1, h2⟩ := hown z hz
    have := own_num oks okr.nd hL k.mn k.lt hz h1 h2
    unfold pdn
    rw [this]
  rw [List.map_congr_left this, eL]
theorem law_k45 {j0 j1 j2 j3 j4 : Nat} (h0 : SpPcs45 c j0) (h1 : SpCellN c j1) (h2 : SpMade45 c j2) (h3 : SpPartRes c j3) (h4 : SpDue45 c j4) (ns : List Int) (hl : ns.length ≤ 1000) :
    bo G c T (b_law_14 j0 j1 j2 j3 j4) [.va (.list (ns.map .int))] 4 = va (.bool true) := by
  have em : max 1 (min (ns.length : Int) 7) = ((max 1 (min ns.length 7) : Nat) : Int) := by omega
  obtain ⟨N, hN⟩ : ∃ N, N = max 1 (min ns.length 7) := ⟨_, rfl⟩
  rw [← hN] at em
  have hrN := rngR_nat N (by omega)
  have l0 : sem1 .len (.list (ns.map .int)) = v1 (.int (ns.length : Nat)) := by show v1 (.int ((ns.map PyData.int).length : Nat)) = _; rw [List.length_map]
  have hcell := h1 ns
  generalize ns.map PyData.int = NS at *
  unfold bo b_law_14
  simp [val, es_for, l0, em, hrN]
  refine forR_then (P := fun r => outF (r.bind _) = _) (I := fun i en => ∃ z1 z2 z3 z4, en = [.va (.list NS), z1, z2, z3, z4]) ?_ ⟨_, _, _, _, rfl⟩ ?_
  · rintro k en d hi ⟨z1, z2, z3, z4, rfl⟩
    rw [List.getElem?_map] at hi
    cases hx : (List.range N)[k]? with
    | none => rw [hx] at hi; cases hi
    | some k' =>
      rw [hx] at hi
      cases Option.some.inj hi
      have hkl := List.mem_range.mp (List.mem_of_getElem? hx)
      obtain ⟨x, x0, ex⟩ := hcell k' (by omega)
      obtain ⟨Q, q1, q2, q3, q4, eq⟩ := h0 x x0
      have ok : QOk Q := ⟨q1, q2, q3, q4⟩
      have e2 := h2 Q ok
      have e3 := told45 h3 ok
      have e4 := h4 Q ok
      have sh : Shp 4 (.list ((partsF (FF Q.reverse) 3).map (pdn Q.reverse))) := Shp.lst fun d hd => by
        obtain ⟨z, _, rfl⟩ := List.mem_map.mp hd
        exact Shp.pdn _ z
      have same := ne_same sh (by decide)
      have hlt : ((partsF (FF Q.reverse) 3).map (pdn Q.reverse)).length < line := by
        have : ∀ k, (partsF (FF Q.reverse) k).length ≤ k := fun k => by
          induction k with
          | zero => exact Nat.le_refl _
          | succ k ih =>
            show (partsF (FF Q.reverse) k ++ _).length ≤ _
            rw [List.length_append]
            split <;> simp <;> omega
        have := this 3
        rw [List.length_map]
        unfold line
        omega
      generalize (partsF (FF Q.reverse) 3).map (pdn Q.reverse) = A at *
      generalize Q.map pcd = QQ at *
      generalize qd (AA Q.reverse) = q at *
      have ty : isTy (PyData.list A) (.bi "list") = true := rfl
      refine ⟨[.va (.list NS), .va (.int (k' : Nat)), .va (.list QQ), .va q, .ow (A ++ [.none])], .inl ?_, _, _, _, _, rfl⟩
      simp [val, ex, eq, e2, e3, e4, same, hlt, ty]
  · rintro en ⟨z1, z2, z3, z4, rfl⟩
    simp [val]
end
end AW

namespace Law
open PySem PySem.Spec PyProof.Rows L2 AW
def top (i : Nat) : Stmt := PySem.Challenge.pw_areawright_k45_residues_of_parts.main.body.getD i (.Pass ⟨0, 0, 0, 0⟩)
def f0 : Fn := ⟨"negated", ["one"], ["one"], [], (b_negated )⟩
def f1 : Fn := ⟨"is_whole", ["thing"], ["thing"], [], (b_is_whole )⟩
def f2 : Fn := ⟨"common_number", ["one", "other"], ["one", "other"], [], (b_common_number )⟩
def f3 : Fn := ⟨"fraction", ["over", "under"], ["over", "under", "part"], [(.int 1)], (b_fraction 1 0 2)⟩
def f4 : Fn := ⟨"plus", ["one", "other"], ["one", "other"], [], (b_plus 3)⟩
def f5 : Fn := ⟨"trimmed", ["row"], ["row", "size"], [], (b_trimmed 0)⟩
def f6 : Fn := ⟨"poly_sum", ["one", "other"], ["one", "other", "size", "left", "right", "a", "b"], [], (@b_poly_sum ⟨fun i => ["one", "other", "size", "left", "right", "a", "b"].getD i ""⟩ 0 5 4)⟩
def f7 : Fn := ⟨"by", ["one", "other"], ["one", "other"], [], (b_by 3)⟩
def f8 : Fn := ⟨"scaled", ["one", "number"], ["one", "number", "part"], [], (@b_scaled ⟨fun i => ["one", "number", "part"].getD i ""⟩ 5 7)⟩
def f9 : Fn := ⟨"poly_slope", ["one"], ["one", "power", "part"], [], (@b_poly_slope ⟨fun i => ["one", "power", "part"].getD i ""⟩ 5 7 3)⟩
def f10 : Fn := ⟨"turned", ["one"], ["one"], [], (b_turned 0 3)⟩
def f11 : Fn := ⟨"monic", ["one"], ["one"], [], (b_monic 8 10)⟩
def f12 : Fn := ⟨"poly_parted", ["one", "other"], ["one", "other", "last", "rest", "often", "place", "number", "k", "part"], [], (b_poly_parted 1 10 0 7 4 0 5)⟩
def f13 : Fn := ⟨"common", ["one", "other"], ["one", "other"], [], (b_common 11 12)⟩
def f14 : Fn := ⟨"often_in", ["one", "other"], ["one", "other"], [], (b_often_in 12)⟩
def f15 : Fn := ⟨"simple_parts", ["one"], ["one", "slope", "whole", "left", "rest", "found", "times", "part"], [], (b_simple_parts 1 11 9 13 14 6 8 0)⟩
def f16 : Fn := ⟨"poly_product", ["one", "other"], ["one", "other", "found", "i", "left", "k", "right"], [], (b_poly_product 0 4 7 5)⟩
def f17 : Fn := ⟨"power_of", ["one", "times"], ["one", "times", "found", "turn"], [], (b_power_of 1 16)⟩
def f18 : Fn := ⟨"turned_within", ["one", "other"], ["one", "other", "low", "high", "left", "right", "often", "rest"], [], (b_turned_within 12 1 6 8 16 10)⟩
def f19 : Fn := ⟨"rows_of", ["part", "times", "top"], ["part", "times", "top", "found", "rest"], [], (b_rows_of 12)⟩
def f20 : Fn := ⟨"parted", ["one"], ["one", "found", "top", "bottom", "whole", "rest", "part", "times", "base", "other", "own"], [], (b_parted_2 12 15 17 16 18 19)⟩
def f21 : Fn := ⟨"part_residues", ["one"], ["one", "tops", "found", "part", "times", "top"], [], (b_part_residues 20 15 0)⟩
def f22 : Fn := ⟨"_law_mixed", ["_law_cell", "_law_k"], ["_law_cell", "_law_k", "_law_number"], [], (b_law_mixed )⟩
def f23 : Fn := ⟨"_law_cell_at", ["_law_script", "_law_k"], ["_law_script", "_law_k"], [], (b_law_cell_at_2 22)⟩
def f24 : Fn := ⟨"_law_lowest", ["_law_over", "_law_under"], ["_law_over", "_law_under", "_law_one", "_law_other"], [], (b_law_lowest )⟩
def f25 : Fn := ⟨"_law_fraction", ["_law_cell"], ["_law_cell"], [], (b_law_fraction 24)⟩
def f26 : Fn := ⟨"_law_pieces", ["_law_cell"], ["_law_cell", "_law_some", "_law_j", "_law_found", "_law_left", "_law_place", "_law_piece", "_law_times_here", "_law_top", "_law_i"], [], (@b_law_pieces_2 ⟨fun i => ["_law_cell", "_law_some", "_law_j", "_law_found", "_law_left", "_law_place", "_law_piece", "_law_times_here", "_law_top", "_law_i"].getD i ""⟩ 22 25)⟩
def f27 : Fn := ⟨"is_fraction", ["thing"], ["thing", "one"], [], (@b_is_fraction ⟨fun i => ["thing", "one"].getD i ""⟩ 1 2)⟩
def f28 : Fn := ⟨"is_poly", ["thing"], ["thing", "one"], [], (@b_is_poly ⟨fun i => ["thing", "one"].getD i ""⟩ 27 0)⟩
def f29 : Fn := ⟨"quotient", ["top", "bottom"], ["top", "bottom", "part", "last"], [], (b_quotient 28 2 13 10 8 12 11)⟩
def f30 : Fn := ⟨"q_sum", ["one", "other"], ["one", "other", "left", "right"], [], (b_q_sum 16 29 6)⟩
def f31 : Fn := ⟨"_law_sum", ["_law_one", "_law_other"], ["_law_one", "_law_other"], [], (b_plus 24)⟩
def f32 : Fn := ⟨"_law_times", ["_law_one", "_law_other"], ["_law_one", "_law_other"], [], (b_by 24)⟩
def f33 : Fn := ⟨"_law_product", ["_law_one", "_law_other"], ["_law_one", "_law_other", "_law_found", "_law_i", "_law_left", "_law_k", "_law_right"], [], (b_law_product 31 32)⟩
def f34 : Fn := ⟨"_law_plain", ["_law_row"], ["_law_row", "_law_found"], [], (b_law_plain )⟩
def f35 : Fn := ⟨"_law_made", ["_law_pieces_here"], ["_law_pieces_here", "_law_made_here", "_law_piece", "_law_times_here", "_law_top", "_law_bottom", "_law_turn"], [], (b_law_made 29 30 34 33)⟩
def f36 : Fn := ⟨"_law_due", ["_law_pieces_here"], ["_law_pieces_here", "_law_found", "_law_times_here", "_law_part", "_law_number", "_law_piece", "_law_often", "_law_top"], [], (b_law_due_3 34 33 31)⟩
def f37 : Fn := ⟨"law", ["_law_script"], ["_law_script", "_law_k", "_law_pieces_here", "_law_one", "_law_found"], [], (b_law_14 26 23 35 21 36)⟩
def T : List Fn := [f0, f1, f2, f3, f4, f5, f6, f7, f8, f9, f10, f11, f12, f13, f14, f15, f16, f17, f18, f19, f20, f21, f22, f23, f24, f25, f26, f27, f28, f29, f30, f31, f32, f33, f34, f35, f36, f37]
def cons : List (Str × D) := [("NOUGHT", (.tuple [(.int 0), (.int 1)])), ("ONE", (.tuple [(.tuple [(.int 1), (.int 1)])]))]
def clsN : List Str := ["NoFraction", "NoPoly", "NoQuotient", "", "", "", "", "", "", "AreaError"]
def d0 : He.DefD := ⟨("negated", none), "negated", "negated", defArgs (top 11), defBody (top 11), defScope (top 11), [], []⟩
def d1 : He.DefD := ⟨("is_whole", none), "is_whole", "is_whole", defArgs (top 6), defBody (top 6), defScope (top 6), [], []⟩
def d2 : He.DefD := ⟨("common_number", none), "common_number", "common_number", defArgs (top 7), defBody (top 7), defScope (top 7), [], []⟩
def d3 : He.DefD := ⟨("fraction", none), "fraction", "fraction", defArgs (top 8), defBody (top 8), defScope (top 8), [.int 1], []⟩
def d4 : He.DefD := ⟨("plus", none), "plus", "plus", defArgs (top 10), defBody (top 10), defScope (top 10), [], []⟩
def d5 : He.DefD := ⟨("trimmed", none), "trimmed", "trimmed", defArgs (top 16), defBody (top 16), defScope (top 16), [], []⟩
def d6 : He.DefD := ⟨("poly_sum", none), "poly_sum", "poly_sum", defArgs (top 18), defBody (top 18), defScope (top 18), [], []⟩
def d7 : He.DefD := ⟨("by", none), "by", "by", defArgs (top 12), defBody (top 12), defScope (top 12), [], []⟩
def d8 : He.DefD := ⟨("scaled", none), "scaled", "scaled", defArgs (top 19), defBody (top 19), defScope (top 19), [], []⟩
def d9 : He.DefD := ⟨("poly_slope", none), "poly_slope", "poly_slope", defArgs (top 21), defBody (top 21), defScope (top 21), [], []⟩
def d10 : He.DefD := ⟨("turned", none), "turned", "turned", defArgs (top 13), defBody (top 13), defScope (top 13), [], []⟩
def d11 : He.DefD := ⟨("monic", none), "monic", "monic", defArgs (top 24), defBody (top 24), defScope (top 24), [], []⟩
def d12 : He.DefD := ⟨("poly_parted", none), "poly_parted", "poly_parted", defArgs (top 22), defBody (top 22), defScope (top 22), [], []⟩
def d13 : He.DefD := ⟨("common", none), "common", "common", defArgs (top 25), defBody (top 25), defScope (top 25), [], []⟩
def d14 : He.DefD := ⟨("often_in", none), "often_in", "often_in", defArgs (top 26), defBody (top 26), defScope (top 26), [], []⟩
def d15 : He.DefD := ⟨("simple_parts", none), "simple_parts", "simple_parts", defArgs (top 27), defBody (top 27), defScope (top 27), [], []⟩
def d16 : He.DefD := ⟨("poly_product", none), "poly_product", "poly_product", defArgs (top 20), defBody (top 20), defScope (top 20), [], []⟩
def d17 : He.DefD := ⟨("power_of", none), "power_of", "power_of", defArgs (top 33), defBody (top 33), defScope (top 33), [], []⟩
def d18 : He.DefD := ⟨("turned_within", none), "turned_within", "turned_within", defArgs (top 34), defBody (top 34), defScope (top 34), [], []⟩
def d19 : He.DefD := ⟨("rows_of", none), "rows_of", "rows_of", defArgs (top 35), defBody (top 35), defScope (top 35), [], []⟩
def d20 : He.DefD := ⟨("parted", none), "parted", "parted", defArgs (top 36), defBody (top 36), defScope (top 36), [], []⟩
def d21 : He.DefD := ⟨("part_residues", none), "part_residues", "part_residues", defArgs (top 38), defBody (top 38), defScope (top 38), [], []⟩
def d22 : He.DefD := ⟨("_law_mixed", none), "_law_mixed", "_law_mixed", defArgs (top 40), defBody (top 40), defScope (top 40), [], []⟩
def d23 : He.DefD := ⟨("_law_cell_at", none), "_law_cell_at", "_law_cell_at", defArgs (top 41), defBody (top 41), defScope (top 41), [], []⟩
def d24 : He.DefD := ⟨("_law_lowest", none), "_law_lowest", "_law_lowest", defArgs (top 42), defBody (top 42), defScope (top 42), [], []⟩
def d25 : He.DefD := ⟨("_law_fraction", none), "_law_fraction", "_law_fraction", defArgs (top 47), defBody (top 47), defScope (top 47), [], []⟩
def d26 : He.DefD := ⟨("_law_pieces", none), "_law_pieces", "_law_pieces", defArgs (top 48), defBody (top 48), defScope (top 48), [], []⟩
def d27 : He.DefD := ⟨("is_fraction", none), "is_fraction", "is_fraction", defArgs (top 9), defBody (top 9), defScope (top 9), [], []⟩
def d28 : He.DefD := ⟨("is_poly", none), "is_poly", "is_poly", defArgs (top 17), defBody (top 17), defScope (top 17), [], []⟩
def d29 : He.DefD := ⟨("quotient", none), "quotient", "quotient", defArgs (top 30), defBody (top 30), defScope (top 30), [], []⟩
def d30 : He.DefD := ⟨("q_sum", none), "q_sum", "q_sum", defArgs (top 31), defBody (top 31), defScope (top 31), [], []⟩
def d31 : He.DefD := ⟨("_law_sum", none), "_law_sum", "_law_sum", defArgs (top 43), defBody (top 43), defScope (top 43), [], []⟩
def d32 : He.DefD := ⟨("_law_times", none), "_law_times", "_law_times", defArgs (top 44), defBody (top 44), defScope (top 44), [], []⟩
def d33 : He.DefD := ⟨("_law_product", none), "_law_product", "_law_product", defArgs (top 45), defBody (top 45), defScope (top 45), [], []⟩
def d34 : He.DefD := ⟨("_law_plain", none), "_law_plain", "_law_plain", defArgs (top 46), defBody (top 46), defScope (top 46), [], []⟩
def d35 : He.DefD := ⟨("_law_made", none), "_law_made", "_law_made", defArgs (top 49), defBody (top 49), defScope (top 49), [], []⟩
def d36 : He.DefD := ⟨("_law_due", none), "_law_due", "_law_due", defArgs (top 50), defBody (top 50), defScope (top 50), [], []⟩
def d37 : He.DefD := ⟨("law", none), "law", "law", defArgs (top 51), defBody (top 51), defScope (top 51), [], []⟩
def ds : List He.DefD := [d0, d1, d2, d3, d4, d5, d6, d7, d8, d9, d10, d11, d12, d13, d14, d15, d16, d17, d18, d19, d20, d21, d22, d23, d24, d25, d26, d27, d28, d29, d30, d31, d32, d33, d34, d35, d36, d37]
def t : Tb := ⟨T, cons, clsN, ds⟩
theorem b0 : BindF f0 d0 := ⟨fun _ _ _ _ _ _ _ us hl => match us, hl with | [_], _ => rfl, fun h => absurd rfl h⟩
theorem b1 : BindF f1 d1 := ⟨fun _ _ _ _ _ _ _ us hl => match us, hl with | [_], _ => rfl, fun h => absurd rfl h⟩
theorem b2 : BindF f2 d2 := ⟨fun _ _ _ _ _ _ _ us hl => match us, hl with | [_, _], _ => rfl, fun h => absurd rfl h⟩
theorem b3 : BindF f3 d3 := by
  refine ⟨fun h => (nomatch h), fun _ m hm => ?_⟩
  have hm : m ≤ 1 := hm
  have hc : m = 0 ∨ m = 1 := by omega
  rcases hc with rfl | rfl
  · refine ⟨by decide, fun _ _ _ _ _ _ _ us its h1 h2 => ?_⟩
    match us, its, h1, h2 with
    | [_, _], [_], _, _ => exact ⟨_, rfl, rfl⟩
  · refine ⟨by decide, fun _ _ _ _ _ _ _ us its h1 h2 => ?_⟩
    match us, its, h1, h2 with
    | [_], [_], _, _ => exact ⟨_, rfl, rfl⟩
theorem b4 : BindF f4 d4 := ⟨fun _ _ _ _ _ _ _ us hl => match us, hl with | [_, _], _ => rfl, fun h => absurd rfl h⟩
theorem b5 : BindF f5 d5 := ⟨fun _ _ _ _ _ _ _ us hl => match us, hl with | [_], _ => rfl, fun h => absurd rfl h⟩
theorem b6 : BindF f6 d6 := ⟨fun _ _ _ _ _ _ _ us hl => match us, hl with | [_, _], _ => rfl, fun h => absurd rfl h⟩
theorem b7 : BindF f7 d7 := ⟨fun _ _ _ _ _ _ _ us hl => match us, hl with | [_, _], _ => rfl, fun h => absurd rfl h⟩
theorem b8 : BindF f8 d8 := ⟨fun _ _ _ _ _ _ _ us hl => match us, hl with | [_, _], _ => rfl, fun h => absurd rfl h⟩
theorem b9 : BindF f9 d9 := ⟨fun _ _ _ _ _ _ _ us hl => match us, hl with | [_], _ => rfl, fun h => absurd rfl h⟩
theorem b10 : BindF f10 d10 := ⟨fun _ _ _ _ _ _ _ us hl => match us, hl with | [_], _ => rfl, fun h => absurd rfl h⟩
theorem b11 : BindF f11 d11 := ⟨fun _ _ _ _ _ _ _ us hl => match us, hl with | [_], _ => rfl, fun h => absurd rfl h⟩
theorem b12 : BindF f12 d12 := ⟨fun _ _ _ _ _ _ _ us hl => match us, hl with | [_, _], _ => rfl, fun h => absurd rfl h⟩
theorem b13 : BindF f13 d13 := ⟨fun _ _ _ _ _ _ _ us hl => match us, hl with | [_, _], _ => rfl, fun h => absurd rfl h⟩
theorem b14 : BindF f14 d14 := ⟨fun _ _ _ _ _ _ _ us hl => match us, hl with | [_, _], _ => rfl, fun h => absurd rfl h⟩
theorem b15 : BindF f15 d15 := ⟨fun _ _ _ _ _ _ _ us hl => match us, hl with | [_], _ => rfl, fun h => absurd rfl h⟩
theorem b16 : BindF f16 d16 := ⟨fun _ _ _ _ _ _ _ us hl => match us, hl with | [_, _], _ => rfl, fun h => absurd rfl h⟩
theorem b17 : BindF f17 d17 := ⟨fun _ _ _ _ _ _ _ us hl => match us, hl with | [_, _], _ => rfl, fun h => absurd rfl h⟩
theorem b18 : BindF f18 d18 := ⟨fun _ _ _ _ _ _ _ us hl => match us, hl with | [_, _], _ => rfl, fun h => absurd rfl h⟩
theorem b19 : BindF f19 d19 := ⟨fun _ _ _ _ _ _ _ us hl => match us, hl with | [_, _, _], _ => rfl, fun h => absurd rfl h⟩
theorem b20 : BindF f20 d20 := ⟨fun _ _ _ _ _ _ _ us hl => match us, hl with | [_], _ => rfl, fun h => absurd rfl h⟩
theorem b21 : BindF f21 d21 := ⟨fun _ _ _ _ _ _ _ us hl => match us, hl with | [_], _ => rfl, fun h => absurd rfl h⟩
theorem b22 : BindF f22 d22 := ⟨fun _ _ _ _ _ _ _ us hl => match us, hl with | [_, _], _ => rfl, fun h => absurd rfl h⟩
theorem b23 : BindF f23 d23 := ⟨fun _ _ _ _ _ _ _ us hl => match us, hl with | [_, _], _ => rfl, fun h => absurd rfl h⟩
theorem b24 : BindF f24 d24 := ⟨fun _ _ _ _ _ _ _ us hl => match us, hl with | [_, _], _ => rfl, fun h => absurd rfl h⟩
theorem b25 : BindF f25 d25 := ⟨fun _ _ _ _ _ _ _ us hl => match us, hl with | [_], _ => rfl, fun h => absurd rfl h⟩
theorem b26 : BindF f26 d26 := ⟨fun _ _ _ _ _ _ _ us hl => match us, hl with | [_], _ => rfl, fun h => absurd rfl h⟩
theorem b27 : BindF f27 d27 := ⟨fun _ _ _ _ _ _ _ us hl => match us, hl with | [_], _ => rfl, fun h => absurd rfl h⟩
theorem b28 : BindF f28 d28 := ⟨fun _ _ _ _ _ _ _ us hl => match us, hl with | [_], _ => rfl, fun h => absurd rfl h⟩
theorem b29 : BindF f29 d29 := ⟨fun _ _ _ _ _ _ _ us hl => match us, hl with | [_, _], _ => rfl, fun h => absurd rfl h⟩
theorem b30 : BindF f30 d30 := ⟨fun _ _ _ _ _ _ _ us hl => match us, hl with | [_, _], _ => rfl, fun h => absurd rfl h⟩
theorem b31 : BindF f31 d31 := ⟨fun _ _ _ _ _ _ _ us hl => match us, hl with | [_, _], _ => rfl, fun h => absurd rfl h⟩
theorem b32 : BindF f32 d32 := ⟨fun _ _ _ _ _ _ _ us hl => match us, hl with | [_, _], _ => rfl, fun h => absurd rfl h⟩
theorem b33 : BindF f33 d33 := ⟨fun _ _ _ _ _ _ _ us hl => match us, hl with | [_, _], _ => rfl, fun h => absurd rfl h⟩
theorem b34 : BindF f34 d34 := ⟨fun _ _ _ _ _ _ _ us hl => match us, hl with | [_], _ => rfl, fun h => absurd rfl h⟩
theorem b35 : BindF f35 d35 := ⟨fun _ _ _ _ _ _ _ us hl => match us, hl with | [_], _ => rfl, fun h => absurd rfl h⟩
theorem b36 : BindF f36 d36 := ⟨fun _ _ _ _ _ _ _ us hl => match us, hl with | [_], _ => rfl, fun h => absurd rfl h⟩
theorem b37 : BindF f37 d37 := ⟨fun _ _ _ _ _ _ _ us hl => match us, hl with | [_], _ => rfl, fun h => absurd rfl h⟩
theorem ck : ckAll T cons clsN T ds = true := by decide +kernel
theorem bd : BindAll T ds := ⟨b0, ⟨b1, ⟨b2, ⟨b3, ⟨b4, ⟨b5, ⟨b6, ⟨b7, ⟨b8, ⟨b9, ⟨b10, ⟨b11, ⟨b12, ⟨b13, ⟨b14, ⟨b15, ⟨b16, ⟨b17, ⟨b18, ⟨b19, ⟨b20, ⟨b21, ⟨b22, ⟨b23, ⟨b24, ⟨b25, ⟨b26, ⟨b27, ⟨b28, ⟨b29, ⟨b30, ⟨b31, ⟨b32, ⟨b33, ⟨b34, ⟨b35, ⟨b36, ⟨b37, trivial⟩⟩⟩⟩⟩⟩⟩⟩⟩⟩⟩⟩⟩⟩⟩⟩⟩⟩⟩⟩⟩⟩⟩⟩⟩⟩⟩⟩⟩⟩⟩⟩⟩⟩⟩⟩⟩⟩
theorem says : TbSays t := ⟨by decide +kernel, ck, bd⟩
end Law

namespace Law
open PySem PySem.Spec PyProof.Rows AW
abbrev G : Nat → D := fun x => ((t.cons[x]?).map (·.2)).getD .none
noncomputable abbrev C (k : Nat) : Nat → List Sl → R (D × Bool) := callN G t.T k
theorem h0_SpNeg (k : Nat) (hk : 0 < k) : SpNeg (callN G t.T k) 0 := by
  unfold SpNeg
  intros
  rw [callN_bo (ss := [_]) hk rfl rfl]
  apply negated_ok  <;> assumption
theorem h1_SpWhole (k : Nat) (hk : 1 < k) : SpWhole (callN G t.T k) 1 := by
  unfold SpWhole
  intros
  rw [callN_bo (ss := [_]) hk rfl rfl]
  apply whole_ok  <;> assumption
theorem h2_SpGcd (k : Nat) (hk : 2 < k) : SpGcd (callN G t.T k) 2 := by
  unfold SpGcd
  intros
  rw [callN_bo (ss := [_, _]) hk rfl rfl]
  apply gcd_ok  <;> assumption
theorem h3_SpFrac (k : Nat) (hk : 3 < k) : SpFrac (callN G t.T k) 3 := by
  unfold SpFrac
  intros
  rw [callN_bo (ss := [_, _]) hk rfl rfl]
  apply frac_ok (h1_SpWhole 3 (by decide)) (h2_SpGcd 3 (by decide)) <;> assumption
theorem h4_SpPlus (k : Nat) (hk : 4 < k) : SpPlus (callN G t.T k) 4 := by
  unfold SpPlus
  intros
  rw [callN_bo (ss := [_, _]) hk rfl rfl]
  apply plus_ok (h3_SpFrac 4 (by decide)) <;> assumption
theorem h5_SpTrim (k : Nat) (hk : 5 < k) : SpTrim (callN G t.T k) 5 := ⟨fun p => (callN_bo (ss := [_]) hk rfl rfl).trans (trimmed_ok rfl p), fun p => (callN_bo (ss := [_]) hk rfl rfl).trans (trimmed_ok' rfl p)⟩
theorem h6_SpSum (k : Nat) (hk : 6 < k) : SpSum (callN G t.T k) 6 := by
  unfold SpSum
  intros
  rw [callN_bo (ss := [_, _]) hk rfl rfl]
  apply sum_ok rfl (h5_SpTrim 6 (by decide)) (h4_SpPlus 6 (by decide)) <;> assumption
theorem h7_SpBy (k : Nat) (hk : 7 < k) : SpBy (callN G t.T k) 7 := by
  unfold SpBy
  intros
  rw [callN_bo (ss := [_, _]) hk rfl rfl]
  apply by_ok (h3_SpFrac 7 (by decide)) <;> assumption
theorem h8_SpScaled (k : Nat) (hk : 8 < k) : SpScaled (callN G t.T k) 8 := by
  unfold SpScaled
  intros
  rw [callN_bo (ss := [_, _]) hk rfl rfl]
  apply scaled_ok (h5_SpTrim 8 (by decide)) (h7_SpBy 8 (by decide)) <;> assumption
theorem h9_SpSlope (k : Nat) (hk : 9 < k) : SpSlope (callN G t.T k) 9 := by
  unfold SpSlope
  intros
  rw [callN_bo (ss := [_]) hk rfl rfl]
  apply slope_ok (h5_SpTrim 9 (by decide)) (h7_SpBy 9 (by decide)) (h3_SpFrac 9 (by decide)) rfl <;> assumption
theorem h10_SpTurn (k : Nat) (hk : 10 < k) : SpTurn (callN G t.T k) 10 := by
  unfold SpTurn
  intros
  rw [callN_bo (ss := [_]) hk rfl rfl]
  apply turned_ok (h3_SpFrac 10 (by decide)) <;> assumption
theorem h11_SpMon (k : Nat) (hk : 11 < k) : SpMon (callN G t.T k) 11 := by
  unfold SpMon
  intros
  rw [callN_bo (ss := [_]) hk rfl rfl]
  apply monic_ok (h8_SpScaled 11 (by decide)) (h10_SpTurn 11 (by decide)) <;> assumption
theorem h12_SpDiv (k : Nat) (hk : 12 < k) : SpDiv (callN G t.T k) 12 := by
  unfold SpDiv
  intros
  rw [callN_bo (ss := [_, _]) hk rfl rfl]
  apply parted_ok rfl (h10_SpTurn 12 (by decide)) (h7_SpBy 12 (by decide)) (h4_SpPlus 12 (by decide)) (h0_SpNeg 12 (by decide)) (h5_SpTrim 12 (by decide)) <;> assumption
theorem h13_SpCom (k : Nat) (hk : 13 < k) : SpCom (callN G t.T k) 13 := by
  unfold SpCom
  intros
  rw [callN_bo (ss := [_, _]) hk rfl rfl]
  apply common_ok (h11_SpMon 13 (by decide)) (h12_SpDiv 13 (by decide)) <;> assumption
theorem h14_SpOft (k : Nat) (hk : 14 < k) : SpOft (callN G t.T k) 14 := by
  unfold SpOft
  intros
  rw [callN_bo (ss := [_, _]) hk rfl rfl]
  apply often_ok (h12_SpDiv 14 (by decide)) <;> assumption
theorem h15_SpParts2 (k : Nat) (hk : 15 < k) : SpParts2 (callN G t.T k) 15 := by
  unfold SpParts2
  intros
  rw [callN_bo (ss := [_]) hk rfl rfl]
  apply simple_parts_ok2 (h11_SpMon 15 (by decide)) (h9_SpSlope 15 (by decide)) (h13_SpCom 15 (by decide)) (h14_SpOft 15 (by decide)) (h6_SpSum 15 (by decide)) (h8_SpScaled 15 (by decide)) (h0_SpNeg 15 (by decide)) <;> assumption
theorem h16_SpProdZ (k : Nat) (hk : 16 < k) : SpProdZ (callN G t.T k) 16 := by
  unfold SpProdZ
  intros
  rw [callN_bo (ss := [_, _]) hk rfl rfl]
  apply prodZ_ok rfl (h4_SpPlus 16 (by decide)) (h7_SpBy 16 (by decide)) (h5_SpTrim 16 (by decide)) <;> assumption
theorem h17_SpPow (k : Nat) (hk : 17 < k) : SpPow (callN G t.T k) 17 := by
  unfold SpPow
  intros
  rw [callN_bo (ss := [_, _]) hk rfl rfl]
  apply power_of_ok (by exact po_one.symm) (h16_SpProdZ 17 (by decide)) <;> assumption
theorem h18_SpTw (k : Nat) (hk : 18 < k) : SpTw (callN G t.T k) 18 := by
  unfold SpTw
  intros
  rw [callN_bo (ss := [_, _]) hk rfl rfl]
  apply turned_within_ok (h12_SpDiv 18 (by decide)) (by exact po_one.symm) (h6_SpSum 18 (by decide)) (h8_SpScaled 18 (by decide)) (h16_SpProdZ 18 (by decide)) (h10_SpTurn 18 (by decide)) <;> assumption
theorem h19_SpRowsOf (k : Nat) (hk : 19 < k) : SpRowsOf (callN G t.T k) 19 := by
  unfold SpRowsOf
  intros
  rw [callN_bo (ss := [_, _, _]) hk rfl rfl]
  apply rows_of_ok (h12_SpDiv 19 (by decide)) <;> assumption
theorem h20_SpParted (k : Nat) (hk : 20 < k) : SpParted (callN G t.T k) 20 := by
  unfold SpParted
  intros
  rw [callN_bo (ss := [_]) hk rfl rfl]
  apply parted_2_ok (h12_SpDiv 20 (by decide)) (h15_SpParts2 20 (by decide)) (h17_SpPow 20 (by decide)) (h16_SpProdZ 20 (by decide)) (h18_SpTw 20 (by decide)) (h19_SpRowsOf 20 (by decide)) <;> assumption
theorem h21_SpPartRes (k : Nat) (hk : 21 < k) : SpPartRes (callN G t.T k) 21 := by
  unfold SpPartRes
  intros
  rw [callN_bo (ss := [_]) hk rfl rfl]
  apply part_residues_ok rfl (h20_SpParted 21 (by decide)) (h15_SpParts2 21 (by decide)) <;> assumption
theorem h22_SpMix (k : Nat) (hk : 22 < k) : SpMix (callN G t.T k) 22 := by
  unfold SpMix
  intros
  rw [callN_bo (ss := [_, _]) hk rfl rfl]
  apply mixed_ok  <;> assumption
theorem h23_SpCellN (k : Nat) (hk : 23 < k) : SpCellN (callN G t.T k) 23 := by
  unfold SpCellN
  intros
  rw [callN_bo (ss := [_, _]) hk rfl rfl]
  apply cell_at2_ok (h22_SpMix 23 (by decide)) <;> assumption
theorem h24_SpFrac (k : Nat) (hk : 24 < k) : SpFrac (callN G t.T k) 24 := by
  unfold SpFrac
  intros
  rw [callN_bo (ss := [_, _]) hk rfl rfl]
  apply lowest_ok  <;> assumption
theorem h25_SpLFr (k : Nat) (hk : 25 < k) : SpLFr (callN G t.T k) 25 := by
  unfold SpLFr
  intros
  rw [callN_bo (ss := [_]) hk rfl rfl]
  apply lfr_ok (h24_SpFrac 25 (by decide)) <;> assumption
theorem h26_SpPcs45 (k : Nat) (hk : 26 < k) : SpPcs45 (callN G t.T k) 26 := by
  unfold SpPcs45
  intros
  rw [callN_bo (ss := [_]) hk rfl rfl]
  apply pieces45_ok (h22_SpMix 26 (by decide)) (h25_SpLFr 26 (by decide)) <;> assumption
theorem h27_SpIsFr (k : Nat) (hk : 27 < k) : SpIsFr (callN G t.T k) 27 := by
  unfold SpIsFr
  intros
  rw [callN_bo (ss := [_]) hk rfl rfl]
  apply is_fraction_ok (h1_SpWhole 27 (by decide)) (h2_SpGcd 27 (by decide)) <;> assumption
theorem h28_SpIsPo (k : Nat) (hk : 28 < k) : SpIsPo (callN G t.T k) 28 := by
  unfold SpIsPo
  intros
  rw [callN_bo (ss := [_]) hk rfl rfl]
  apply is_poly_ok rfl (h27_SpIsFr 28 (by decide)) <;> assumption
theorem h29_SpQuot (k : Nat) (hk : 29 < k) : SpQuot (callN G t.T k) 29 := by
  unfold SpQuot
  intros
  rw [callN_bo (ss := [_, _]) hk rfl rfl]
  apply quotient_ok (h28_SpIsPo 29 (by decide)) (h13_SpCom 29 (by decide)) (h10_SpTurn 29 (by decide)) (h8_SpScaled 29 (by decide)) (h12_SpDiv 29 (by decide)) (h11_SpMon 29 (by decide)) <;> assumption
theorem h30_SpQSum (k : Nat) (hk : 30 < k) : SpQSum (callN G t.T k) 30 := by
  unfold SpQSum
  intros
  rw [callN_bo (ss := [_, _]) hk rfl rfl]
  apply q_sum_ok (h16_SpProdZ 30 (by decide)) (h29_SpQuot 30 (by decide)) (h6_SpSum 30 (by decide)) <;> assumption
theorem h31_SpPlus (k : Nat) (hk : 31 < k) : SpPlus (callN G t.T k) 31 := by
  unfold SpPlus
  intros
  rw [callN_bo (ss := [_, _]) hk rfl rfl]
  apply plus_ok (h24_SpFrac 31 (by decide)) <;> assumption
theorem h32_SpBy (k : Nat) (hk : 32 < k) : SpBy (callN G t.T k) 32 := by
  unfold SpBy
  intros
  rw [callN_bo (ss := [_, _]) hk rfl rfl]
  apply by_ok (h24_SpFrac 32 (by decide)) <;> assumption
theorem h33_SpLProd (k : Nat) (hk : 33 < k) : SpLProd (callN G t.T k) 33 := by
  unfold SpLProd
  intros
  rw [callN_bo (ss := [_, _]) hk rfl rfl]
  apply lprod_ok (h31_SpPlus 33 (by decide)) (h32_SpBy 33 (by decide)) <;> assumption
theorem h34_SpPlain (k : Nat) (hk : 34 < k) : SpPlain (callN G t.T k) 34 := by
  unfold SpPlain
  intros
  rw [callN_bo (ss := [_]) hk rfl rfl]
  apply plain_ok  <;> assumption
theorem h35_SpMade45 (k : Nat) (hk : 35 < k) : SpMade45 (callN G t.T k) 35 := by
  unfold SpMade45
  intros
  rw [callN_bo (ss := [_]) hk rfl rfl]
  apply made45_ok (h29_SpQuot 35 (by decide)) (h30_SpQSum 35 (by decide)) (h34_SpPlain 35 (by decide)) (h33_SpLProd 35 (by decide)) <;> assumption
theorem h36_SpDue45 (k : Nat) (hk : 36 < k) : SpDue45 (callN G t.T k) 36 := by
  unfold SpDue45
  intros
  rw [callN_bo (ss := [_]) hk rfl rfl]
  apply due45_ok (h34_SpPlain 36 (by decide)) (h33_SpLProd 36 (by decide)) (h31_SpPlus 36 (by decide)) <;> assumption
theorem hlaw (ns : List Int) (hl : ns.length ≤ 63) : callN G t.T 38 37 [.va (.list (ns.map .int))] = .ok (.bool true, false) :=
  (callN_bo (ss := [_]) (by decide) rfl rfl).trans (law_k45 (h26_SpPcs45 37 (by decide)) (h23_SpCellN 37 (by decide)) (h35_SpMade45 37 (by decide)) (h21_SpPartRes 37 (by decide)) (h36_SpDue45 37 (by decide)) ns (by omega))
end Law
namespace Law
open PySem PySem.Spec PyProof.Rows L2 AW
def nm0 : List Str := ["__name__", "AreaError", "NoFraction", "NoPoly", "NoQuotient", "is_whole", "common_number", "fraction", "is_fraction", "plus", "negated", "by", "turned", "NOUGHT", "trimmed", "is_poly", "poly_sum", "scaled", "poly_product", "poly_slope", "poly_parted", "monic", "common", "often_in", "simple_parts", "ONE", "quotient", "q_sum", "power_of", "turned_within"]
def nm1 : List Str := ["rows_of", "parted", "part_residues", "_law_mixed", "_law_cell_at", "_law_lowest", "_law_sum", "_law_times", "_law_product", "_law_plain", "_law_fraction", "_law_pieces", "_law_made", "_law_due"]
def names : List Str := nm0 ++ nm1
abbrev R : PySem.W.OpenRow := PySem.W.OpenLaw.row PySem.Challenge.rw_areawright_k45_residues_of_parts
abbrev hk : PySem.W.Hook := hookA 5 t.fx
def ob (s : PySem.W.SharedT) : He.AlD := obsAG 5 t.fx (HandSHeadRun.getT s)
theorem ob_eq (s : PySem.W.SharedT) : ob s = hk.obs s.abs := obsAG_eq (HandSHeadRun.getT_eq s)
theorem run (w : World) : HandSHeadRun.RunEq R (PySem.W.view R.prog [51]) hk ob 5000 names w := by
  intro os
  kernel_rfl
end Law
open PySem PySem.W PySem.Calls PyProof.Rows
theorem holds_of (run : ∀ ns : List Int, ns.length ≤ 63 → AW.callN (fun x => ((Law.t.cons[x]?).map (·.2)).getD .none) Law.t.T 38 37 [.va (.list (ns.map .int))] = .ok (.bool true, false)) : PySem.Challenge.rw_areawright_k45_residues_of_parts.Holds := by
  w_on; o_law
  refine HandSHeadRun.head_any (r := OpenLaw.row PySem.Challenge.rw_areawright_k45_residues_of_parts) (q := view (OpenLaw.row PySem.Challenge.rw_areawright_k45_residues_of_parts).prog [51]) (H := Law.hk) (ob := Law.ob) (M := 5000) (loose := Law.names) (d := HandSHeadRun.topDef (OpenLaw.row PySem.Challenge.rw_areawright_k45_residues_of_parts).prog 51) (kwd := []) Law.ob_eq
    (by kernel_rfl) (fun s => by kernel_rfl) Law.run (by kernel_rfl) (by kernel_rfl) (by kernel_rfl) (by rfl) (by first | assumption | decide +kernel) (by decide +kernel) ⟨rfl, rfl, rfl, rfl, rfl, by decide +kernel⟩ ?hw ?hc
  case hw => w_witness2
  case hc =>
    refine L2.walk_ofE (l := PySem.Challenge.rw_areawright_k45_residues_of_parts) (n := 63) (k := 70) (x := "_law_script") (CX := AW.cxA (PySem.Challenge.rw_areawright_k45_residues_of_parts).prog) rfl (by decide) (by kernel_rfl) ⟨rfl, by decide, by decide⟩ ?F ?nocx
    case F =>
      intro w mg fa h Y G hmg0
      obtain ⟨K, KX, c⟩ := Y
      have hmg : mg ("law" : PySem.Str) = some (.ref fa) := by
        have e : (HandSHeadRun.topDef (OpenLaw.row PySem.Challenge.rw_areawright_k45_residues_of_parts).prog 51).name = ("law" : PySem.Str) := by kernel_rfl
        rw [← e]
        exact hmg0
      obtain ⟨fd, sp, h1, h2, h3⟩ := AW.law_ok (P := (PySem.Challenge.rw_areawright_k45_residues_of_parts).prog) (w := w) (j := 37) (g := Law.f37) (d := Law.d37) (x := "_law_script") (by kernel_rfl) Law.says rfl rfl rfl rfl KX G c hmg (lim := 63) run
      exact ⟨K, fd, sp, KX, h1, h2, fun base kb gb => AW.fn_cxA (h3 base kb gb)⟩
    case nocx => exact fun H s e s' z => AW.cxA_none z


theorem PySem.Challenge.cw_areawright_k45_residues_of_parts_holds : PySem.Challenge.rw_areawright_k45_residues_of_parts.Holds :=
  holds_of fun ns hl => Law.hlaw ns hl
