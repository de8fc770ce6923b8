import PyProof.Rows.All
import Wide.All
import OpenK.AllK
import Wide.FinOn
import PySem.Challenge.RW_areawright_k04_how_often_and_rest
import HandS.ForExc
import HandS.HeadHook1
import HandS.ExcIs
import HandS.ForMost
import HandS.Flow
import HandS.Style
import HandS.Wide
import HandS.Zip
import HandS.Rev
import HandS.RevRange
import HandS.Conv
import HandS.TupAny
import HandS.Deep
import HandS.CallSlots
import HandS.IsInst
import HandS.Iter
import HandS.NoneIn
import HandS.TupMul
import KE.GoesEnum
import KE.GoesMore
import HandS.ExcValue
import HandS.Defaults
import HandS.HeadHook2
import HandS.Head0
import HandS.Head1
import HandS.Head2
import HandS.HeadEnd
import KE.KStateDown
import Lean
set_option Elab.async false
set_option linter.all false
set_option maxRecDepth 100000
set_option maxHeartbeats 0
/-! AwTM: a tuple times one, times nought or less. -/
namespace L2
open PySem PySem.Spec PyProof.Rows
theorem tuple_mul1 (l : Addr) (items : Array Value) (n : Nat) (dd : Option Addr) (sl : Array (Option Value)) (x : Int) (u : Tok) (c0 : (decide (x < -(2 ^ 63)) || decide (x ≥ 2 ^ 63)) = false) (c1 : (items.isEmpty || x == 1) = true) :
    Meets (Builtin.«tuple.__mul__» ⟨[.ref l, .int x u], []⟩) (fun _ R s => s.heap.get? l = some { cls := .type "tuple", dict := dd, data := .seq items n, slots := sl } ∧
      R (.ok (.ret (Value.ref l))) s) :=
  .of_wp fun prog w A R s h => by
    obtain ⟨hp, g, d, tk, os⟩ := s
    obtain ⟨hl, h⟩ := h
    have f1 := AutoSeq1.idx_int
    wp_walk using wpAny_loadPart' hl
    repeat (first
      | (refine wpAny_ite_false (decide_eq_false (by rw [c0]; exact Bool.false_ne_true)) ?_; wp_walk using wpAny_loadPart' hl)
      | (refine wpAny_ite_true (decide_eq_true c1) ?_; wp_walk using wpAny_loadPart' hl))
    exact ⟨_, rfl, h⟩
theorem tuple_mul0 (l : Addr) (items : Array Value) (n : Nat) (dd : Option Addr) (sl : Array (Option Value)) (x : Int) (u : Tok) (c0 : (decide (x < -(2 ^ 63)) || decide (x ≥ 2 ^ 63)) = false) (c1 : (items.isEmpty || x == 1) = false) (c2 : (decide (x ≤ 0) || items.isEmpty) = true) :
    Meets (Builtin.«tuple.__mul__» ⟨[.ref l, .int x u], []⟩) (fun _ R s => s.heap.get? l = some { cls := .type "tuple", dict := dd, data := .seq items n, slots := sl } ∧
      R (.ok (.ret (Value.ref s.heap.objs.size))) { s with heap := s.heap.push { cls := Value.type "tuple", data := Data.seq #[] }, toks := s.toks }) :=
  .of_wp fun prog w A R s h => by
    obtain ⟨hp, g, d, tk, os⟩ := s
    obtain ⟨hl, h⟩ := h
    have f1 := AutoSeq1.idx_int
    wp_walk using wpAny_loadPart' hl
    repeat (first
      | (refine wpAny_ite_false (decide_eq_false (by rw [c0]; exact Bool.false_ne_true)) ?_; wp_walk using wpAny_loadPart' hl)
      | (refine wpAny_ite_false (decide_eq_false (by rw [c1]; exact Bool.false_ne_true)) ?_; wp_walk using wpAny_loadPart' hl)
      | (refine wpAny_ite_true (decide_eq_true c2) ?_; wp_walk using wpAny_loadPart' hl))
    exact ⟨_, rfl, h⟩
/-- t * k -/
def rRepTA (K : PySem.W.Frag) : R2 := fun x y H Q => ∃ l k xs, x = .ref l ∧ y = .int k ∧ SqT K H l xs ∧ xs.length ≤ sizeLine ∧ k ≤ 1000000 ∧ -1000000 ≤ k ∧ xs.length * k.toNat ≤ sizeLine ∧ ((xs = [] ∨ k = 1) → Q (.ref l) H) ∧ (¬ (xs = [] ∨ k = 1) → ∀ p, H p = none → Q (.ref p) (upd H p (.tup (List.replicate k.toNat xs).flatten)))
section
variable {X : Cx}
theorem op_repTA : OpR X (binaryOp .Mult) (rRepTA X.K) := by
  intro pins s σ H x y v u Q I rx ry h
  obtain ⟨l, k, xs, rfl, rfl, hT, hz, h1, h1', hm0, q1, q2⟩ := h
  cases rx
  obtain ⟨t, rfl⟩ := ry
  obtain ⟨its, r, ⟨⟨cls, dd, data, sl⟩, ho, hc, n, hd⟩, hs⟩ := I.tuple hT
  simp only at hc hd
  subst hc hd
  have hle : its.length = xs.length := r.length.symm
  have c0 : (decide (k < -(2 ^ 63)) || decide (k ≥ 2 ^ 63)) = false := by
    rw [decide_eq_false (by omega), decide_eq_false (by omega)] <;> rfl
  by_cases z : xs = [] ∨ k = 1
  · have c1 : (its.toArray.isEmpty || k == 1) = true := by
      rcases z with z | z
      · have : its = [] := by
          rw [z] at hle
          exact List.eq_nil_of_length_eq_zero hle
        subst this
        rfl
      · subst z
        cases its <;> rfl
    refine wpAny_binaryOp_repeat_ref (T := "tuple") (U := "int") (by decide) ⟨_, ho, rfl⟩ (fun s' => typeIs_int s' k t) noFill_tuple_mul F.fills_int_mul F.slot_int_rmul repeat_tuple F.slot_int_index.lookup
      (call_meets F.slot_int_rmul (typeIs_int s k t) F.entry_int_rmul (F.args_int_rmul_2 _ _) (int_rmul_tuple k t l its.toArray n dd sl)
        ⟨ho, rfl, ⟨_, ho, rfl⟩, call_meets F.slot_tuple_mul ⟨_, ho, rfl⟩ F.entry_tuple_mul (F.args_tuple_mul_2 _ _) (tuple_mul1 l its.toArray n dd sl k t c0 c1) ⟨ho, ?_⟩⟩)
    exact ⟨.ref l, H, I, rfl, q1 z⟩
  · have hn : its ≠ [] := fun e => z (.inl (by
      rw [e] at hle
      exact List.eq_nil_of_length_eq_zero hle.symm))
    have hi : its.toArray.isEmpty = false := by
      cases its with
      | nil => exact absurd rfl hn
      | cons a b => rfl
    have c1 : (its.toArray.isEmpty || k == 1) = false := by
      rw [hi, Bool.false_or]
      exact beq_eq_false_iff_ne.mpr fun e => z (.inr e)
    by_cases k0 : k ≤ 0
    · have c2 : (decide (k ≤ 0) || its.toArray.isEmpty) = true := by rw [decide_eq_true k0]; rfl
      refine wpAny_binaryOp_repeat_ref (T := "tuple") (U := "int") (by decide) ⟨_, ho, rfl⟩ (fun s' => typeIs_int s' k t) noFill_tuple_mul F.fills_int_mul F.slot_int_rmul repeat_tuple F.slot_int_index.lookup
        (call_meets F.slot_int_rmul (typeIs_int s k t) F.entry_int_rmul (F.args_int_rmul_2 _ _) (int_rmul_tuple k t l its.toArray n dd sl)
          ⟨ho, rfl, ⟨_, ho, rfl⟩, call_meets F.slot_tuple_mul ⟨_, ho, rfl⟩ F.entry_tuple_mul (F.args_tuple_mul_2 _ _) (tuple_mul0 l its.toArray n dd sl k t c0 c1 c2) ⟨ho, ?_⟩⟩)
      have e0 : (List.replicate k.toNat xs).flatten = [] := by rw [show k.toNat = 0 by omega]; rfl
      have q2 := q2 z
      rw [e0] at q2
      refine ⟨.ref s.heap.objs.size, _, I.laid (t' := s.toks) (o := .tup []) (fun b ob q => Heap.get?_push_of_some _ q) (Nat.le_refl _) ?_, rfl, q2 _ (I.hok.fresh (Nat.le_refl _))⟩
      exact ⟨Nat.zero_le _, [], .nil, IsTup.new _ _⟩
    · have hsz0 : its.toArray.size = xs.length := by rw [List.size_toArray, hle]
      have hmI : ((its.toArray.size : Nat) : Int) * k ≤ (sizeLine : Int) := by
        rw [hsz0]
        have : ((xs.length : Nat) : Int) * k = ((xs.length * k.toNat : Nat) : Int) := by
          rw [Int.natCast_mul, Int.toNat_of_nonneg (by omega)]
        omega
      have flen : (List.replicate k.toNat its).flatten.length ≤ sizeLine := by
        rw [PyProof.Rows.lm_len_rep_flat, hle, Nat.mul_comm]
        exact hm0
      have c2 : (decide (k ≤ 0) || its.toArray.isEmpty) = false := by
        rw [hi, Bool.or_false]
        exact decide_eq_false (by omega)
      have c4 : Builtin.Tuple.tupleTooMany (((its.toArray.size : Nat) : Int) * k) = false := by
        unfold Builtin.Tuple.tupleTooMany
        exact decide_eq_false (by omega)
      have sl_ : (sizeLine : Int) ≤ 100000000 := by rw [sizeLine_eq]; decide
      refine wpAny_binaryOp_repeat_ref (T := "tuple") (U := "int") (by decide) ⟨_, ho, rfl⟩ (fun s' => typeIs_int s' k t) noFill_tuple_mul F.fills_int_mul F.slot_int_rmul repeat_tuple F.slot_int_index.lookup
        (call_meets F.slot_int_rmul (typeIs_int s k t) F.entry_int_rmul (F.args_int_rmul_2 _ _) (int_rmul_tuple k t l its.toArray n dd sl)
          ⟨ho, rfl, ⟨_, ho, rfl⟩, call_meets F.slot_tuple_mul ⟨_, ho, rfl⟩ F.entry_tuple_mul (F.args_tuple_mul_2 _ _) (tuple_mulW l its.toArray n dd sl k t c0 c1 c2 (by omega) c4 (by rw [size_rep, List.size_toArray]; exact flen)) ⟨ho, ?_⟩⟩)
      rw [size_rep]
      refine ⟨.ref s.heap.objs.size, _, I.laid (t' := s.toks) (o := .tup (List.replicate k.toNat xs).flatten) (fun b ob q => Heap.get?_push_of_some _ q) (Nat.le_refl _) ?_, rfl, q2 z _ (I.hok.fresh (Nat.le_refl _))⟩
      exact ⟨by rw [PyProof.Rows.lm_len_rep_flat, Nat.mul_comm]; exact hm0, _, r.rep k.toNat, IsTup.new _ _⟩
end
end L2

/-! AwTR: a tuple, a list, turned about by [::-1]; a list times an int. -/
namespace HT
open PySem PySem.Spec PyProof.Rows
section
variable {prog : Program} {w : World} {A : Around} {E : Value → Shared → Prop} {s : Shared}
theorem adjust_rev (n : Nat) : Builtin.Slice.sliceAdjust none none (-1) (n : Int) = ((n : Int) - 1, -1) := by
  unfold Builtin.Slice.sliceAdjust
  simp
theorem places_rev (n : Nat) : Builtin.Slice.slicePlaces ((n : Int) - 1) (-1) (-1) = n := by
  unfold Builtin.Slice.slicePlaces
  have h1 : ¬ ((-1 : Int) > 0) := by decide
  simp only [h1, if_false]
  split
  · have : ((n : Int) - 1 - -1 - -1 - 1) / (- -1) = (n : Int) := by
      rw [show (- -1 : Int) = 1 by decide, Int.ediv_one] <;> omega
    first
      | (rw [this]; simp; done)
      | (simp; done)
      | (simp; omega)
  · omega
theorem sliceApplied_rev {sl : Addr} {vs : Value} {n : Nat} {Q : Int × Int × Nat → Shared → Prop} (hs : s.heap.IsSliceOf sl .none .none vs) (ps : IsPart vs (some (-1)))
    (h : Q ((n : Int) - 1, -1, n) s) : wpAny (model prog w) A (Builtin.Slice.sliceApplied (.ref sl) (pure (n : Int))) Q E s := by
  obtain ⟨os, hos, hcs, hds⟩ := id hs
  unfold Builtin.Slice.sliceApplied Builtin.Slice.sliceFields
  refine wpAny_bind (wpAny_bind (wpAny_field hos hds (x := .none) rfl (wpAny_bind (wpAny_field hos hds (x := .none) rfl (wpAny_bind (wpAny_field hos hds (x := vs) rfl (wpAny_pure ?_)))))))
  refine wpAny_bind (slicePart_ ps ?_)
  show wpAny _ _ (if ((-1 : Int) == 0) = true then _ else _) _ _ s
  rw [if_neg (by decide)]
  refine wpAny_bind (slicePart_ .none (wpAny_bind (slicePart_ .none (wpAny_bind (wpAny_pure ?_)))))
  show wpAny _ _ (match Builtin.Slice.sliceAdjust none none (-1) (n : Int) with | (lo, hi) => pure (lo, (-1 : Int), Builtin.Slice.slicePlaces lo hi (-1))) _ _ s
  rw [adjust_rev n]
  show wpAny _ _ (pure ((n : Int) - 1, (-1 : Int), Builtin.Slice.slicePlaces ((n : Int) - 1) (-1) (-1))) _ _ s
  rw [places_rev]
  exact wpAny_pure h
theorem fm_congr {α β : Type} {f g : α → Option β} : ∀ {l : List α}, (∀ a ∈ l, f a = g a) → l.filterMap f = l.filterMap g
  | [], _ => rfl
  | a :: l, h => by
    rw [List.filterMap_cons, List.filterMap_cons, h a List.mem_cons_self, fm_congr fun b hb => h b (List.mem_cons_of_mem _ hb)]
theorem pick_rev (xs : Array Value) : ((List.range xs.size).filterMap fun (m : Nat) => xs[((xs.size : Int) - 1 + (m : Int) * (-1)).toNat]?).toArray = xs.toList.reverse.toArray := by
  have h1 := PySem.W.krv_all xs
  rw [← h1, ← List.filterMap_reverse, ← PySem.W.krv_range, List.filterMap_map]
  congr 1
  refine fm_congr fun m hm => ?_
  have := List.mem_range.mp hm
  show _ = xs[xs.size - 1 - m]?
  congr 1
  omega
theorem getItem_tuple_rev {t sl : Addr} {items : Array Value} {vs : Value} {Q : Value → Shared → Prop} (ht : IsTup s.heap t items) (hs : s.heap.IsSliceOf sl .none .none vs) (ps : IsPart vs (some (-1)))
    (h : Q (.ref s.heap.objs.size) { s with heap := s.heap.push { cls := .type "tuple", data := .seq items.toList.reverse.toArray } })
    (hsz : items.size ≤ sizeLine) : wpAny (model prog w) A (getItem (.ref t) (.ref sl)) Q E s := by
  have htake : sizeOk (.seq items.toList.reverse.toArray) := by
    show items.toList.reverse.toArray.size ≤ sizeLine
    rw [List.size_toArray, List.length_reverse, Array.length_toList]
    exact hsz
  obtain ⟨os, hos, hcs, hds⟩ := id hs
  have hTs : s.TypeIs (.ref sl) "slice" := ⟨os, hos, hcs⟩
  unfold getItem
  try with_reducible refine wpAny_holding ?_
  first | refine wpAny_bind (wpAny_pure ?_) | skip
  refine wpAny_bind (wpAny_sequenceKey ht.typeIs (by decide) ?_)
  refine wpAny_bind (wpAny_callSpecial?_slot (name := Str.ofString "__getitem__") ht.typeIs PyProof.Rows.slot_tuple_getitem
    (wpAny_call_entry PyProof.Rows.slot_tuple_getitem ht.typeIs entry_tuple_getitem ?_ (args_tuple_getitem _ _)))
  show wpAny _ _ (Builtin.Tuple.tupleItemsOf (.ref t) >>= _) _ _ s
  refine wpAny_bind (tupleItemsOf_ ht ?_)
  refine wpAny_bind (wpAny_typeOf hTs ?_)
  rw [if_pos (by decide)]
  refine wpAny_bind (sliceApplied_rev hs ps ?_)
  show wpAny _ _ (if (((items.size : Int) - 1) == 0 && (-1 : Int) == 1 && items.size == items.size) = true then _ else _) _ _ s
  have hno : ¬ ((((items.size : Int) - 1) == 0 && (-1 : Int) == 1 && items.size == items.size) = true) := by
    intro q
    rw [Bool.and_eq_true, Bool.and_eq_true] at q
    have := q.1.2
    cases this
  rw [if_neg hno, pick_rev]
  first
    | exact wpAny_bind (m := Builtin.Tuple.tupleExact _) (wpAny_newObj_type (wpAny_pure ⟨_, rfl, wpAny_pure h⟩) htake)
    | exact wpAny_bind (m := Builtin.Tuple.tupleExact _) (wpAny_newObj_type (wpAny_bind (wpAny_pure (wpAny_pure ⟨_, rfl, wpAny_pure h⟩))) htake)
    | exact wpAny_bind (wpAny_bind (m := Builtin.Tuple.tupleExact _) (wpAny_newObj_type (wpAny_pure (wpAny_pure ⟨_, rfl, wpAny_pure h⟩)) htake))
    | exact wpAny_bind (wpAny_bind (m := Builtin.Tuple.tupleExact _) (wpAny_newObj_type (wpAny_pure ⟨_, rfl, wpAny_pure h⟩) htake))
end
end HT
namespace L2
open PySem PySem.Spec PyProof.Rows
section
variable {X : Cx}
/-- x[::-1] of a list or a tuple -/
def tRevA (K : PySem.W.Frag) (te : TE) : TE := fun σ H Q => te σ H fun x H1 => ∃ a xs, x = .ref a ∧ ((SqL K H1 a xs ∧ ∀ p, H1 p = none → Q (.ref p) (upd H1 p (.lst xs.reverse))) ∨ (SqT K H1 a xs ∧ ∀ p, H1 p = none → Q (.ref p) (upd H1 p (.tup xs.reverse))))
theorem pe_revA {e : Expr} {te : TE} {k : Nat} {p1 p2 p3 pos : Pos} (he : PE X e te) : PE X (.Subscript e (.Slice none none (some (.UnaryOp .USub (.Constant (.int 1) k p1) p2)) p3) pos) (tRevA X.K te) := by
  refine ⟨fun pins s σ H Q I h => ?_⟩
  refine Subscript_ (thn (he.run pins s σ H _ I h) fun v s1 ⟨x, H1, I1, r1, q1⟩ => ?_)
  obtain ⟨a, xs, ex, hq⟩ := q1
  subst ex
  cases r1
  have hst : PO X (some (.UnaryOp .USub (.Constant (.int 1) k p1) p2)) (tPart (tUn (rU fun i => .int (-i)) (tC (.int 1)))) := po_some (pe_un un_neg pe_int)
  refine wpAny_Slice (thn (po_none.run pins s1 σ H1 (fun o H2 => o = none ∧ H2 = H1) I1 ⟨rfl, rfl⟩) fun vl s2 ⟨l, H2, I2, pl, el, e2⟩ => ?_)
  subst el e2
  refine thn (po_none.run pins s2 σ H2 (fun o H3 => o = none ∧ H3 = H2) I2 ⟨rfl, rfl⟩) fun vu s3 ⟨u, H3, I3, pu, eu, e3⟩ => ?_
  subst eu e3
  refine thn (hst.run pins s3 σ H3 (fun o H4 => o = some (-1) ∧ H4 = H3) I3 ⟨1, rfl, -1, rfl, rfl, rfl⟩) fun vs s4 ⟨o, H4, I4, ps, eo, e4⟩ => ?_
  subst eo e4
  have I5 : Inv X pins σ H4 { s4 with heap := s4.heap.push { cls := .type "slice", data := .fields #[vl, vu, vs] } } := I4.kept (t' := s4.toks) fun b ob q => Heap.get?_push_of_some _ q
  cases pl
  cases pu
  rcases hq with ⟨hx, q⟩ | ⟨hx, q⟩
  · obtain ⟨its, r, ht, hz⟩ := I5.list hx
    have hlen := r.length
    show wpAny (model X.prog X.w) X.A (subscriptTail e (.Slice none none (some (.UnaryOp .USub (.Constant (.int 1) k p1) p2)) p3) (.ref a) (.ref s4.heap.objs.size)) (EP X pins σ Q) X.xe { s4 with heap := s4.heap.push { cls := .type "slice", data := .fields #[.none, .none, vs] } }
    refine tail_any (ops := [.ref a, .ref s4.heap.objs.size]) ht.isList.typeIs (PySem.slot_list_getitem.lookup) ?_ (by with_unfolding_all rfl)
    refine wpAny_getItem_list_slice ht.isList (Heap.IsSliceOf.new _ .none .none vs) .none .none ps (by decide) ?_ (by rw [List.size_toArray]; omega)
    rw [PySem.W.krv_pick]
    refine ⟨.ref _, _, I5.laid (t' := s4.toks) (o := .lst xs.reverse) (fun b ob q => Heap.get?_push_of_some _ q) (Nat.le_refl _) ?_, rfl, q _ (I5.hok.fresh (Nat.le_refl _))⟩
    exact ⟨by rw [List.length_reverse]; exact hz, _, 0, r.reverse, Heap.get?_push_size _ rfl⟩
  · obtain ⟨its, r, ht, hz⟩ := I5.tuple hx
    have hlen := r.length
    show wpAny (model X.prog X.w) X.A (subscriptTail e (.Slice none none (some (.UnaryOp .USub (.Constant (.int 1) k p1) p2)) p3) (.ref a) (.ref s4.heap.objs.size)) (EP X pins σ Q) X.xe { s4 with heap := s4.heap.push { cls := .type "slice", data := .fields #[.none, .none, vs] } }
    refine tail_any (ops := [.ref a, .ref s4.heap.objs.size]) ht.typeIs (PyProof.Rows.slot_tuple_getitem.lookup) ?_ (by with_unfolding_all rfl)
    refine HT.getItem_tuple_rev ht (Heap.IsSliceOf.new _ .none .none vs) ps ?_ (by rw [List.size_toArray]; omega)
    refine ⟨.ref _, _, I5.laid (t' := s4.toks) (o := .tup xs.reverse) (fun b ob q => Heap.get?_push_of_some _ q) (Nat.le_refl _) ?_, rfl, q _ (I5.hok.fresh (Nat.le_refl _))⟩
    exact ⟨by rw [List.length_reverse]; exact hz, _, r.reverse, IsTup.new _ _⟩
end
end L2

/-! AwSem: a small language of values, for pure defs: its terms and what they reckon (no heap in sight). -/
namespace AW
open PySem

abbrev D := PyData
/-- the names of the def whose body is spoken of -/
class Nm where
  n : Nat → Str

/-- a reckoning: a value, an own error of the c-th class, or nothing known -/
inductive R (α : Type) where
  | ok (a : α) | ex (c : Nat) | no
namespace R
def bind {α β : Type} : R α → (α → R β) → R β
  | .ok a, f => f a
  | .ex c, _ => .ex c
  | .no, _ => .no
/-- without errors -/
def nox {α : Type} : R α → R α
  | .ok a => .ok a
  | _ => .no
@[simp] theorem bind_ok {α β : Type} (a : α) (f : α → R β) : (R.ok a).bind f = f a := rfl
@[simp] theorem bind_ex {α β : Type} (c : Nat) (f : α → R β) : (R.ex c : R α).bind f = .ex c := rfl
@[simp] theorem bind_no {α β : Type} (f : α → R β) : (R.no : R α).bind f = .no := rfl
@[simp] theorem nox_ok {α : Type} (a : α) : (R.ok a).nox = .ok a := rfl
theorem bind_assoc {α β γ : Type} (r : R α) (f : α → R β) (g : β → R γ) : (r.bind f).bind g = r.bind fun a => (f a).bind g := by cases r <;> rfl
theorem of_bind {α β : Type} {r : R α} {f : α → R β} {b : β} (h : r.bind f = .ok b) : ∃ a, r = .ok a ∧ f a = .ok b := by
  cases r with
  | ok a => exact ⟨a, rfl, h⟩
  | ex c => cases h
  | no => cases h
theorem of_nox {α : Type} {r : R α} {a : α} (h : r.nox = .ok a) : r = .ok a := by
  cases r with
  | ok b => exact h
  | ex c => cases h
  | no => cases h
end R

/-- what a def's name holds: nothing known; a value; a list of its own; a list that is read alone; a caught error of the c-th class -/
inductive Sl where
  | un | va (d : D) | ow (ds : List D) | rd (ds : List D) | er (c : Nat)
abbrev En := List Sl

mutual
inductive Tg where
  | nm (i : Nat) | tp (ts : Tgs)
inductive Tgs where
  | nil | cons (t : Tg) (r : Tgs)
end
inductive O1 where
  | neg | abs | len | list | tuple | all | strI | intB
inductive O2 where
  | add | sub | mul | fdiv | mod | pow | eq | ne | lt | le | gt | ge | is_ | isn | idx | inn | nin | max2 | min2
inductive Ty where
  | bi (n : String) | ow (c : Nat)
/-- a class to ask a caught error about: an own one, the one above them, ValueError -/
inductive Te where
  | ow (c : Nat) | top | ve
def erTy (c : Nat) : Te → Bool
  | .ow k => c == k
  | _ => true

mutual
inductive E where
  | var (i : Nat) | peek (i : Nat) | con (d : D) | glb (x : Nat)
  | tup (es : Es) | lst (es : Es) | rep (es : Es) (n : E)
  | op1 (o : O1) (a : E) | op2 (o : O2) (a b : E)
  | chn (o p : O2) (a b c : E)
  | and (a b : E) | or (a b : E) | not (a : E) | ife (t a b : E)
  | slc (a : E) (lo hi : Eo)
  | revs (a : E) | repE (a n : E)
  | call (j : Nat) (es : Es) (m : Nat)
  | callv (j : Nat) (es : Es) (m : Nat)
  | isi (a : E) (ts : List Ty)
  | erv (i : Nat) | isE (i : Nat) (ks : List Nat) (ts : List Te) | isN (i : Nat) (neg : Bool)
  | cmp (elt : E) (tg : Tg) (it : It) (ifs : Eo) (own : List (Str × Nat))
inductive Es where
  | nil | cons (e : E) (r : Es)
inductive Eo where
  | none | some (e : E)
inductive It where
  | seq (a : E) | rng1 (a : E) | rng2 (a b : E) | rng3 (a b c : E) | rev (a : E) | revr (a : E) | enum (a : E) | zip (a b : E)
end

mutual
inductive S where
  | pass
  | asg (tg : Tg) (e : E)
  | asgO (i : Nat) (e : E)
  | asgC (i : Nat) (own : Bool) (e : E)
  | par (is : List Nat) (es : Es)
  | setI (i : Nat) (k e : E)
  | aug (i : Nat) (o : O2) (e : E)
  | app (i : Nat) (e : E)
  | pop (i : Nat)
  | popA (tg : Tg) (i : Nat)
  | rvs (i : Nat)
  | frz (i : Nat)
  | ite (t : E) (a b : Ss)
  | whl (t : E) (b : Ss)
  | for_ (tg : Tg) (it : It) (b : Ss)
  | ret (e : E) | retO (i : Nat) | retN
  | brk | cnt
  | rai (c : Nat)
  | exp (e : E)
  | tryA (h i : Nat) (ks : List Nat) (b : Ss)
  | dead
inductive Ss where
  | nil | cons (s : S) (r : Ss)
end

/-- a statement's end -/
inductive Fl where
  | nx (en : En) | bk (en : En) | ct (en : En) | rt (d : D) (f : Bool) | ex (c : Nat) (en : En)
/-- an expression's error is the statement's -/
def lf {α : Type} (en : En) : R α → (α → R Fl) → R Fl
  | .ok a, f => f a
  | .ex c, _ => .ok (.ex c en)
  | .no, _ => .no
@[simp] theorem lf_ok {α : Type} (en : En) (a : α) (f : α → R Fl) : lf en (.ok a) f = f a := rfl
@[simp] theorem lf_no {α : Type} (en : En) (f : α → R Fl) : lf en .no f = .no := rfl
@[simp] theorem lf_ex {α : Type} (en : En) (c : Nat) (f : α → R Fl) : lf en (.ex c) f = .ok (.ex c en) := rfl

/-! ### values -/
def line : Nat := 16777216
def tru : D → Bool
  | .none => false
  | .bool b => b
  | .int i => i != 0
  | .str x => (x.length : Int) != 0
  | .list xs => !xs.isEmpty
  | .tuple xs => !xs.isEmpty
  | .dict kvs => !kvs.isEmpty
def truR : D → R Bool
  | .dict _ => .no
  | .str x => if x.length ≤ line then .ok (tru (.str x)) else .no
  | d => .ok (tru d)
/-- a product's size -/
def mulOk (i j : Int) : Bool := decide (i.natAbs < 2 ^ 64 ∨ j.natAbs < 2 ^ 64 ∨ i.natAbs.log2 + j.natAbs.log2 < 100000000)
def cutL (xs : List D) (lo hi : Option Int) : List D := (xs.drop (HT.sIx xs.length 0 lo)).take (HT.sIx xs.length xs.length hi - HT.sIx xs.length 0 lo)
def allB : List D → R Bool
  | [] => .ok true
  | .bool b :: r => (allB r).bind fun c => .ok (b && c)
  | _ => .no
def v1 (d : D) : R (D × Bool) := .ok (d, false)
def sem1 : O1 → D → R (D × Bool)
  | .neg, .int i => v1 (.int (-i))
  | .abs, .int i => v1 (.int (if i < 0 then -i else i))
  | .len, .list xs => v1 (.int xs.length)
  | .len, .tuple xs => v1 (.int xs.length)
  | .len, .str x => if x.length ≤ line then v1 (.int x.length) else .no
  | .list, .list xs => .ok (.list xs, true)
  | .list, .tuple xs => .ok (.list xs, true)
  | .tuple, .list xs => v1 (.tuple xs)
  | .tuple, .tuple xs => v1 (.tuple xs)
  | .all, .list xs => (allB xs).bind fun b => v1 (.bool b)
  | .intB, .bool b => v1 (.int (if b then 1 else 0))
  | .intB, .int i => v1 (.int i)
  | .strI, .int i => if i.natAbs.log2 < 1920 then v1 (.str (toString i)) else .no
  | _, _ => .no
def isD : D → D → R Bool
  | .none, .none => .ok true
  | _, .none => .ok false
  | .bool a, .bool b => .ok (a == b)
  | _, _ => .no
def cmpI (f : Int → Int → Bool) : D → D → R (D × Bool)
  | .int i, .int j => v1 (.bool (f i j))
  | _, _ => .no
def atD (xs : List D) (i : Int) : R (D × Bool) := match L2.atI xs i with
  | some d => v1 d
  | none => .no
def sem2 : O2 → D → D → R (D × Bool)
  | .add, .int i, .int j => v1 (.int (i + j))
  | .add, .str x, .str y => if x.length + y.length ≤ line then v1 (.str (x ++ y)) else .no
  | .add, .list xs, .list ys => if xs.length + ys.length ≤ line then .ok (.list (xs ++ ys), true) else .no
  | .add, .tuple xs, .tuple ys => if xs.length + ys.length ≤ line then v1 (.tuple (xs ++ ys)) else .no
  | .sub, .int i, .int j => v1 (.int (i - j))
  | .mul, .int i, .int j => if mulOk i j then v1 (.int (i * j)) else .no
  | .mul, .tuple xs, .int n => if -1000000 ≤ n ∧ n ≤ 1000000 ∧ xs.length * n.toNat ≤ line then v1 (.tuple (List.replicate n.toNat xs).flatten) else .no
  | .fdiv, .int i, .int j => if j = 0 then .no else v1 (.int (i.fdiv j))
  | .mod, .int i, .int j => if j = 0 then .no else v1 (.int (i.fmod j))
  | .pow, .int i, .int j => if 0 ≤ j ∧ j ≤ 1000000 ∧ i.natAbs < 2 ^ 64 then v1 (.int (i ^ j.toNat)) else .no
  | .eq, a, b => if SeqAt.shaped a = true ∧ SeqAt.shaped b = true then v1 (.bool (a.eqv b)) else .no
  | .ne, a, b => if SeqAt.shaped a = true ∧ SeqAt.shaped b = true then v1 (.bool (!a.eqv b)) else .no
  | .lt, a, b => cmpI (fun i j => decide (i < j)) a b
  | .le, a, b => cmpI (fun i j => decide (i ≤ j)) a b
  | .gt, a, b => cmpI (fun i j => decide (j < i)) a b
  | .ge, a, b => cmpI (fun i j => decide (j ≤ i)) a b
  | .is_, a, b => (isD a b).bind fun c => v1 (.bool c)
  | .isn, a, b => (isD a b).bind fun c => v1 (.bool (!c))
  | .idx, .list xs, .int i => atD xs i
  | .idx, .tuple xs, .int i => atD xs i
  | .inn, d, .list xs => if SeqAt.shaped d = true ∧ SeqAt.shaped (.list xs) = true then v1 (.bool (xs.any fun z => z.eqv d)) else .no
  | .nin, d, .list xs => if SeqAt.shaped d = true ∧ SeqAt.shaped (.list xs) = true then v1 (.bool (!xs.any fun z => z.eqv d)) else .no
  | .max2, .int i, .int j => v1 (.int (if j > i then j else i))
  | .min2, .int i, .int j => v1 (.int (if j < i then j else i))
  | _, _, _ => .no
def semSl : D → Option Int → Option Int → R (D × Bool)
  | .list xs, lo, hi => .ok (.list (cutL xs lo hi), true)
  | .tuple xs, lo, hi => v1 (.tuple (cutL xs lo hi))
  | _, _, _ => .no
def semRev : D → R (D × Bool)
  | .list xs => .ok (.list xs.reverse, true)
  | .tuple xs => v1 (.tuple xs.reverse)
  | _ => .no
/-- a new list so often -/
def semRep : D × Bool → Int → R (D × Bool)
  | (.list ds, true), k => if -1000000 ≤ k ∧ k ≤ 1000000 ∧ ds.length * k.toNat ≤ line then .ok (.list (List.replicate k.toNat ds).flatten, true) else .no
  | _, _ => .no
/-- whether a value's class is under one of these -/
def isTy : D → Ty → Bool
  | .none, .bi n => n == "NoneType"
  | .bool _, .bi n => n == "bool" || n == "int"
  | .int _, .bi n => n == "int"
  | .str _, .bi n => n == "str"
  | .list _, .bi n => n == "list"
  | .tuple _, .bi n => n == "tuple"
  | .dict _, .bi n => n == "dict"
  | _, .ow _ => false

/-! ### names -/
def val (en : En) (i : Nat) : R D := match en[i]? with
  | some (.va d) => .ok d
  | _ => .no
/-- a value that is read -/
def rd1 (x : E) (en : En) (r : R (D × Bool)) : R D := match x with
  | .peek i => (match en[i]? with
    | some (.ow ds) => .ok (.list ds)
    | some (.rd ds) => .ok (.list ds)
    | _ => .no)
  | _ => r.bind fun p => .ok p.1
/-- an argument -/
def arg1 (x : E) (en : En) (r : R (D × Bool)) : R Sl := match x with
  | .erv i => (match en[i]? with
    | some (.er c) => .ok (.er c)
    | some (.va .none) => .ok (.va .none)
    | _ => .no)
  | .peek i => (match en[i]? with
    | some (.ow ds) => .ok (.rd ds)
    | some (.rd ds) => .ok (.rd ds)
    | _ => .no)
  | _ => r.bind fun p => .ok (.va p.1)
mutual
/-- without a list anywhere in it -/
def noL : D → Bool
  | .list _ => false
  | .dict _ => false
  | .tuple xs => noLs xs
  | _ => true
def noLs : List D → Bool
  | [] => true
  | d :: ds => noL d && noLs ds
end
/-- what is lent, as a value -/
def asV : List Sl → List Sl
  | [] => []
  | .rd ds :: ss => .va (.list ds) :: asV ss
  | s :: ss => s :: asV ss
mutual
def bindT : Tg → D → En → R En
  | .nm i, d, en => .ok (en.set i (.va d))
  | .tp ts, d, en => (match d with
    | .tuple ds => bindTs ts ds en
    | .list ds => bindTs ts ds en
    | _ => .no)
def bindTs : Tgs → List D → En → R En
  | .nil, [], en => .ok en
  | .cons t r, d :: ds, en => (bindT t d en).bind fun en' => bindTs r ds en'
  | _, _, _ => .no
end
def wipe (en : En) : List Nat → En
  | [] => en
  | v :: vs => (wipe en vs).set v .un

/-! ### what is walked -/
def intR : D → R Int
  | .int i => .ok i
  | _ => .no
def seqR : D → R (List D)
  | .list xs => .ok xs
  | .tuple xs => .ok xs
  | _ => .no
def listR : D → R (List D)
  | .list xs => .ok xs
  | _ => .no
def small (i : Int) : Bool := Nat.ble i.natAbs.log2 61
def rngD (lo : Int) (n : Nat) : List D := (List.range n).map fun k => .int (lo + (k : Nat))
def rngR (i j : Int) : R (List D) := if small i && small j then .ok (rngD i (j - i).toNat) else .no
def rngD3 (lo c : Int) (n : Nat) : List D := (List.range n).map fun k => .int (lo + (k : Nat) * c)
def rngR3 (i j c : Int) : R (List D) := if c ≠ 0 ∧ c.natAbs < 1073741824 ∧ Builtin.Range.small i j c = true ∧ 0 ≤ Builtin.Range.rangeSize i j c then .ok (rngD3 i c (Builtin.Range.rangeSize i j c).toNat) else .no
def enumD (xs : List D) : List D := (List.range xs.length).zipWith (fun k x => .tuple [.int (k : Nat), x]) xs
def zipD (xs ys : List D) : List D := List.zipWith (fun x y => .tuple [x, y]) xs ys
def zipR : D → D → R (List D)
  | .list xs, .list ys => .ok (zipD xs ys)
  | .tuple xs, .tuple ys => .ok (zipD xs ys)
  | _, _ => .no
def consO {α : Type} : Option α → List α → List α
  | some y, ys => y :: ys
  | none, ys => ys
/-- a comprehension's turns -/
def compL (f : D → R (Option D)) : List D → R (List D)
  | [] => .ok []
  | d :: ds => (f d).bind fun o => (compL f ds).bind fun ys => .ok (consO o ys)

/-! ### expressions: a value, and whether it is a new list -/
section
variable (G : Nat → D) (c : Nat → List Sl → R (D × Bool)) (dfl : Nat → Nat → List D)
mutual
def evF : E → En → R (D × Bool)
  | .var i, en => (val en i).bind v1
  | .peek _, _ => .no
  | .con d, _ => v1 d
  | .glb x, _ => v1 (G x)
  | .tup es, en => (evs es en).bind fun ds => if ds.length ≤ line then v1 (.tuple ds) else .no
  | .lst es, en => (evs es en).bind fun ds => if ds.length ≤ line then .ok (.list ds, true) else .no
  | .rep es n, en => (evs es en).bind fun ds => if ds.length ≤ line then (evF n en).bind fun x => (intR x.1).bind fun k => if -1000000 ≤ k ∧ k ≤ 1000000 ∧ ds.length * k.toNat ≤ line then .ok (.list (List.replicate k.toNat ds).flatten, true) else .no else .no
  | .op1 o a, en => (rd1 a en (evF a en)).bind (sem1 o)
  | .op2 o a b, en => (rd1 a en (evF a en)).bind fun x => (rd1 b en (evF b en)).bind fun y => sem2 o x y
  | .chn o p a b z, en => (rd1 a en (evF a en)).bind fun x => (rd1 b en (evF b en)).bind fun y => (sem2 o x y).bind fun r => (match r.1 with
    | .bool true => (rd1 z en (evF z en)).bind fun w => sem2 p y w
    | .bool false => v1 (.bool false)
    | _ => .no)
  | .and a b, en => (evF a en).bind fun x => (truR x.1).bind fun t => if t then evF b en else v1 x.1
  | .or a b, en => (evF a en).bind fun x => (truR x.1).bind fun t => if t then .ok x else evF b en
  | .not a, en => (rd1 a en (evF a en)).bind fun x => (truR x).bind fun t => v1 (.bool (!t))
  | .ife t a b, en => (rd1 t en (evF t en)).bind fun x => (truR x).bind fun t => if t then evF a en else evF b en
  | .slc a lo hi, en => (rd1 a en (evF a en)).bind fun x => (evO lo en).bind fun l => (evO hi en).bind fun h => semSl x l h
  | .revs a, en => (rd1 a en (evF a en)).bind semRev
  | .repE a n, en => (evF a en).bind fun x => (evF n en).bind fun y => (intR y.1).bind fun k => semRep x k
  | .call j es m, en => (evAs es en).bind fun ss => c j (ss ++ (dfl j m).map .va)
  | .callv j es m, en => (evAs es en).bind fun ss => (c j (asV ss ++ (dfl j m).map .va)).bind fun p => if p.2 = false ∧ noL p.1 = true then .ok p else .no
  | .isi a ts, en => (rd1 a en (evF a en)).bind fun x => v1 (.bool (ts.any fun t => isTy x t))
  | .erv _, _ => .no
  | .isE i ks ts, en => (match en[i]? with
    | some (.va .none) => v1 (.bool false)
    | some (.er c) => if ks.contains c then v1 (.bool (ts.any (erTy c))) else .no
    | _ => .no)
  | .isN i g, en => (match en[i]? with
    | some (.va d) => (isD d .none).bind fun b => v1 (.bool (b != g))
    | some (.er _) => v1 (.bool g)
    | _ => .no)
  | .cmp elt tg it ifs own, en => (evI it en).bind fun ds => (compL (fun d => (bindT tg d (wipe en (own.map (·.2)))).bind fun en' => (evB ifs en').nox.bind fun b =>
      if b then (evF elt en').nox.bind fun y => .ok (some y.1) else .ok none) ds).bind fun ys => if ds.length ≤ line then .ok (.list ys, true) else .no
def evs : Es → En → R (List D)
  | .nil, _ => .ok []
  | .cons e r, en => (evF e en).bind fun x => (evs r en).bind fun xs => .ok (x.1 :: xs)
def evAs : Es → En → R (List Sl)
  | .nil, _ => .ok []
  | .cons e r, en => (arg1 e en (evF e en)).bind fun x => (evAs r en).bind fun xs => .ok (x :: xs)
def evO : Eo → En → R (Option Int)
  | .none, _ => .ok none
  | .some e, en => (evF e en).bind fun x => (intR x.1).bind fun i => .ok (some i)
def evB : Eo → En → R Bool
  | .none, _ => .ok true
  | .some e, en => (rd1 e en (evF e en)).bind fun x => truR x
def evI : It → En → R (List D)
  | .seq a, en => (evF a en).bind fun x => seqR x.1
  | .rng1 a, en => (evF a en).bind fun x => (intR x.1).bind fun j => rngR 0 j
  | .rng2 a b, en => (evF a en).bind fun x => (evF b en).bind fun y => (intR x.1).bind fun i => (intR y.1).bind fun j => rngR i j
  | .rng3 a b z, en => (evF a en).bind fun x => (evF b en).bind fun y => (evF z en).bind fun w => (intR x.1).bind fun i => (intR y.1).bind fun j => (intR w.1).bind fun k => rngR3 i j k
  | .rev a, en => (evF a en).bind fun x => (seqR x.1).bind fun xs => .ok xs.reverse
  | .revr a, en => (evF a en).bind fun x => (intR x.1).bind fun j => (rngR 0 j).bind fun xs => .ok xs.reverse
  | .enum a, en => (evF a en).bind fun x => (seqR x.1).bind fun xs => .ok (enumD xs)
  | .zip a b, en => (evF a en).bind fun x => (evF b en).bind fun y => zipR x.1 y.1
end
def evT (x : E) (en : En) : R Bool := (rd1 x en (evF G c dfl x en)).bind truR

/-! ### statements -/
def setD (xs : List D) (i : Int) (d : D) : R (List D) := match L2.ixN xs.length i with
  | some j => .ok (xs.set j d)
  | none => .no
/-- a list of the def's own, lengthened by a new list -/
def extL : O2 → List D → D × Bool → R (List D)
  | .add, ds, (.list xs, true) => if ds.length + xs.length ≤ line then .ok (ds ++ xs) else .no
  | _, _, _ => .no
/-- behind a loop's turn -/
def nextFl (k : En → R Fl) : Fl → R Fl
  | .nx e => k e
  | .ct e => k e
  | .bk e => .ok (.nx e)
  | .rt d f => .ok (.rt d f)
  | .ex c e => .ok (.ex c e)
/-- a loop by turns -/
def whileN (t : En → R Bool) (b : En → R Fl) : Nat → En → R Fl
  | 0, _ => .no
  | n + 1, en => lf en (t en) fun k => if k then (b en).bind (nextFl (whileN t b n)) else .ok (.nx en)
open Classical in
noncomputable def whileR (t : En → R Bool) (b : En → R Fl) (en : En) : R Fl :=
  if h : ∃ n, whileN t b n en ≠ .no then whileN t b h.choose en else .no
def forR (g : D → En → R En) (b : En → R Fl) : List D → En → R Fl
  | [], en => .ok (.nx en)
  | d :: ds, en => (g d en).bind fun e1 => (b e1).bind (nextFl (forR g b ds))
mutual
noncomputable def evS : S → En → R Fl
  | .pass, en => .ok (.nx en)
  | .asg tg e, en => lf en (evF G c dfl e en) fun x => (bindT tg x.1 en).bind fun en' => .ok (.nx en')
  | .asgO i e, en => lf en (evF G c dfl e en) fun x => (match x with
    | (.list ds, true) => .ok (.nx (en.set i (.ow ds)))
    | _ => .no)
  | .asgC i o e, en => lf en (evF G c dfl e en) fun x => (match x with
    | (.list ds, true) => .ok (.nx (en.set i (if o then .ow ds else .va (.list ds))))
    | _ => .no)
  | .par is es, en => lf en (evs G c dfl es en) fun ds => if ds.length = is.length then .ok (.nx ((is.zip ds).foldl (fun e p => e.set p.1 (.va p.2)) en)) else .no
  | .setI i k e, en => lf en (evF G c dfl e en) fun x => (match en[i]? with
    | some (.ow ds) => lf en (evF G c dfl k en) fun kv => (intR kv.1).bind fun j => (setD ds j x.1).bind fun ds' => .ok (.nx (en.set i (.ow ds')))
    | _ => .no)
  | .aug i o e, en => (match en[i]? with
    | some (.va (.int d)) => lf en (evF G c dfl e en) fun x => (sem2 o (.int d) x.1).bind fun z => .ok (.nx (en.set i (.va z.1)))
    | some (.va (.str d)) => lf en (evF G c dfl e en) fun x => (sem2 o (.str d) x.1).bind fun z => .ok (.nx (en.set i (.va z.1)))
    | some (.ow ds) => lf en (evF G c dfl e en) fun x => (extL o ds x).bind fun ds' => .ok (.nx (en.set i (.ow ds')))
    | _ => .no)
  | .app i e, en => (match en[i]? with
    | some (.ow ds) => lf en (evF G c dfl e en) fun x => if ds.length < line then .ok (.nx (en.set i (.ow (ds ++ [x.1])))) else .no
    | _ => .no)
  | .pop i, en => (match en[i]? with
    | some (.ow ds) => if ds = [] then .no else .ok (.nx (en.set i (.ow ds.dropLast)))
    | _ => .no)
  | .popA tg i, en => (match en[i]? with
    | some (.ow ds) => (match ds.getLast? with
      | some d => (bindT tg d (en.set i (.ow ds.dropLast))).bind fun en' => .ok (.nx en')
      | none => .no)
    | _ => .no)
  | .rvs i, en => (match en[i]? with
    | some (.ow ds) => .ok (.nx (en.set i (.ow ds.reverse)))
    | _ => .no)
  | .frz i, en => (match en[i]? with
    | some (.ow ds) => .ok (.nx (en.set i (.va (.list ds))))
    | _ => .no)
  | .ite t a b, en => lf en (evT G c dfl t en) fun k => if k then evSs a en else evSs b en
  | .whl t b, en => whileR (evT G c dfl t) (evSs b) en
  | .for_ tg it b, en => lf en (evI G c dfl it en) fun ds => forR (bindT tg) (evSs b) ds en
  | .ret e, en => lf en (evF G c dfl e en) fun x => .ok (.rt x.1 x.2)
  | .retO i, en => (match en[i]? with
    | some (.ow ds) => .ok (.rt (.list ds) true)
    | _ => .no)
  | .retN, _ => .ok (.rt .none false)
  | .brk, en => .ok (.bk en)
  | .cnt, en => .ok (.ct en)
  | .rai k, en => .ok (.ex k en)
  | .exp e, en => lf en (evF G c dfl e en) fun _ => .ok (.nx en)
  | .tryA h i ks b, en => (evSs b en).bind fun fl => (match fl with
    | .ex c e => if ks.contains c then .ok (.nx ((e.set h .un).set i (.er c))) else .no
    | fl => .ok fl)
  | .dead, _ => .no
noncomputable def evSs : Ss → En → R Fl
  | .nil, en => .ok (.nx en)
  | .cons s r, en => (evS s en).bind fun fl => (match fl with
    | .nx e => evSs r e
    | fl => .ok fl)
end
end

/-! ### defs -/
structure Fn where
  name : Str
  ps : List Str
  N : List Str
  dfl : List D
  body : Ss
def Fn.dv (f : Fn) (m : Nat) : List D := f.dfl.drop (f.dfl.length - m)
/-- the first k defs of a table, by their places -/
noncomputable def callN (G : Nat → D) (T : List Fn) : Nat → Nat → List Sl → R (D × Bool)
  | 0, _, _ => .no
  | k + 1, j, ss => if j = k then (match T[k]? with
    | some f => if ss.length = f.ps.length then (match evSs G (callN G T k) (fun j m => ((T[j]?).map fun g => g.dv m).getD []) f.body (ss ++ List.replicate (f.N.length - ss.length) .un) with
      | .ok (.rt d fr) => .ok (d, fr)
      | .ok (.nx _) => .ok (.none, false)
      | .ok (.ex c _) => .ex c
      | _ => .no) else .no
    | none => .no) else callN G T k j ss
end AW

/-! AwBase: values of the small language on a heap. -/
namespace AW
open PySem PySem.Spec PyProof.Rows L2

/-! ### heaps that grow: f what is settled, H all -/
structure Po (f H f' H' : Hp) : Prop where
  sH : Same H H'
  sf : Same f f'
  sub : Same f' H'
  gro : ∀ a o, f' a = some o → f a = some o ∨ H a = none
theorem Po.refl {f H : Hp} (h : Same f H) : Po f H f H := ⟨Same.refl H, Same.refl f, h, fun _ _ e => .inl e⟩
theorem Po.trans {f H f1 H1 f2 H2 : Hp} (a : Po f H f1 H1) (b : Po f1 H1 f2 H2) : Po f H f2 H2 :=
  ⟨a.sH.trans b.sH, a.sf.trans b.sf, b.sub, fun p o e => by
    rcases b.gro p o e with h | h
    · exact a.gro p o h
    · exact .inr (a.sH.free h)⟩
/-- a new object, settled -/
theorem Po.new {f H f1 H1 : Hp} (a : Po f H f1 H1) {p : Addr} {o : HO} (h : H1 p = none) : Po f H (upd f1 p o) (upd H1 p o) := by
  refine ⟨a.sH.trans fun b x e => ?_, a.sf.trans fun b x e => ?_, fun b x e => ?_, fun b x e => ?_⟩
  · rw [upd_ne (ne_of_none e h)]; exact e
  · rw [upd_ne (ne_of_none (a.sub _ _ e) h)]; exact e
  · by_cases hb : b = p
    · subst hb; rw [upd_same] at e ⊢; exact e
    · rw [upd_ne hb] at e ⊢; exact a.sub _ _ e
  · by_cases hb : b = p
    · subst hb; exact .inr (a.sH.free h)
    · rw [upd_ne hb] at e; exact a.gro _ _ e
/-- a new object, not settled -/
theorem Po.newH {f H f1 H1 : Hp} (a : Po f H f1 H1) {p : Addr} {o : HO} (h : H1 p = none) : Po f H f1 (upd H1 p o) := by
  refine ⟨a.sH.trans fun b x e => ?_, a.sf, fun b x e => ?_, a.gro⟩
  · rw [upd_ne (ne_of_none e h)]; exact e
  · rw [upd_ne (ne_of_none (a.sub _ _ e) h)]; exact a.sub _ _ e
theorem same_none {H H' : Hp} (e : Same H H') {p : Addr} (h : H' p = none) : H p = none := e.free h
/-- what was not settled and stands is not settled behind -/
theorem Po.loose {f H f' H' : Hp} (a : Po f H f' H') {p : Addr} {o : HO} (h1 : f p = none) (h2 : H p = some o) : f' p = none := by
  cases e : f' p with
  | none => rfl
  | some x =>
    rcases a.gro p x e with h | h
    · rw [h1] at h; cases h
    · rw [h2] at h; cases h

theorem rd_same {H H' : Hp} (e : Same H H') {a : Addr} {u : HO} (h : Rd H a u) : Rd H' a u := by
  rcases h with h | ⟨o, h⟩
  · exact .inl (e _ _ h)
  · exact .inr ⟨o, e _ _ h⟩
theorem sql_same {K : PySem.W.Frag} {H H' : Hp} (e : Same H H') {a : Addr} {xs : List V} (h : SqL K H a xs) : SqL K H' a xs := e.seq h
theorem sqt_same {K : PySem.W.Frag} {H H' : Hp} (e : Same H H') {a : Addr} {xs : List V} (h : SqT K H a xs) : SqT K H' a xs := by
  rcases h with h | h
  · exact .inl (rd_same e h)
  · exact .inr h
section
variable {K : PySem.W.Frag} {H H' : Hp}
mutual
theorem dp_same (e : Same H H') : ∀ {v : V} {d : PyData}, Dp K H v d → Dp K H' v d
  | _, _, .non => .non
  | _, _, .bl b => .bl b
  | _, _, .int i => .int i
  | _, _, .str x => .str x
  | _, _, .lst h a => .lst (sql_same e h) (dpa_same e a)
  | _, _, .tup h a => .tup (sqt_same e h) (dpa_same e a)
theorem dpa_same (e : Same H H') : ∀ {vs : List V} {ds : List PyData}, DpAll K H vs ds → DpAll K H' vs ds
  | _, _, .nil => .nil
  | _, _, .cons h t => .cons (dp_same e h) (dpa_same e t)
end
end
end AW
namespace L2
open PySem PySem.Spec PyProof.Rows AW
section
variable {K : PySem.W.Frag} {H H' : Hp}
theorem DpAll.length : ∀ {vs : List V} {ds : List PyData}, DpAll K H vs ds → vs.length = ds.length
  | _, _, .nil => rfl
  | _, _, .cons _ t => congrArg Nat.succ (DpAll.length t)
theorem DpAll.get : ∀ {vs : List V} {ds : List PyData} {i : Nat} {d : PyData}, DpAll K H vs ds → ds[i]? = some d → ∃ v, vs[i]? = some v ∧ Dp K H v d
  | _, _, _, _, .nil, h => by simp at h
  | _, _, 0, _, .cons a _, h => by
    have e := Option.some.inj h
    subst e
    exact ⟨_, rfl, a⟩
  | _, _, i + 1, _, .cons _ t, h => DpAll.get (i := i) t h
theorem DpAll.getV : ∀ {vs : List V} {ds : List PyData} {i : Nat} {v : V}, DpAll K H vs ds → vs[i]? = some v → ∃ d, ds[i]? = some d ∧ Dp K H v d
  | _, _, _, _, .nil, h => by simp at h
  | _, _, 0, _, .cons a _, h => by
    have e := Option.some.inj h
    subst e
    exact ⟨_, rfl, a⟩
  | _, _, i + 1, _, .cons _ t, h => DpAll.getV (i := i) t h
theorem DpAll.append : ∀ {vs us : List V} {ds es : List PyData}, DpAll K H vs ds → DpAll K H us es → DpAll K H (vs ++ us) (ds ++ es)
  | _, _, _, _, .nil, h => h
  | _, _, _, _, .cons a t, h => .cons a (t.append h)
theorem DpAll.take : ∀ (n : Nat) {vs : List V} {ds : List PyData}, DpAll K H vs ds → DpAll K H (vs.take n) (ds.take n)
  | 0, _, _, _ => .nil
  | _ + 1, _, _, .nil => .nil
  | n + 1, _, _, .cons a t => .cons a (DpAll.take n t)
theorem DpAll.drop : ∀ (n : Nat) {vs : List V} {ds : List PyData}, DpAll K H vs ds → DpAll K H (vs.drop n) (ds.drop n)
  | 0, _, _, h => h
  | _ + 1, _, _, .nil => .nil
  | n + 1, _, _, .cons _ t => DpAll.drop n t
theorem DpAll.reverse : ∀ {vs : List V} {ds : List PyData}, DpAll K H vs ds → DpAll K H vs.reverse ds.reverse
  | _, _, .nil => .nil
  | _, _, .cons a t => by
    rw [List.reverse_cons, List.reverse_cons]
    exact t.reverse.append (.cons a .nil)
theorem DpAll.set : ∀ {vs : List V} {ds : List PyData} {v : V} {d : PyData} (i : Nat), DpAll K H vs ds → Dp K H v d → DpAll K H (vs.set i v) (ds.set i d)
  | _, _, _, _, _, .nil, _ => .nil
  | _, _, _, _, 0, .cons _ t, h => .cons h t
  | _, _, _, _, i + 1, .cons a t, h => .cons a (DpAll.set i t h)
theorem DpAll.dropLast {vs : List V} {ds : List PyData} (h : DpAll K H vs ds) : DpAll K H vs.dropLast ds.dropLast := by
  rw [List.dropLast_eq_take, List.dropLast_eq_take, h.length]
  exact h.take _
theorem DpAll.cut {vs : List V} {ds : List PyData} (h : DpAll K H vs ds) (lo hi : Option Int) : DpAll K H (cutV vs lo hi) (cutL ds lo hi) := by
  unfold cutV cutL
  rw [h.length]
  exact (h.drop _).take _
theorem DpAll.rep {vs : List V} {ds : List PyData} (h : DpAll K H vs ds) : ∀ n : Nat, DpAll K H (List.replicate n vs).flatten (List.replicate n ds).flatten
  | 0 => .nil
  | n + 1 => by
    rw [List.replicate_succ, List.replicate_succ, List.flatten_cons, List.flatten_cons]
    exact h.append (DpAll.rep h n)
theorem DpAll.ints : ∀ ns : List Int, DpAll K H (ns.map V.int) (ns.map PyData.int)
  | [] => .nil
  | n :: r => .cons (.int n) (DpAll.ints r)
end
end L2
namespace AW
open PySem PySem.Spec PyProof.Rows L2
section
variable {K : PySem.W.Frag} {H H' : Hp}
theorem atI_all {vs : List V} {ds : List PyData} {i : Int} {d : PyData} (h : DpAll K H vs ds) (e : atI ds i = some d) : ∃ v, atI vs i = some v ∧ Dp K H v d := by
  unfold atI at e ⊢
  rw [h.length]
  cases q : ixN ds.length i with
  | none => rw [q] at e; cases e
  | some j =>
    rw [q] at e
    exact h.get (show ds[j]? = some d from e)
end

/-! ### values as results -/
/-- d stands as v: settled, or a new list -/
def Vf (K : PySem.W.Frag) (H f' H' : Hp) (v : V) (d : D) : Bool → Prop
  | false => Dp K f' v d
  | true => ∃ ds p vs, d = .list ds ∧ v = .ref p ∧ H p = none ∧ f' p = none ∧ H' p = some (.lst vs) ∧ DpAll K f' vs ds
/-- d is to be read off v -/
def Vr (K : PySem.W.Frag) (f' H' : Hp) (v : V) (d : D) : Prop := Dp K f' v d ∨ ∃ ds p vs, d = .list ds ∧ v = .ref p ∧ SqL K H' p vs ∧ DpAll K f' vs ds
section
variable {K : PySem.W.Frag} {f H f1 H1 f' H' : Hp} {v : V} {d : D}
/-- settled after all -/
theorem Vf.settle {b : Bool} (h : Vf K H f' H' v d b) (q : Po f H f' H') : ∃ f'', Po f H f'' H' ∧ Dp K f'' v d := by
  cases b with
  | false => exact ⟨f', q, h⟩
  | true =>
    obtain ⟨ds, p, vs, rfl, rfl, h1, h2, h3, h4⟩ := h
    have e : Same f' (upd f' p (.lst vs)) := fun a o x => by
      rw [upd_ne (ne_of_none x h2)]; exact x
    refine ⟨upd f' p (.lst vs), ⟨q.sH, q.sf.trans e, fun a o x => ?_, fun a o x => ?_⟩, .lst (.inl (.inl upd_same)) (dpa_same e h4)⟩
    · by_cases ha : a = p
      · subst ha; rw [upd_same] at x; rw [h3]; exact x
      · rw [upd_ne ha] at x; exact q.sub _ _ x
    · by_cases ha : a = p
      · subst ha; exact .inr h1
      · rw [upd_ne ha] at x; exact q.gro _ _ x
theorem Vf.read {b : Bool} (h : Vf K H f' H' v d b) : Vr K f' H' v d := by
  cases b with
  | false => exact .inl h
  | true =>
    obtain ⟨ds, p, vs, rfl, rfl, h1, h2, h3, h4⟩ := h
    exact .inr ⟨ds, p, vs, rfl, rfl, .inl (.inl h3), h4⟩
theorem Vf.back {b : Bool} (e : Same H H1) (h : Vf K H1 f' H' v d b) : Vf K H f' H' v d b := by
  cases b with
  | false => exact h
  | true =>
    obtain ⟨ds, p, vs, rfl, rfl, h1, h2, h3, h4⟩ := h
    exact ⟨ds, p, vs, rfl, rfl, e.free h1, h2, h3, h4⟩
theorem Vr.mono (q : Po f1 H1 f' H') (h : Vr K f1 H1 v d) : Vr K f' H' v d := by
  rcases h with h | ⟨ds, p, vs, e1, e2, h1, h2⟩
  · exact .inl (dp_same q.sf h)
  · exact .inr ⟨ds, p, vs, e1, e2, sql_same q.sH h1, dpa_same q.sf h2⟩
theorem Vr.dp (s : Same f' H') (h : Vr K f' H' v d) : Dp K H' v d := by
  rcases h with h | ⟨ds, p, vs, rfl, rfl, h1, h2⟩
  · exact dp_same s h
  · exact .lst h1 (dpa_same s h2)
theorem Vr.int (h : Vr K f' H' v (.int i)) : v = .int i := by
  rcases h with h | ⟨ds, p, vs, e, _⟩
  · cases h; rfl
  · cases e
theorem Vr.bool {b : Bool} (h : Vr K f' H' v (.bool b)) : v = .bl b := by
  rcases h with h | ⟨ds, p, vs, e, _⟩
  · cases h; rfl
  · cases e
theorem Vr.str {x : Str} (h : Vr K f' H' v (.str x)) : v = .str x := by
  rcases h with h | ⟨ds, p, vs, e, _⟩
  · cases h; rfl
  · cases e
theorem Vr.non (h : Vr K f' H' v .none) : v = .non := by
  rcases h with h | ⟨ds, p, vs, e, _⟩
  · cases h; rfl
  · cases e
theorem Vr.list {ds : List D} (s : Same f' H') (h : Vr K f' H' v (.list ds)) : ∃ p vs, v = .ref p ∧ SqL K H' p vs ∧ DpAll K f' vs ds := by
  rcases h with h | ⟨es, p, vs, e, rfl, h1, h2⟩
  · cases h with
    | lst h a => exact ⟨_, _, rfl, sql_same s h, a⟩
  · cases e; exact ⟨_, _, rfl, h1, h2⟩
theorem Vr.tup {ds : List D} (s : Same f' H') (h : Vr K f' H' v (.tuple ds)) : ∃ p vs, v = .ref p ∧ SqT K f' p vs ∧ SqT K H' p vs ∧ DpAll K f' vs ds := by
  rcases h with h | ⟨es, p, vs, e, rfl, h1, h2⟩
  · cases h with
    | tup h a => exact ⟨_, _, rfl, h, sqt_same s h, a⟩
  · cases e
end

/-! ### caught errors -/
/-- the classes of errors, by their numbers -/
def errN : List Str := ["NoFraction", "NoPoly", "NoQuotient", "NoForm", "NoPlace", "NoArea", "NoText", "NoRow", "TooMany", "AreaError"]
def erC (K : PySem.W.Frag) (c : Nat) : Value := match errN[c]? with
  | some n => .ref (He.ga K n)
  | none => .none
/-- the error at a, of the c-th class -/
def erO (K : PySem.W.Frag) (c : Nat) (a : Addr) : HO := .ext fun h => ∃ (oe : Obj) (vs : Array Value), h.get? a = some oe ∧ Zc (erC K c) none oe ∧ oe.data = .fields vs
theorem erO_ok {P : Program} {w : World} {K : PySem.W.Frag} {H : Hp} {h : Heap} {a : Addr} {c : Nat} {oe : Obj} {vs : Array Value} (e : h.get? a = some oe) (z : Zc (erC K c) none oe) (d : oe.data = .fields vs) : ObjOk P w H h a (erO K c a) :=
  ⟨⟨oe, vs, e, z, d⟩, ⟨oe, e⟩, fun _ _ ⟨o, v, q, r⟩ k => ⟨o, v, k o q, r⟩⟩

/-! ### a def's slots -/
inductive SlOk (K : PySem.W.Frag) (H0 f H : Hp) : Option V → Sl → Prop where
  | un (o : Option V) : SlOk K H0 f H o .un
  | va {v : V} {d : D} (h : Dp K f v d) : SlOk K H0 f H (some v) (.va d)
  | ow {p : Addr} {vs : List V} {ds : List D} (h0 : H0 p = none) (hf : f p = none) (hH : H p = some (.lst vs)) (h : DpAll K f vs ds) : SlOk K H0 f H (some (.ref p)) (.ow ds)
  | rd {p : Addr} {vs : List V} {ds : List D} (hH : SqL K H0 p vs) (h : DpAll K f vs ds) : SlOk K H0 f H (some (.ref p)) (.rd ds)
  | er {p : Addr} {c : Nat} (hH : H p = some (erO K c p)) : SlOk K H0 f H (some (.ref p)) (.er c)
/-- the slots σ hold what en tells; f0, H0: the entry's heaps -/
structure Mt (K : PySem.W.Frag) (f0 H0 f H : Hp) (σ : L2.St) (en : En) : Prop where
  po : Po f0 H0 f H
  len : σ.length = en.length
  sl : ∀ (i : Nat) (s : Sl), en[i]? = some s → ∃ o, σ[i]? = some o ∧ SlOk K H0 f H o s
  dis : ∀ (i j : Nat) (p : V) (xs ys : List D), en[i]? = some (.ow xs) → en[j]? = some (.ow ys) → σ[i]? = some (some p) → σ[j]? = some (some p) → i = j
section
variable {K : PySem.W.Frag} {f0 H0 f H f' H' : Hp} {σ : L2.St} {en : En}
theorem SlOk.mono {o : Option V} {s : Sl} (q : Po f H f' H') (h : SlOk K H0 f H o s) : SlOk K H0 f' H' o s := by
  cases h with
  | un o => exact .un o
  | va h => exact .va (dp_same q.sf h)
  | ow h0 hf hH h => exact .ow h0 (q.loose hf hH) (q.sH _ _ hH) (dpa_same q.sf h)
  | rd hH h => exact .rd hH (dpa_same q.sf h)
  | er hH => exact .er (q.sH _ _ hH)
theorem Mt.mono (m : Mt K f0 H0 f H σ en) (q : Po f H f' H') : Mt K f0 H0 f' H' σ en :=
  ⟨m.po.trans q, m.len, fun i s e => let ⟨o, h1, h2⟩ := m.sl i s e; ⟨o, h1, h2.mono q⟩, m.dis⟩
theorem Mt.va {i : Nat} {d : D} (m : Mt K f0 H0 f H σ en) (e : en[i]? = some (.va d)) : ∃ v, σ[i]? = some (some v) ∧ Dp K f v d := by
  obtain ⟨o, h1, h2⟩ := m.sl i _ e
  cases h2 with
  | va h => exact ⟨_, h1, h⟩
theorem Mt.ow {i : Nat} {ds : List D} (m : Mt K f0 H0 f H σ en) (e : en[i]? = some (.ow ds)) : ∃ p vs, σ[i]? = some (some (.ref p)) ∧ H0 p = none ∧ f p = none ∧ H p = some (.lst vs) ∧ DpAll K f vs ds := by
  obtain ⟨o, h1, h2⟩ := m.sl i _ e
  cases h2 with
  | ow h0 hf hH h => exact ⟨_, _, h1, h0, hf, hH, h⟩
theorem Mt.er {i : Nat} {c : Nat} (m : Mt K f0 H0 f H σ en) (e : en[i]? = some (.er c)) : ∃ p, σ[i]? = some (some (.ref p)) ∧ H p = some (erO K c p) := by
  obtain ⟨o, h1, h2⟩ := m.sl i _ e
  cases h2 with
  | er hH => exact ⟨_, h1, hH⟩
theorem Mt.rd {i : Nat} {ds : List D} (m : Mt K f0 H0 f H σ en) (e : en[i]? = some (.rd ds)) : ∃ p vs, σ[i]? = some (some (.ref p)) ∧ SqL K H0 p vs ∧ DpAll K f vs ds := by
  obtain ⟨o, h1, h2⟩ := m.sl i _ e
  cases h2 with
  | rd hH h => exact ⟨_, _, h1, hH, h⟩
/-- a slot is set to a settled value -/
theorem Mt.setV {i : Nat} {v : V} {d : D} (m : Mt K f0 H0 f H σ en) (h : Dp K f v d) : Mt K f0 H0 f H (σ.set i (some v)) (en.set i (.va d)) := by
  refine ⟨m.po, by rw [List.length_set, List.length_set]; exact m.len, fun j s e => ?_, fun j k p xs ys e1 e2 e3 e4 => ?_⟩
  · by_cases hj : i = j
    · subst hj
      by_cases hl : i < en.length
      · rw [List.getElem?_set_self hl] at e
        cases e
        exact ⟨_, List.getElem?_set_self (by rw [m.len]; exact hl), .va h⟩
      · rw [List.getElem?_eq_none (by rw [List.length_set]; omega)] at e; cases e
    · rw [List.getElem?_set_ne hj] at e ⊢
      exact m.sl j s e
  · have nj : i ≠ j := fun z => by
      subst z
      by_cases hl : i < en.length
      · rw [List.getElem?_set_self hl] at e1; cases e1
      · rw [List.getElem?_eq_none (by rw [List.length_set]; omega)] at e1; cases e1
    have nk : i ≠ k := fun z => by
      subst z
      by_cases hl : i < en.length
      · rw [List.getElem?_set_self hl] at e2; cases e2
      · rw [List.getElem?_eq_none (by rw [List.length_set]; omega)] at e2; cases e2
    rw [List.getElem?_set_ne nj] at e1 e3
    rw [List.getElem?_set_ne nk] at e2 e4
    exact m.dis j k p xs ys e1 e2 e3 e4
/-- a slot is forgotten -/
theorem Mt.setU {i : Nat} {o : Option V} (m : Mt K f0 H0 f H σ en) : Mt K f0 H0 f H (σ.set i o) (en.set i .un) := by
  refine ⟨m.po, by rw [List.length_set, List.length_set]; exact m.len, fun j s e => ?_, fun j k p xs ys e1 e2 e3 e4 => ?_⟩
  · by_cases hj : i = j
    · subst hj
      by_cases hl : i < en.length
      · rw [List.getElem?_set_self hl] at e
        cases e
        exact ⟨_, List.getElem?_set_self (by rw [m.len]; exact hl), .un _⟩
      · rw [List.getElem?_eq_none (by rw [List.length_set]; omega)] at e; cases e
    · rw [List.getElem?_set_ne hj] at e ⊢
      exact m.sl j s e
  · have nj : ∀ j xs, (en.set i Sl.un)[j]? = some (Sl.ow xs) → i ≠ j := fun j xs e z => by
      subst z
      by_cases hl : i < en.length
      · rw [List.getElem?_set_self hl] at e; cases e
      · rw [List.getElem?_eq_none (by rw [List.length_set]; omega)] at e; cases e
    have n1 := nj j _ e1
    have n2 := nj k _ e2
    rw [List.getElem?_set_ne n1] at e1 e3
    rw [List.getElem?_set_ne n2] at e2 e4
    exact m.dis j k p xs ys e1 e2 e3 e4
/-- a slot is set to a caught error -/
theorem Mt.setE {i : Nat} {p : Addr} {c : Nat} (m : Mt K f0 H0 f H σ en) (h : H p = some (erO K c p)) : Mt K f0 H0 f H (σ.set i (some (.ref p))) (en.set i (.er c)) := by
  refine ⟨m.po, by rw [List.length_set, List.length_set]; exact m.len, fun j s e => ?_, fun j k q xs ys e1 e2 e3 e4 => ?_⟩
  · by_cases hj : i = j
    · subst hj
      by_cases hl : i < en.length
      · rw [List.getElem?_set_self hl] at e
        cases e
        exact ⟨_, List.getElem?_set_self (by rw [m.len]; exact hl), .er h⟩
      · rw [List.getElem?_eq_none (by rw [List.length_set]; omega)] at e; cases e
    · rw [List.getElem?_set_ne hj] at e ⊢
      exact m.sl j s e
  · have nj : ∀ j xs, (en.set i (Sl.er c))[j]? = some (Sl.ow xs) → i ≠ j := fun j xs e z => by
      subst z
      by_cases hl : i < en.length
      · rw [List.getElem?_set_self hl] at e; cases e
      · rw [List.getElem?_eq_none (by rw [List.length_set]; omega)] at e; cases e
    have n1 := nj j _ e1
    have n2 := nj k _ e2
    rw [List.getElem?_set_ne n1] at e1 e3
    rw [List.getElem?_set_ne n2] at e2 e4
    exact m.dis j k q xs ys e1 e2 e3 e4
/-- a slot is set to a new list -/
theorem Mt.setO {i : Nat} {p : Addr} {vs : List V} {ds : List D} (m : Mt K f0 H0 f H σ en) (q : Po f H f' H') (h1 : H p = none) (h2 : f' p = none) (h3 : H' p = some (.lst vs)) (h4 : DpAll K f' vs ds) :
    Mt K f0 H0 f' H' (σ.set i (some (.ref p))) (en.set i (.ow ds)) := by
  have m' := m.mono q
  have fresh : ∀ (j : Nat) (xs : List D), en[j]? = some (.ow xs) → σ[j]? ≠ some (some (.ref p)) := fun j xs e z => by
    obtain ⟨p', vs', e1, _, _, e4, _⟩ := m.ow e
    rw [z] at e1
    cases e1
    rw [h1] at e4
    cases e4
  refine ⟨m'.po, by rw [List.length_set, List.length_set]; exact m'.len, fun j s e => ?_, fun j k p' xs ys e1 e2 e3 e4 => ?_⟩
  · by_cases hj : i = j
    · subst hj
      by_cases hl : i < en.length
      · rw [List.getElem?_set_self hl] at e
        cases e
        exact ⟨_, List.getElem?_set_self (by rw [m.len]; exact hl), .ow (m.po.sH.free h1) h2 h3 h4⟩
      · rw [List.getElem?_eq_none (by rw [List.length_set]; omega)] at e; cases e
    · rw [List.getElem?_set_ne hj] at e ⊢
      exact m'.sl j s e
  · by_cases hj : i = j
    · subst hj
      by_cases hk : i = k
      · exact hk
      · rw [List.getElem?_set_ne hk] at e2 e4
        by_cases hl : i < σ.length
        · rw [List.getElem?_set_self hl] at e3
          cases e3
          exact absurd e4 (fresh k ys e2)
        · rw [List.getElem?_eq_none (by rw [List.length_set]; omega)] at e3; cases e3
    · rw [List.getElem?_set_ne hj] at e1 e3
      by_cases hk : i = k
      · subst hk
        by_cases hl : i < σ.length
        · rw [List.getElem?_set_self hl] at e4
          cases e4
          exact absurd e3 (fresh j xs e1)
        · rw [List.getElem?_eq_none (by rw [List.length_set]; omega)] at e4; cases e4
      · rw [List.getElem?_set_ne hk] at e2 e4
        exact m.dis j k p' xs ys e1 e2 e3 e4
/-- a list of the def's own is changed -/
theorem Mt.upO {i : Nat} {p : Addr} {ws : List V} {ds es : List D} (m : Mt K f0 H0 f H σ en) (e : en[i]? = some (.ow ds)) (es' : σ[i]? = some (some (.ref p))) (hw : DpAll K f ws es) :
    Mt K f0 H0 f (upd H p (.lst ws)) σ (en.set i (.ow es)) := by
  obtain ⟨p', vs', e1, h0, hf, hH, h⟩ := m.ow e
  rw [es'] at e1
  cases e1
  have hl : i < en.length := by
    by_cases hl : i < en.length
    · exact hl
    · rw [List.getElem?_eq_none (by omega)] at e; cases e
  refine ⟨⟨fun a o x => ?_, m.po.sf, fun a o x => ?_, m.po.gro⟩, by rw [List.length_set]; exact m.len, fun j s e' => ?_, fun j k q xs ys a1 a2 a3 a4 => ?_⟩
  · rw [upd_ne (ne_of_none x h0)]; exact m.po.sH _ _ x
  · rw [upd_ne (ne_of_none x hf)]; exact m.po.sub _ _ x
  · by_cases hj : i = j
    · subst hj
      rw [List.getElem?_set_self hl] at e'
      cases e'
      exact ⟨_, es', .ow h0 hf upd_same hw⟩
    · rw [List.getElem?_set_ne hj] at e'
      obtain ⟨o, h1, h2⟩ := m.sl j s e'
      refine ⟨o, h1, ?_⟩
      cases h2 with
      | un o => exact .un o
      | va h => exact .va h
      | rd hH h => exact .rd hH h
      | @er p2 c2 gH =>
        have np : p2 ≠ p := fun z => by
          subst z
          rw [hH] at gH
          cases gH
        exact .er (by rw [upd_ne np]; exact gH)
      | @ow p2 vs2 ds2 g0 gf gH g =>
        have np : p2 ≠ p := fun z => by
          subst z
          exact hj (m.dis i j _ _ _ e e' es' h1)
        exact .ow g0 gf (by rw [upd_ne np]; exact gH) g
  · have back : ∀ (k : Nat) (ys : List D), (en.set i (.ow es))[k]? = some (.ow ys) → ∃ zs, en[k]? = some (.ow zs) := fun k ys a => by
      by_cases hk : i = k
      · subst hk; exact ⟨_, e⟩
      · rw [List.getElem?_set_ne hk] at a; exact ⟨_, a⟩
    obtain ⟨z1, b1⟩ := back _ _ a1
    obtain ⟨z2, b2⟩ := back _ _ a2
    exact m.dis j k q _ _ b1 b2 a3 a4

/-- a list of the def's own is settled -/
theorem Mt.frz {i : Nat} {ds : List D} (m : Mt K f0 H0 f H σ en) (e : en[i]? = some (.ow ds)) : ∃ f', Same f f' ∧ Mt K f0 H0 f' H σ (en.set i (.va (.list ds))) := by
  obtain ⟨p, vs, e1, h0, hf, hH, h⟩ := m.ow e
  have sm : Same f (upd f p (.lst vs)) := fun a o x => by
    rw [upd_ne (ne_of_none x hf)]; exact x
  have hl : i < en.length := by
    by_cases hl : i < en.length
    · exact hl
    · rw [List.getElem?_eq_none (by omega)] at e; cases e
  refine ⟨_, sm, ⟨m.po.sH, m.po.sf.trans sm, fun a o x => ?_, fun a o x => ?_⟩, by rw [List.length_set]; exact m.len, fun j s e' => ?_, fun j k q xs ys a1 a2 a3 a4 => ?_⟩
  · by_cases ha : a = p
    · subst ha; rw [upd_same] at x; rw [hH]; exact x
    · rw [upd_ne ha] at x; exact m.po.sub _ _ x
  · by_cases ha : a = p
    · subst ha; exact .inr h0
    · rw [upd_ne ha] at x; exact m.po.gro _ _ x
  · by_cases hj : i = j
    · subst hj
      rw [List.getElem?_set_self hl] at e'
      cases e'
      exact ⟨_, e1, .va (.lst (.inl (.inl upd_same)) (dpa_same sm h))⟩
    · rw [List.getElem?_set_ne hj] at e'
      obtain ⟨o, h1, h2⟩ := m.sl j s e'
      refine ⟨o, h1, ?_⟩
      cases h2 with
      | un o => exact .un o
      | va h => exact .va (dp_same sm h)
      | rd hH h => exact .rd hH (dpa_same sm h)
      | er hH => exact .er hH
      | @ow p2 vs2 ds2 g0 gf gH g =>
        have np : p2 ≠ p := fun z => by
          subst z
          exact hj (m.dis i j _ _ _ e e' e1 h1)
        exact .ow g0 (by rw [upd_ne np]; exact gf) gH (dpa_same sm g)
  · have nj : i ≠ j := fun z => by
      subst z
      rw [List.getElem?_set_self hl] at a1; cases a1
    have nk : i ≠ k := fun z => by
      subst z
      rw [List.getElem?_set_self hl] at a2; cases a2
    rw [List.getElem?_set_ne nj] at a1
    rw [List.getElem?_set_ne nk] at a2
    exact m.dis j k q _ _ a1 a2 a3 a4
/-- slots forgotten -/
theorem Mt.wipe1 {i : Nat} (m : Mt K f0 H0 f H σ en) : Mt K f0 H0 f H (σ.set i none) (en.set i .un) := by
  refine ⟨m.po, by rw [List.length_set, List.length_set]; exact m.len, fun j s e => ?_, fun j k p xs ys e1 e2 e3 e4 => ?_⟩
  · by_cases hj : i = j
    · subst hj
      by_cases hl : i < en.length
      · rw [List.getElem?_set_self hl] at e
        cases e
        exact ⟨_, List.getElem?_set_self (by rw [m.len]; exact hl), .un _⟩
      · rw [List.getElem?_eq_none (by rw [List.length_set]; omega)] at e; cases e
    · rw [List.getElem?_set_ne hj] at e ⊢
      exact m.sl j s e
  · have nj : i ≠ j := fun z => by
      subst z
      by_cases hl : i < en.length
      · rw [List.getElem?_set_self hl] at e1; cases e1
      · rw [List.getElem?_eq_none (by rw [List.length_set]; omega)] at e1; cases e1
    have nk : i ≠ k := fun z => by
      subst z
      by_cases hl : i < en.length
      · rw [List.getElem?_set_self hl] at e2; cases e2
      · rw [List.getElem?_eq_none (by rw [List.length_set]; omega)] at e2; cases e2
    rw [List.getElem?_set_ne nj] at e1 e3
    rw [List.getElem?_set_ne nk] at e2 e4
    exact m.dis j k p xs ys e1 e2 e3 e4
theorem Mt.wipes (m : Mt K f0 H0 f H σ en) : ∀ vs : List Nat, Mt K f0 H0 f H (L2.wipe σ vs) (AW.wipe en vs)
  | [] => m
  | v :: vs => (m.wipes vs).wipe1
end
end AW

/-! AwOps: operators on values of the small language. -/
namespace AW
open PySem PySem.Spec PyProof.Rows L2

theorem line_eq : line = sizeLine := by rw [sizeLine_eq]; rfl

/-- wide divisions have room: where the frames stand as told, and behind every heap that keeps the base -/
def PyR (X : Cx) : Prop := X.A.frames = some X.stack → Mod X.K X.mg X.base → ∀ s : Shared, (∀ b o, X.base.get? b = some o → s.heap.get? b = some o) → PylongRoom (model X.prog X.w) X.A s
theorem PyR.of {X : Cx} (h : PyR X) {pins : List (Addr × Obj)} {σ : L2.St} {H : Hp} {s : Shared} (I : Inv X pins σ H s) : PylongRoom (model X.prog X.w) X.A s := h I.ok.frames I.ok.mod s I.bk
/-- what is wanted of a result -/
def Ac (K : PySem.W.Frag) (f H : Hp) (Q : VK) (p : D × Bool) : Prop := ∀ v f' H', Po f H f' H' → Vf K H f' H' v p.1 p.2 → Q v H'
section
variable {K : PySem.W.Frag} {f H f1 H1 : Hp} {Q : VK}
theorem Ac.mono {p : D × Bool} (q : Po f H f1 H1) (h : Ac K f H Q p) : Ac K f1 H1 Q p := fun v f' H' q' hv => h v f' H' (q.trans q') (hv.back q.sH)
theorem Ac.here {d : D} {v : V} (s : Same f H) (h : Ac K f H Q (d, false)) (hv : Dp K f v d) : Q v H := h v f H (Po.refl s) hv
theorem Ac.newT {ds : List D} {vs : List V} {p : Addr} (s : Same f H) (h : Ac K f H Q (.tuple ds, false)) (hv : DpAll K f vs ds) (hp : H p = none) : Q (.ref p) (upd H p (.tup vs)) :=
  h _ _ _ ((Po.refl s).new hp) (.tup (.inl (.inl upd_same)) (dpa_same (fun a o e => by rw [upd_ne (ne_of_none (s _ _ e) hp)]; exact e) hv))
theorem Ac.newL {ds : List D} {vs : List V} {p : Addr} (s : Same f H) (h : Ac K f H Q (.list ds, true)) (hv : DpAll K f vs ds) (hp : H p = none) : Q (.ref p) (upd H p (.lst vs)) :=
  h _ _ _ ((Po.refl s).newH hp) ⟨ds, p, vs, rfl, rfl, hp, s.free hp, upd_same, hv⟩
end
/-- two values read, and what is wanted -/
def rO2 (K : PySem.W.Frag) (o : O2) : R2 := fun x y H Q => ∃ f dx dy p, Same f H ∧ Vr K f H x dx ∧ Vr K f H y dy ∧ sem2 o dx dy = .ok p ∧ Ac K f H Q p
def rO1 (K : PySem.W.Frag) (o : O1) : V → Hp → VK → Prop := fun x H Q => ∃ f dx p, Same f H ∧ Vr K f H x dx ∧ sem1 o dx = .ok p ∧ Ac K f H Q p

section
variable {X : Cx}
/-- list + list -/
theorem op_catS : OpR X (binaryOp .Add) (fun x y H Q => ∃ a b xs ys, x = .ref a ∧ y = .ref b ∧ SqL X.K H a xs ∧ SqL X.K H b ys ∧ xs.length + ys.length ≤ sizeLine ∧ ∀ p, H p = none → Q (.ref p) (upd H p (.lst (xs ++ ys)))) := by
  intro pins s σ H x y v u Q I rx ry h
  obtain ⟨a, b, xs, ys, rfl, rfl, ha, hb, hz, q⟩ := h
  cases rx
  cases ry
  obtain ⟨its, r1, p1, _⟩ := I.list ha
  obtain ⟨its2, r2, p2, _⟩ := I.list hb
  obtain ⟨⟨cls, dd, data, sl⟩, ho, hc, n, hd⟩ := p1.isList
  obtain ⟨⟨cls2, dd2, data2, sl2⟩, ho2, hc2, n2, hd2⟩ := p2.isList
  simp only at hc hd hc2 hd2
  subst hc hd hc2 hd2
  have e : its.toArray ++ its2.toArray = (its ++ its2).toArray := by simp
  have l1 := r1.length
  have l2 := r2.length
  refine concat_meets ⟨_, ho, rfl⟩ ⟨_, ho2, rfl⟩ noFill_list_add seq_list_add PySem.F.slot_list_add PySem.F.entry_list_add (PySem.F.args_list_add_2 _ _) (list_addW a b its.toArray its2.toArray n n2 dd dd2 sl sl2 (by simp only [List.size_toArray]; omega)) ⟨ho, ho2, ?_⟩
  rw [e]
  exact ⟨.ref _, _, I.lnew (t' := s.toks) (r1.append r2) (by rw [List.length_append]; omega), rfl, q _ I.fresh⟩
theorem op_addA : OpR X (binaryOp .Add) (rO2 X.K .add) := by
  intro pins s σ H x y v u Q I rx ry h
  obtain ⟨f, dx, dy, p, sm, hx, hy, e, q⟩ := h
  cases dx <;> cases dy <;> first
    | (cases e; done)
    | skip
  case int.int i j =>
    cases e
    exact op_add pins s σ H x y v u Q I rx ry ⟨i, j, hx.int, hy.int, q.here sm (.int _)⟩
  case str.str i j =>
    by_cases hz : i.length + j.length ≤ line
    · have e' : (if i.length + j.length ≤ line then v1 (.str (i ++ j)) else .no) = R.ok p := e
      rw [if_pos hz] at e'
      cases e'
      exact op_add_str pins s σ H x y v u Q I rx ry ⟨i, j, hx.str, hy.str, by rw [← line_eq]; exact hz, q.here sm (.str _)⟩
    · have e' : (if i.length + j.length ≤ line then v1 (.str (i ++ j)) else .no) = R.ok p := e
      rw [if_neg hz] at e'
      cases e'
  case list.list xs ys =>
    have e' : (if xs.length + ys.length ≤ line then R.ok (PyData.list (xs ++ ys), true) else .no) = R.ok p := e
    by_cases hz : xs.length + ys.length ≤ line
    · rw [if_pos hz] at e'
      cases e'
      obtain ⟨a, vs, rfl, ha, ra⟩ := hx.list sm
      obtain ⟨b, us, rfl, hb, rb⟩ := hy.list sm
      exact op_catS pins s σ H _ _ v u Q I rx ry ⟨a, b, vs, us, rfl, rfl, ha, hb, by rw [ra.length, rb.length, ← line_eq]; exact hz, fun p hp => q.newL sm (ra.append rb) hp⟩
    · rw [if_neg hz] at e'
      cases e'
  case tuple.tuple xs ys =>
    have e' : (if xs.length + ys.length ≤ line then v1 (PyData.tuple (xs ++ ys)) else .no) = R.ok p := e
    by_cases hz : xs.length + ys.length ≤ line
    · rw [if_pos hz] at e'
      cases e'
      obtain ⟨a, vs, rfl, hfa, ha, ra⟩ := hx.tup sm
      obtain ⟨b, us, rfl, hfb, hb, rb⟩ := hy.tup sm
      refine op_catA pins s σ H _ _ v u Q I rx ry ⟨a, b, vs, us, rfl, rfl, ha, hb, by rw [ra.length, rb.length, ← line_eq]; exact hz, fun z => ?_, fun z1 z2 => ?_, fun _ _ p hp => q.newT sm (ra.append rb) hp⟩
      · refine q.here sm ?_
        subst z
        cases ra
        exact .tup hfb rb
      · refine q.here sm ?_
        subst z2
        cases rb
        rw [List.append_nil]
        exact .tup hfa ra
    · rw [if_neg hz] at e'
      cases e'
theorem op_subA : OpR X (binaryOp .Sub) (rO2 X.K .sub) := by
  intro pins s σ H x y v u Q I rx ry h
  obtain ⟨f, dx, dy, p, sm, hx, hy, e, q⟩ := h
  cases dx <;> cases dy <;> first
    | (cases e; done)
    | skip
  case int.int i j =>
    cases e
    exact op_sub pins s σ H x y v u Q I rx ry ⟨i, j, hx.int, hy.int, q.here sm (.int _)⟩
theorem mulOk_ok {i j : Int} (h : mulOk i j = true) : IntMulOk i j := by
  rcases (of_decide_eq_true h : i.natAbs < 2 ^ 64 ∨ j.natAbs < 2 ^ 64 ∨ i.natAbs.log2 + j.natAbs.log2 < 100000000) with h1 | h1 | h1
  · exact .of_left (intBits_le_64 (by omega) (by omega))
  · exact .of_right (intBits_le_64 (by omega) (by omega))
  have b : ∀ x : Int, Builtin.Int.intBits x ≤ x.natAbs.log2 + 1 := fun x => by
    unfold Builtin.Int.intBits
    split <;> omega
  have h3 := b i
  have h4 := b j
  have e : bitsLine = 134217728 := by decide
  unfold IntMulOk
  intro z
  rw [Bool.and_eq_true] at z
  have z2 := z.2
  unfold Builtin.Int.intTooBig at z2
  have z3 := of_decide_eq_true z2
  rw [e] at z3
  omega
theorem op_mulA : OpR X (binaryOp .Mult) (rO2 X.K .mul) := by
  intro pins s σ H x y v u Q I rx ry h
  obtain ⟨f, dx, dy, p, sm, hx, hy, e, q⟩ := h
  cases dx <;> cases dy <;> first
    | (cases e; done)
    | skip
  case int.int i j =>
    have e' : (if mulOk i j = true then v1 (.int (i * j)) else .no) = R.ok p := e
    by_cases hz : mulOk i j = true
    · rw [if_pos hz] at e'
      cases e'
      have hr : OpR X (binaryOp .Mult) (rI (fun i j => mulOk i j = true) fun i j => .int (i * j)) := opI fun _ _ _ _ _ _ _ hc q => mul_int q (mulOk_ok hc)
      exact hr pins s σ H x y v u Q I rx ry ⟨i, j, hx.int, hy.int, hz, q.here sm (.int _)⟩
    · rw [if_neg hz] at e'
      cases e'
  case tuple.int xs k =>
    have e' : (if -1000000 ≤ k ∧ k ≤ 1000000 ∧ xs.length * k.toNat ≤ line then v1 (.tuple (List.replicate k.toNat xs).flatten) else .no) = R.ok p := e
    by_cases hz : -1000000 ≤ k ∧ k ≤ 1000000 ∧ xs.length * k.toNat ≤ line
    · rw [if_pos hz] at e'
      cases e'
      obtain ⟨a, vs, rfl, hfa, ha, ra⟩ := hx.tup sm
      obtain ⟨_, _, _, hlen⟩ := I.tuple ha
      refine op_repTA pins s σ H _ y v u Q I rx ry ⟨a, k, vs, rfl, hy.int, ha, hlen, hz.2.1, hz.1, by rw [ra.length, ← line_eq]; exact hz.2.2, fun z => ?_, fun _ r hr => q.newT sm (ra.rep k.toNat) hr⟩
      refine q.here sm ?_
      have e1 : (List.replicate k.toNat xs).flatten = xs := by
        rcases z with z | z
        · have hx0 : xs = [] := by
            have := ra.length
            rw [z] at this
            exact List.eq_nil_of_length_eq_zero this.symm
          rw [hx0]
          have : ∀ n : Nat, (List.replicate n ([] : List D)).flatten = [] := fun n => by induction n with | zero => rfl | succ n ih => rw [List.replicate_succ, List.flatten_cons, ih]; rfl
          exact this _
        · rw [z]
          show (List.replicate 1 xs).flatten = xs
          simp
      rw [e1]
      exact .tup hfa ra
    · rw [if_neg hz] at e'
      cases e'
theorem op_fdivA (hp : PyR X) : OpR X (binaryOp .FloorDiv) (rO2 X.K .fdiv) := by
  intro pins s σ H x y v u Q I rx ry h
  obtain ⟨f, dx, dy, p, sm, hx, hy, e, q⟩ := h
  cases dx <;> cases dy <;> first
    | (cases e; done)
    | skip
  case int.int i j =>
    have e' : (if j = 0 then R.no else v1 (.int (i.fdiv j))) = R.ok p := e
    by_cases h0 : j = 0
    · rw [if_pos h0] at e'
      cases e'
    · rw [if_neg h0] at e'
      cases e'
      obtain ⟨t, rfl⟩ : RelV (.int i) v := by rw [← hx.int]; exact rx
      obtain ⟨t', rfl⟩ : RelV (.int j) u := by rw [← hy.int]; exact ry
      exact floordiv_int h0 ⟨.int (i.fdiv j), H, I.tok _, ⟨_, rfl⟩, q.here sm (.int _)⟩ (.inr (hp.of I))
theorem op_modA : OpR X (binaryOp .Mod) (rO2 X.K .mod) := by
  intro pins s σ H x y v u Q I rx ry h
  obtain ⟨f, dx, dy, p, sm, hx, hy, e, q⟩ := h
  cases dx <;> cases dy <;> first
    | (cases e; done)
    | skip
  case int.int i j =>
    have e' : (if j = 0 then R.no else v1 (.int (i.fmod j))) = R.ok p := e
    by_cases h0 : j = 0
    · rw [if_pos h0] at e'
      cases e'
    · rw [if_neg h0] at e'
      cases e'
      exact op_modN pins s σ H x y v u Q I rx ry ⟨i, j, hx.int, hy.int, h0, q.here sm (.int _)⟩
theorem op_powA : OpR X (binaryOp .Pow) (rO2 X.K .pow) := by
  intro pins s σ H x y v u Q I rx ry h
  obtain ⟨f, dx, dy, p, sm, hx, hy, e, q⟩ := h
  cases dx <;> cases dy <;> first
    | (cases e; done)
    | skip
  case int.int i j =>
    have e' : (if 0 ≤ j ∧ j ≤ 1000000 ∧ i.natAbs < 2 ^ 64 then v1 (.int (i ^ j.toNat)) else .no) = R.ok p := e
    by_cases hz : 0 ≤ j ∧ j ≤ 1000000 ∧ i.natAbs < 2 ^ 64
    · rw [if_pos hz] at e'
      cases e'
      exact op_pow pins s σ H x y v u Q I rx ry ⟨i, j, hx.int, hy.int, hz, q.here sm (.int _)⟩
    · rw [if_neg hz] at e'
      cases e'
theorem op_eqA (hu : X.A.units + 64 < cLine) : OpR X (compareOp .Eq) (rO2 X.K .eq) := by
  intro pins s σ H x y v u Q I rx ry h
  obtain ⟨f, dx, dy, p, sm, hx, hy, e, q⟩ := h
  have e' : (if SeqAt.shaped dx = true ∧ SeqAt.shaped dy = true then v1 (.bool (dx.eqv dy)) else .no) = R.ok p := by
    rw [← e]
    cases dx <;> cases dy <;> rfl
  by_cases hz : SeqAt.shaped dx = true ∧ SeqAt.shaped dy = true
  · rw [if_pos hz] at e'
    cases e'
    exact op_eqD hu pins s σ H x y v u Q I rx ry ⟨dx, dy, hx.dp sm, hy.dp sm, hz.1, hz.2, q.here sm (.bl _)⟩
  · rw [if_neg hz] at e'
    cases e'
theorem op_neA (hu : X.A.units + 64 < cLine) : OpR X (compareOp .NotEq) (rO2 X.K .ne) := by
  intro pins s σ H x y v u Q I rx ry h
  obtain ⟨f, dx, dy, p, sm, hx, hy, e, q⟩ := h
  have e' : (if SeqAt.shaped dx = true ∧ SeqAt.shaped dy = true then v1 (.bool (!dx.eqv dy)) else .no) = R.ok p := by
    rw [← e]
    cases dx <;> cases dy <;> rfl
  by_cases hz : SeqAt.shaped dx = true ∧ SeqAt.shaped dy = true
  · rw [if_pos hz] at e'
    cases e'
    exact op_neD hu pins s σ H x y v u Q I rx ry ⟨dx, dy, hx.dp sm, hy.dp sm, hz.1, hz.2, q.here sm (.bl _)⟩
  · rw [if_neg hz] at e'
    cases e'
theorem op_cmpA {op : CmpOp} {o : O2} {g : Int → Int → Bool} (hs : ∀ a b, sem2 o a b = cmpI g a b) (hr : OpR X (compareOp op) (rI0 fun i j => .bl (g i j))) : OpR X (compareOp op) (rO2 X.K o) := by
  intro pins s σ H x y v u Q I rx ry h
  obtain ⟨f, dx, dy, p, sm, hx, hy, e, q⟩ := h
  rw [hs] at e
  cases dx <;> cases dy <;> first
    | (cases e; done)
    | skip
  case int.int i j =>
    cases e
    exact hr pins s σ H x y v u Q I rx ry ⟨i, j, hx.int, hy.int, q.here sm (.bl _)⟩
theorem op_ltA : OpR X (compareOp .Lt) (rO2 X.K .lt) := op_cmpA (fun a b => by cases a <;> cases b <;> rfl) op_lt
theorem op_leA : OpR X (compareOp .LtE) (rO2 X.K .le) := op_cmpA (fun a b => by cases a <;> cases b <;> rfl) op_le
theorem op_gtA : OpR X (compareOp .Gt) (rO2 X.K .gt) := op_cmpA (fun a b => by cases a <;> cases b <;> rfl) op_gt
theorem op_geA : OpR X (compareOp .GtE) (rO2 X.K .ge) := op_cmpA (fun a b => by cases a <;> cases b <;> rfl) op_ge
theorem Vr.isN {K : PySem.W.Frag} {f H : Hp} {v : V} {d : D} (h : Vr K f H v d) : decide (v = .non) = (match d with | .none => true | _ => false) := by
  rcases h with h | ⟨ds, p, vs, rfl, rfl, _⟩
  · cases h <;> rfl
  · rfl
theorem op_isA : OpR X (compareOp .Is) (rO2 X.K .is_) := by
  intro pins s σ H x y v u Q I rx ry h
  obtain ⟨f, dx, dy, p, sm, hx, hy, e, q⟩ := h
  have e : (isD dx dy).bind (fun c => v1 (.bool c)) = R.ok p := by
    rw [← e]
    cases dx <;> cases dy <;> rfl
  cases dy with
  | none =>
    have e2 : isD dx .none = .ok (decide (x = .non)) := by
      rw [hx.isN]
      cases dx <;> rfl
    rw [e2] at e
    cases e
    exact op_isN pins s σ H x y v u Q I rx ry ⟨hy.non, q.here sm (.bl _)⟩
  | bool b =>
    cases dx with
    | bool a =>
      cases e
      exact op_isBl pins s σ H x y v u Q I rx ry ⟨a, b, hx.bool, hy.bool, q.here sm (by rw [show decide (a = b) = (a == b) by cases a <;> cases b <;> rfl]; exact .bl _)⟩
    | _ => cases e
  | _ => cases dx <;> cases e
theorem op_isnA : OpR X (compareOp .IsNot) (rO2 X.K .isn) := by
  intro pins s σ H x y v u Q I rx ry h
  obtain ⟨f, dx, dy, p, sm, hx, hy, e, q⟩ := h
  have e : (isD dx dy).bind (fun c => v1 (.bool (!c))) = R.ok p := by
    rw [← e]
    cases dx <;> cases dy <;> rfl
  cases dy with
  | none =>
    have e2 : isD dx .none = .ok (decide (x = .non)) := by
      rw [hx.isN]
      cases dx <;> rfl
    rw [e2] at e
    cases e
    exact op_notN pins s σ H x y v u Q I rx ry ⟨hy.non, q.here sm (.bl _)⟩
  | bool b =>
    cases dx with
    | bool a =>
      cases e
      exact op_notBl pins s σ H x y v u Q I rx ry ⟨a, b, hx.bool, hy.bool, q.here sm (by rw [show decide (a = b) = (a == b) by cases a <;> cases b <;> rfl]; exact .bl _)⟩
    | _ => cases e
  | _ => cases dx <;> cases e
theorem op_inA (hu : X.A.units + 65 < cLine) : OpR X (compareOp .In) (rO2 X.K .inn) := by
  intro pins s σ H x y v u Q I rx ry h
  obtain ⟨f, dx, dy, p, sm, hx, hy, e, q⟩ := h
  cases dy with
  | list xs =>
    have e' : (if SeqAt.shaped dx = true ∧ SeqAt.shaped (.list xs) = true then v1 (.bool (xs.any fun z => z.eqv dx)) else .no) = R.ok p := by
      rw [← e]
      cases dx <;> rfl
    by_cases hz : SeqAt.shaped dx = true ∧ SeqAt.shaped (.list xs) = true
    · rw [if_pos hz] at e'
      cases e'
      exact op_inD hu pins s σ H x y v u Q I rx ry ⟨dx, xs, hx.dp sm, hy.dp sm, hz.1, hz.2, q.here sm (.bl _)⟩
    · rw [if_neg hz] at e'
      cases e'
  | _ => cases dx <;> cases e
theorem op_ninA (hu : X.A.units + 65 < cLine) : OpR X (compareOp .NotIn) (rO2 X.K .nin) := by
  intro pins s σ H x y v u Q I rx ry h
  obtain ⟨f, dx, dy, p, sm, hx, hy, e, q⟩ := h
  cases dy with
  | list xs =>
    have e' : (if SeqAt.shaped dx = true ∧ SeqAt.shaped (.list xs) = true then v1 (.bool (!xs.any fun z => z.eqv dx)) else .no) = R.ok p := by
      rw [← e]
      cases dx <;> rfl
    by_cases hz : SeqAt.shaped dx = true ∧ SeqAt.shaped (.list xs) = true
    · rw [if_pos hz] at e'
      cases e'
      exact op_notInD hu pins s σ H x y v u Q I rx ry ⟨dx, xs, hx.dp sm, hy.dp sm, hz.1, hz.2, q.here sm (.bl _)⟩
    · rw [if_neg hz] at e'
      cases e'
  | _ => cases dx <;> cases e
def binOf : O2 → Operator → Bool
  | .add, .Add => true
  | .sub, .Sub => true
  | .mul, .Mult => true
  | .fdiv, .FloorDiv => true
  | .mod, .Mod => true
  | .pow, .Pow => true
  | _, _ => false
def cmpOf : O2 → CmpOp → Bool
  | .eq, .Eq => true
  | .ne, .NotEq => true
  | .lt, .Lt => true
  | .le, .LtE => true
  | .gt, .Gt => true
  | .ge, .GtE => true
  | .is_, .Is => true
  | .isn, .IsNot => true
  | .inn, .In => true
  | .nin, .NotIn => true
  | _, _ => false
theorem op_bin {o : O2} {op : Operator} (hp : PyR X) (h : binOf o op = true) : OpR X (binaryOp op) (rO2 X.K o) := by
  cases o <;> cases op <;> first
    | (cases h; done)
    | exact op_addA
    | exact op_subA
    | exact op_mulA
    | exact op_fdivA hp
    | exact op_modA
    | exact op_powA
theorem op_cmp {o : O2} {op : CmpOp} (hu : X.A.units + 65 < cLine) (h : cmpOf o op = true) : OpR X (compareOp op) (rO2 X.K o) := by
  have hu' : X.A.units + 64 < cLine := Nat.lt_of_le_of_lt (Nat.add_le_add_left (by decide : 64 ≤ 65) _) hu
  cases o <;> cases op <;> first
    | (cases h; done)
    | exact op_eqA hu'
    | exact op_neA hu'
    | exact op_ltA
    | exact op_leA
    | exact op_gtA
    | exact op_geA
    | exact op_isA
    | exact op_isnA
    | exact op_inA hu
    | exact op_ninA hu
theorem ix_A : IxR X (rO2 X.K .idx) := by
  intro value slice pins s σ H x y v u Q I rx ry h hs
  obtain ⟨f, dx, dy, p, sm, hx, hy, e, q⟩ := h
  cases dx <;> cases dy <;> first
    | (cases e; done)
    | skip
  case list.int xs i =>
    have e' : (match atI xs i with | some d => v1 d | none => .no) = R.ok p := e
    cases z : atI xs i with
    | none => rw [z] at e'; cases e'
    | some d =>
      rw [z] at e'
      cases e'
      obtain ⟨a, vs, rfl, ha, ra⟩ := hx.list sm
      obtain ⟨w, hw, rw'⟩ := atI_all ra z
      exact ix_list value slice pins s σ H _ y v u Q I rx ry ⟨a, vs, i, w, rfl, hy.int, ha, hw, q.here sm rw'⟩ hs
  case tuple.int xs i =>
    have e' : (match atI xs i with | some d => v1 d | none => .no) = R.ok p := e
    cases z : atI xs i with
    | none => rw [z] at e'; cases e'
    | some d =>
      rw [z] at e'
      cases e'
      obtain ⟨a, vs, rfl, _, ha, ra⟩ := hx.tup sm
      obtain ⟨w, hw, rw'⟩ := atI_all ra z
      exact ix_tup value slice pins s σ H _ y v u Q I rx ry ⟨a, vs, i, w, rfl, hy.int, ha, hw, q.here sm rw'⟩ hs
/-- slices -/
def rSl (K : PySem.W.Frag) : V → Option Int → Option Int → Hp → VK → Prop := fun x lo hi H Q => ∃ f dx p, Same f H ∧ Vr K f H x dx ∧ semSl dx lo hi = .ok p ∧ Ac K f H Q p
theorem sl_A : SlR X (rSl X.K) := by
  intro pins s σ H x v vl vu lo hi sl Q I rx hs pl pu h
  obtain ⟨f, dx, p, sm, hx, e, q⟩ := h
  cases dx <;> first
    | (cases e; done)
    | skip
  case list xs =>
    cases e
    obtain ⟨a, vs, rfl, ha, ra⟩ := hx.list sm
    exact sl_list pins s σ H _ v vl vu lo hi sl Q I rx hs pl pu ⟨a, vs, rfl, ha, fun p hp => q.newL sm (ra.cut lo hi) hp⟩
  case tuple xs =>
    cases e
    obtain ⟨a, vs, rfl, hfa, ha, ra⟩ := hx.tup sm
    refine sl_tupA pins s σ H _ v vl vu lo hi sl Q I rx hs pl pu ⟨a, vs, rfl, ha, fun z => ?_, fun _ p hp => q.newT sm (ra.cut lo hi) hp⟩
    refine q.here sm ?_
    have e1 : cutL xs lo hi = xs := by
      unfold cutL
      rw [← ra.length, z.1, z.2]
      simp [ra.length]
    rw [e1]
    exact .tup hfa ra
/-- one-place operators and built-in calls -/
theorem un_A : UnR X (unaryOp .USub) (rO1 X.K .neg) := by
  intro pins s σ H x v Q I rx h
  obtain ⟨f, dx, p, sm, hx, e, q⟩ := h
  cases dx <;> first
    | (cases e; done)
    | skip
  case int i =>
    cases e
    exact un_neg pins s σ H x v Q I rx ⟨i, hx.int, q.here sm (.int _)⟩
def rB1 (K : PySem.W.Frag) (o : O1) : List V → Hp → VK → Prop := fun xs H Q => ∃ x, xs = [x] ∧ rO1 K o x H Q
def rB2 (K : PySem.W.Frag) (o : O2) : List V → Hp → VK → Prop := fun xs H Q => ∃ x y, xs = [x, y] ∧ rO2 K o x y H Q
theorem cr_intB : CallR X (.type "int") (rB1 X.K .intB) := by
  intro pins s σ H xs us Q I r h
  obtain ⟨x, rfl, f, dx, p, sm, hx, e, q⟩ := h
  cases dx <;> first
    | (cases e; done)
    | skip
  case bool b =>
    cases e
    exact call_int1 pins s σ H _ us Q I r (.inr ⟨b, by rw [hx.bool], q.here sm (.int _)⟩)
  case int i =>
    cases e
    exact call_int1 pins s σ H _ us Q I r (.inl ⟨i, by rw [hx.int], q.here sm (.int _)⟩)
theorem cr_abs : CallR X (.builtin "abs") (rB1 X.K .abs) := by
  intro pins s σ H xs us Q I r h
  obtain ⟨x, rfl, f, dx, p, sm, hx, e, q⟩ := h
  cases dx <;> first
    | (cases e; done)
    | skip
  case int i =>
    cases e
    exact call_abs pins s σ H _ us Q I r ⟨i, by rw [hx.int], q.here sm (.int _)⟩
theorem cr_len : CallR X (.builtin "len") (rB1 X.K .len) := by
  intro pins s σ H xs us Q I r h
  obtain ⟨x, rfl, f, dx, p, sm, hx, e, q⟩ := h
  cases dx <;> first
    | (cases e; done)
    | skip
  case list ds =>
    cases e
    obtain ⟨a, vs, rfl, ha, ra⟩ := hx.list sm
    exact call_len_seq pins s σ H _ us Q I r ⟨a, vs, rfl, .inl ha, q.here sm (by rw [ra.length]; exact .int _)⟩
  case tuple ds =>
    cases e
    obtain ⟨a, vs, rfl, _, ha, ra⟩ := hx.tup sm
    exact call_len_seq pins s σ H _ us Q I r ⟨a, vs, rfl, .inr ha, q.here sm (by rw [ra.length]; exact .int _)⟩
  case str z =>
    have e' : (if z.length ≤ line then v1 (.int z.length) else .no) = R.ok p := e
    by_cases hz : z.length ≤ line
    · rw [if_pos hz] at e'
      cases e'
      exact call_len_str pins s σ H _ us Q I r ⟨z, by rw [hx.str], by rw [← line_eq]; exact hz, q.here sm (.int _)⟩
    · rw [if_neg hz] at e'
      cases e'
theorem cr_listA : CallR X (.type "list") (rB1 X.K .list) := by
  intro pins s σ H xs us Q I r h
  obtain ⟨x, rfl, f, dx, p, sm, hx, e, q⟩ := h
  cases dx <;> first
    | (cases e; done)
    | skip
  case list ds =>
    cases e
    obtain ⟨a, vs, rfl, ha, ra⟩ := hx.list sm
    exact call_list_of pins s σ H _ us Q I r ⟨a, vs, rfl, .inl ha, fun l hl => q.newL sm ra hl⟩
  case tuple ds =>
    cases e
    obtain ⟨a, vs, rfl, _, ha, ra⟩ := hx.tup sm
    exact call_list_of pins s σ H _ us Q I r ⟨a, vs, rfl, .inr ha, fun l hl => q.newL sm ra hl⟩
theorem cr_tupleA : CallR X (.type "tuple") (rB1 X.K .tuple) := by
  intro pins s σ H xs us Q I r h
  obtain ⟨x, rfl, f, dx, p, sm, hx, e, q⟩ := h
  cases dx <;> first
    | (cases e; done)
    | skip
  case list ds =>
    cases e
    obtain ⟨a, vs, rfl, ha, ra⟩ := hx.list sm
    exact call_tuple_of pins s σ H _ us Q I r ⟨a, vs, rfl, .inl ⟨ha, fun l hl => q.newT sm ra hl⟩⟩
  case tuple ds =>
    cases e
    obtain ⟨a, vs, rfl, hfa, ha, ra⟩ := hx.tup sm
    exact call_tuple_of pins s σ H _ us Q I r ⟨a, vs, rfl, .inr ⟨ha, q.here sm (.tup hfa ra)⟩⟩
theorem allB_ok {K : PySem.W.Frag} {f : Hp} : ∀ {vs : List V} {ds : List D} {b : Bool}, DpAll K f vs ds → allB ds = .ok b → ∃ bs : List Bool, vs = bs.map V.bl ∧ b = bs.all id
  | _, _, _, .nil, e => by cases e; exact ⟨[], rfl, rfl⟩
  | _, _, b, .cons (d := d) (ds := ds) a t, e => by
    cases a with
    | bl c =>
      have e' : (allB ds).bind (fun k => .ok (c && k)) = R.ok b := e
      obtain ⟨k, e1, e2⟩ := R.of_bind e'
      obtain ⟨bs, rfl, rfl⟩ := allB_ok t e1
      cases e2
      exact ⟨c :: bs, rfl, rfl⟩
    | _ => cases e
theorem cr_allA (hc : X.calm = true) : CallR X (.builtin "all") (rB1 X.K .all) := by
  intro pins s σ H xs us Q I r h
  obtain ⟨x, rfl, f, dx, p, sm, hx, e, q⟩ := h
  cases dx <;> first
    | (cases e; done)
    | skip
  case list ds =>
    have e' : (allB ds).bind (fun b => v1 (.bool b)) = R.ok p := e
    obtain ⟨b, e1, e2⟩ := R.of_bind e'
    cases e2
    obtain ⟨a, vs, rfl, ha, ra⟩ := hx.list sm
    obtain ⟨bs, rfl, rfl⟩ := allB_ok ra e1
    exact cr_all hc pins s σ H _ us Q I r ⟨a, bs, rfl, ha, q.here sm (.bl _)⟩
theorem cr_strI : CallR X (.type "str") (rB1 X.K .strI) := by
  intro pins s σ H xs us Q I r h
  obtain ⟨x, rfl, f, dx, p, sm, hx, e, q⟩ := h
  cases dx <;> first
    | (cases e; done)
    | skip
  case int i =>
    have e' : (if i.natAbs.log2 < 1920 then v1 (.str (toString i)) else .no) = R.ok p := e
    by_cases hz : i.natAbs.log2 < 1920
    · rw [if_pos hz] at e'
      cases e'
      exact call_str_int pins s σ H _ us Q I r ⟨i, by rw [hx.int], hz, q.here sm (.str _)⟩
    · rw [if_neg hz] at e'
      cases e'
theorem cr_max2 (hc : X.calm = true) : CallR X (.builtin "max") (rB2 X.K .max2) := by
  intro pins s σ H xs us Q I r h
  obtain ⟨x, y, rfl, f, dx, dy, p, sm, hx, hy, e, q⟩ := h
  cases dx <;> cases dy <;> first
    | (cases e; done)
    | skip
  case int.int i j =>
    cases e
    exact call_max2 hc pins s σ H _ us Q I r ⟨i, j, by rw [hx.int, hy.int], q.here sm (.int _)⟩
theorem cr_min2 (hc : X.calm = true) : CallR X (.builtin "min") (rB2 X.K .min2) := by
  intro pins s σ H xs us Q I r h
  obtain ⟨x, y, rfl, f, dx, dy, p, sm, hx, hy, e, q⟩ := h
  cases dx <;> cases dy <;> first
    | (cases e; done)
    | skip
  case int.int i j =>
    cases e
    exact call_min2 hc pins s σ H _ us Q I r ⟨i, j, by rw [hx.int, hy.int], q.here sm (.int _)⟩
end
end AW

/-! AwExpr: what the small language's expressions reckon, the machine does. -/
namespace AW
open PySem PySem.Spec PyProof.Rows L2

/-! ### the defs and constants at hand -/
structure Lk where
  T : List Fn
  cons : List (Str × D)
  c : Nat → List Sl → R (D × Bool)
  lev : Nat
  cls : Nat → Value
  clsN : List Str
def Lk.G (L : Lk) (x : Nat) : D := ((L.cons[x]?).map (·.2)).getD .none
def dflT (T : List Fn) (j m : Nat) : List D := ((T[j]?).map fun g => g.dv m).getD []
abbrev Lk.ev (L : Lk) : E → En → R (D × Bool) := evF L.G L.c (dflT L.T)

/-! ### arguments -/
inductive ArgOk (K : PySem.W.Frag) (f H : Hp) : V → Sl → Prop where
  | va {v : V} {d : D} (h : Dp K f v d) : ArgOk K f H v (.va d)
  | rd {p : Addr} {vs : List V} {ds : List D} (hH : SqL K H p vs) (h : DpAll K f vs ds) : ArgOk K f H (.ref p) (.rd ds)
  | er {p : Addr} {c : Nat} (hH : H p = some (erO K c p)) : ArgOk K f H (.ref p) (.er c)
inductive ArgsOk (K : PySem.W.Frag) (f H : Hp) : List V → List Sl → Prop where
  | nil : ArgsOk K f H [] []
  | cons {v : V} {s : Sl} {vs : List V} {ss : List Sl} (h : ArgOk K f H v s) (t : ArgsOk K f H vs ss) : ArgsOk K f H (v :: vs) (s :: ss)
section
variable {K : PySem.W.Frag} {f H f' H' : Hp}
theorem ArgOk.mono {v : V} {s : Sl} (q : Po f H f' H') (h : ArgOk K f H v s) : ArgOk K f' H' v s := by
  cases h with
  | va h => exact .va (dp_same q.sf h)
  | rd hH h => exact .rd (sql_same q.sH hH) (dpa_same q.sf h)
  | er hH => exact .er (q.sH _ _ hH)
theorem ArgsOk.mono (q : Po f H f' H') : ∀ {vs : List V} {ss : List Sl}, ArgsOk K f H vs ss → ArgsOk K f' H' vs ss
  | _, _, .nil => .nil
  | _, _, .cons h t => .cons (h.mono q) (t.mono q)
theorem ArgsOk.length : ∀ {vs : List V} {ss : List Sl}, ArgsOk K f H vs ss → vs.length = ss.length
  | _, _, .nil => rfl
  | _, _, .cons _ t => congrArg Nat.succ t.length
theorem ArgsOk.append {us : List V} {ds : List D} (h2 : DpAll K f us ds) : ∀ {vs : List V} {ss : List Sl}, ArgsOk K f H vs ss → ArgsOk K f H (vs ++ us) (ss ++ ds.map .va)
  | _, _, .nil => by
    have go : ∀ {us : List V} {ds : List D}, DpAll K f us ds → ArgsOk K f H us (ds.map .va) := by
      intro us
      induction us with
      | nil => intro ds h; cases h; exact .nil
      | cons u us ih => intro ds h; cases h with | cons a t => exact .cons (.va a) (ih t)
    exact go h2
  | _, _, .cons h t => .cons h (t.append h2)
end

/-- a def's promise: it hands back what the table's function reckons -/
def Lk.sp (L : Lk) (K : PySem.W.Frag) (j : Nat) : Sp := fun vs H Q E => ∃ f ss, Same f H ∧ ArgsOk K f H vs ss ∧ (match L.c j ss with
  | .ok p => Ac K f H Q p
  | .ex k => ∀ f' H', Po f H f' H' → E (L.cls k) none H'
  | .no => False)

def blts : List Str := ["abs", "len", "list", "tuple", "all", "str", "max", "min", "range", "reversed", "enumerate", "zip", "isinstance", "int", "bool", "ValueError"]

/-! ### nobody looks on (for wide divisions) -/
def nsB (K : PySem.W.Frag) (a : Addr) (none_ : List Str) : Bool := match K.lookup a with
  | some ⟨_, _, .dict es _, _⟩ => es.toList.all (fun e => match e.key with
    | .str _ _ => true
    | _ => false) && none_.all fun x => (nsFind es x).isNone
  | _ => false
theorem nsB_ok {K : PySem.W.Frag} {h : Heap} {a : Addr} {xs : List Str} (X : K.In h) (c : nsB K a xs = true) : ∃ m, h.Ns a m ∧ ∀ x ∈ xs, m x = none := by
  unfold nsB at c
  cases q : K.lookup a with
  | none => rw [q] at c; cases c
  | some o =>
    obtain ⟨oc, od, dt, osl⟩ := o
    rw [q] at c
    cases dt with
    | dict es n =>
      obtain ⟨c1, c2⟩ := Bool.and_eq_true_iff.mp (show (es.toList.all (fun e => match e.key with
        | .str _ _ => true
        | _ => false) && xs.all fun x => (nsFind es x).isNone) = true from c)
      refine ⟨nsFind es, ⟨_, es, n, X _ _ q, rfl, fun e he => ?_, fun _ => rfl⟩, fun x hx => Option.isNone_iff_eq_none.mp (List.all_eq_true.mp c2 x hx)⟩
      have z := List.all_eq_true.mp c1 e (Array.mem_toList_iff.mpr he)
      obtain ⟨eh, ek, ev⟩ := e
      cases ek with
      | str y t => exact ⟨y, t, rfl⟩
      | _ => cases z
    | _ => cases c
def seeB (K : PySem.W.Frag) : Bool := nsB K cStatics ["sys.audit-hooks", "sys.dict"] && nsB K sysModules ["_pylong"] && (match PySem.W.nsIn K mainGlobals "__builtins__" with
  | some (some (.ref bm)) => (match K.lookup bm with
    | some ⟨.type c, some d, _, _⟩ => c == "module" && d == builtinsNs
    | _ => false)
  | _ => false)
theorem seeB_ok {K : PySem.W.Frag} {base : Heap} {mg : Str → Option Value} (c : seeB K = true) (M : Mod K mg base) : base.NoSeer := by
  obtain ⟨c, c3⟩ := Bool.and_eq_true_iff.mp c
  obtain ⟨c1, c2⟩ := Bool.and_eq_true_iff.mp c
  obtain ⟨mc, n1, a1⟩ := nsB_ok M.kin c1
  obtain ⟨mm, n2, a2⟩ := nsB_ok M.kin c2
  refine ⟨⟨mc, n1, a1 _ List.mem_cons_self, a1 _ (List.mem_cons_of_mem _ List.mem_cons_self)⟩, ⟨mm, n2, a2 _ List.mem_cons_self⟩, M.blt, ?_⟩
  cases e : PySem.W.nsIn K mainGlobals "__builtins__" with
  | none => rw [e] at c3; cases c3
  | some o =>
    rw [e] at c3
    cases o with
    | none => cases c3
    | some v =>
      cases v with
      | ref bm =>
        have c3 : (match K.lookup bm with
          | some ⟨.type c, some d, _, _⟩ => c == "module" && d == builtinsNs
          | _ => false) = true := c3
        cases q : K.lookup bm with
        | none => rw [q] at c3; cases c3
        | some ob =>
          obtain ⟨oc, od, dt, osl⟩ := ob
          rw [q] at c3
          cases oc with
          | type c =>
            cases od with
            | none => cases c3
            | some d =>
              obtain ⟨h1, h2⟩ := Bool.and_eq_true_iff.mp (show (c == "module" && d == builtinsNs) = true from c3)
              refine ⟨mg, bm, _, M.glob, PySem.W.mg_of M.kin M.glob e, M.kin _ _ q, congrArg Value.type (eq_of_beq h1), congrArg some (eq_of_beq h2)⟩
          | _ => cases od <;> cases c3
      | _ => cases c3

/-! ### the classes of errors -/
/-- what a class of errors must say, that isinstance asks its instances rightly -/
def ecB (K : PySem.W.Frag) (D : Addr) : Bool :=
  decide (PySem.W.findIn K (.ref D) "__getattribute__" = some (some (.builtin "BaseException.__getattribute__"))) && decide (PySem.W.findIn K (.ref D) "__getattr__" = some none) &&
  decide (PySem.W.subIn K (.ref D) (.type "BaseException") = some true) && PySem.W.hasDictIn K D && decide (PySem.W.findIn K (.ref D) "__class__" = some (some (.builtin "object.__class__"))) &&
  decide (PySem.W.specialIn K (.builtin "object.__class__") "__get__" = some (some (.builtin "getset_descriptor.__get__"))) && decide (PySem.W.takesIn K (.builtin "object.__class__") = some true) && decide (PySem.W.mroIn K D (.type "object") = some true)
theorem ecB_ok {K : PySem.W.Frag} {D : Addr} (h : ecB K D = true) : ExcC K D := by
  unfold ecB at h
  simp only [Bool.and_eq_true, decide_eq_true_eq] at h
  obtain ⟨⟨⟨⟨⟨⟨⟨h1, h2⟩, h3⟩, h4⟩, h5⟩, h6⟩, h7⟩, h8⟩ := h
  exact ⟨h1, h2, h3, h4, h5, h6, h7, h8⟩
def erB1 (K : PySem.W.Frag) (ns : List Str) (n : Str) : Bool := n == "" ||
  (ecB K (He.ga K n) && decide (PySem.W.kitOne K (.ref (He.ga K n)) (.type "ValueError") = some true) && decide (PySem.W.kitOne K (.type "NoneType") (.ref (He.ga K n)) = some false) &&
   decide (PySem.W.exmOne K (.ref (He.ga K n)) (.ref (He.ga K "AreaError")) = some true) &&
   ns.all fun m => m == "" || decide (PySem.W.kitOne K (.ref (He.ga K n)) (.ref (He.ga K m)) = some (n == m || m == "AreaError")))
def erB (K : PySem.W.Frag) (ns : List Str) : Bool := !ns.contains "AreaError" || ns.all (erB1 K ns)
structure LkOk (L : Lk) (P : Program) (w : World) (K : PySem.W.Frag) (mg : Str → Option Value) (base : Heap) : Prop where
  fn : ∀ (j : Nat) (g : Fn), L.T[j]? = some g → ∀ m, m ≤ g.dfl.length → ∃ (fa : Addr) (fd : FuncData) (dvs : List V) (ds : List Value), mg g.name = some (.ref fa) ∧ PySem.W.keepIn K (.ref fa) = true ∧
    FnOk P w K mg base (L2.CX P w) L.lev fa fd g.ps (L.sp K j) ∧ Vals dvs ds ∧ (∀ H, DpAll K H dvs (g.dv m)) ∧ Binds K fd g.ps ds
  con : ∀ (x : Nat) (n : Str) (d : D), L.cons[x]? = some (n, d) → ∃ (v : V) (u : Value), mg n = some u ∧ RelV v u ∧ ∀ H, Dp K H v d
  blt : ∀ n ∈ blts, mg n = none
  see : seeB K = true ∧ P.given.tree = none
  ga : ∀ (k : Nat) (n : Str), L.clsN[k]? = some n → n ≠ "" → L.cls k = .ref (He.ga K n) ∧ errN[k]? = some n
  er : erB K L.clsN = true
  exc : ∀ (k : Nat) (n : Str), L.clsN[k]? = some n → n ≠ "" → ∃ C : Addr, L.cls k = .ref C ∧ mg n = some (.ref C) ∧ PySem.W.excIn K C [.type "ValueError", .type "Exception", .type "BaseException", .type "object"] "ValueError.__new__" = true ∧
    PySem.W.keepIn K (.ref C) = true ∧ PySem.W.subIn K (.ref C) (.type "BaseException") = some true ∧ PySem.W.typeIn K (.ref C) = some (.type "type")

abbrev Nms := List (Str × NameKind)
def NmOk (X : Cx) (x : Str) : NameKind → Prop
  | .local => X.env.scope.names.lookup x = some .local
  | .cell => X.env.scope.names.lookup x = some .cell ∧ X.fn x = true
  | .free => X.env.scope.names.lookup x = some .cell ∨ X.env.scope.names.lookup x = some .free
  | .globalImplicit => Gl X x
  | _ => True
/-- where a piece of a def stands -/
structure XC (L : Lk) (N : List Str) (sc : Nms) (W : WX) (X : Cx) : Prop where
  lk : LkOk L X.prog X.w X.K X.mg X.base
  N : X.N = N
  nd : X.N.Nodup
  kind : X.env.scope.kind = .function
  nm : ∀ x k, sc.lookup x = some k → NmOk X x k
  calm : X.calm = true
  room : Room L.lev X.A
  tk : Takes X W
  py : PyR X

/-! ### readings -/
def Out (cls : Nat → Value) (W : WX) (σ : L2.St) (f H : Hp) {α : Type} (r : R α) (P : α → Prop) : Prop := match r with
  | .ok a => P a
  | .ex k => ∀ f' H', Po f H f' H' → W (cls k) none σ H'
  | .no => False
section
variable {cls : Nat → Value} {W : WX} {σ : L2.St} {f H f1 H1 : Hp} {α β : Type}
theorem Out.bind {r : R α} {g : α → R β} {P : β → Prop} (h : Out cls W σ f H (r.bind g) P) : Out cls W σ f H r fun a => Out cls W σ f H (g a) P := by
  cases r <;> exact h
theorem Out.imp {r : R α} {P P' : α → Prop} (h : Out cls W σ f H r P) (q : Po f H f1 H1) (hp : ∀ a, r = .ok a → P a → P' a) : Out cls W σ f1 H1 r P' := by
  cases r with
  | ok a => exact hp a rfl h
  | ex k => exact fun f' H' q' => h f' H' (q.trans q')
  | no => exact h
theorem Out.okk {r : R α} {P : α → Prop} (h : Out cls W σ f H r P) (hn : ∀ k, r ≠ .ex k) : ∃ a, r = .ok a ∧ P a := by
  cases r with
  | ok a => exact ⟨a, rfl, h⟩
  | ex k => exact absurd rfl (hn k)
  | no => exact h.elim
end
def W0 : WX := fun _ _ _ _ => False

section
variable (L : Lk) (K : PySem.W.Frag) (W : WX)
/-- as a value; read; as a truth -/
def dV (x : E) : TE := fun σ H Q => ∃ f0 H0 f en, Mt K f0 H0 f H σ en ∧ Out L.cls W σ f H (L.ev x en) (Ac K f H Q)
def dR (x : E) : TE := fun σ H Q => ∃ f0 H0 f en, Mt K f0 H0 f H σ en ∧ Out L.cls W σ f H (rd1 x en (L.ev x en)) fun d => ∀ v f' H', Po f H f' H' → Vr K f' H' v d → Q v H'
def dT (x : E) : TT := fun σ H Q => ∃ f0 H0 f en, Mt K f0 H0 f H σ en ∧ Out L.cls W σ f H (evT L.G L.c (dflT L.T) x en) fun b => ∀ f' H', Po f H f' H' → Q b H'
def dVs (es : Es) : TA := fun σ H Q => ∃ f0 H0 f en, Mt K f0 H0 f H σ en ∧ Out L.cls W σ f H (evs L.G L.c (dflT L.T) es en) fun ds => ∀ vs f' H', Po f H f' H' → DpAll K f' vs ds → Q vs H'
def dAs (es : Es) : TA := fun σ H Q => ∃ f0 H0 f en, Mt K f0 H0 f H σ en ∧ Out L.cls W σ f H (evAs L.G L.c (dflT L.T) es en) fun ss => ∀ vs f' H', Po f H f' H' → ArgsOk K f' H' vs ss → Q vs H'
def dA (x : E) : TE := fun σ H Q => ∃ f0 H0 f en, Mt K f0 H0 f H σ en ∧ Out L.cls W σ f H (arg1 x en (L.ev x en)) fun s => ∀ v f' H', Po f H f' H' → ArgOk K f' H' v s → Q v H'
def dO (x : Eo) : TO := fun σ H Q => ∃ f0 H0 f en, Mt K f0 H0 f H σ en ∧ Out L.cls W σ f H (evO L.G L.c (dflT L.T) x en) fun o => ∀ f' H', Po f H f' H' → Q o H'
end
/-- J walks the values ds, while f stands -/
structure Wk (K : PySem.W.Frag) (f : Hp) (J : L2.It) (ds : List D) : Prop where
  go : ∀ i H, Same f H → i < ds.length → J.go i H
  stop : ∀ H, Same f H → J.stop ds.length H
  yld : ∀ i H x H', i < ds.length → Same f H → J.yld i H x H' → ∃ d, ds[i]? = some d ∧ ∀ fc, Same f fc → Same fc H → ∃ f', Po fc H f' H' ∧ Dp K f' x d
section
variable (L : Lk) (K : PySem.W.Frag) (W : WX)
def dI (x : It) : TI := fun σ H Rr => ∃ f0 H0 f en, Mt K f0 H0 f H σ en ∧ Out L.cls W σ f H (evI L.G L.c (dflT L.T) x en) fun ds => ∀ J f' H', Po f H f' H' → Wk K f' J ds → Rr J H'
end

/-! ### the text's pieces against the small language's -/
def o1Fn : O1 → Option Str
  | .abs => some "abs"
  | .len => some "len"
  | .list => some "list"
  | .tuple => some "tuple"
  | .all => some "all"
  | .strI => some "str"
  | .intB => some "int"
  | .neg => none
def o2Fn : O2 → Option Str
  | .max2 => some "max"
  | .min2 => some "min"
  | _ => none
def glOk (sc : Nms) (x : Str) : Bool := sc.lookup x == some .globalImplicit && x != "__debug__" && x != "__name__"
def nmOk (N : List Str) (sc : Nms) (i : Nat) (x : Str) : Bool := N[i]? == some x && (sc.lookup x == some .local || sc.lookup x == some .cell || sc.lookup x == some .free) && x != "__debug__" && x != "__classdict__"
def locOk (N : List Str) (sc : Nms) (i : Nat) (x : Str) : Bool := N[i]? == some x && (sc.lookup x == some .local || sc.lookup x == some .cell)
def plainE : Expr → Bool
  | .Slice .. => false
  | .Starred .. => false
  | _ => true
def conOk : D → Const → Bool
  | .int i, .int j => i == j
  | .bool a, .bool b => a == b
  | .none, .none => true
  | .str x, .str y => x == y
  | _, _ => false
def tyName : Ty → Expr → Bool
  | .bi n, .Name x _ => x == Str.ofString n && (n == "int" || n == "bool" || n == "str" || n == "tuple" || n == "list")
  | _, _ => false
def tyGl (sc : Nms) : Ty → Bool
  | .bi n => glOk sc (Str.ofString n)
  | .ow _ => false
def teOk (cl : List Str) (sc : Nms) : Te → Expr → Bool
  | .ow c, .Name x _ => cl[c]? == some x && x != "" && x != "AreaError" && glOk sc x
  | .top, .Name x _ => x == "AreaError" && cl.contains x && glOk sc x
  | .ve, .Name x _ => x == "ValueError" && glOk sc x
  | _, _ => false
/-- classes that stand -/
def ksOk (cl : List Str) (ks : List Nat) : Bool := ks.all fun k => (cl[k]?).any fun (y : Str) => y != ""
def tesOk (cl : List Str) (sc : Nms) : List Te → List Expr → Bool
  | [], [] => true
  | t :: ts, e :: es => teOk cl sc t e && tesOk cl sc ts es
  | _, _ => false
def tysOk (sc : Nms) : List Ty → List Expr → Bool
  | [], [] => true
  | t :: ts, e :: es => tyName t e && tyGl sc t && tysOk sc ts es
  | _, _ => false
mutual
def tgSlots : Tg → List Nat
  | .nm i => [i]
  | .tp ts => tgsSlots ts
def tgsSlots : Tgs → List Nat
  | .nil => []
  | .cons t r => tgSlots t ++ tgsSlots r
end
mutual
def ckT (N : List Str) (sc : Nms) : Tg → Expr → Bool
  | .nm i, .Name x _ => locOk N sc i x
  | .tp ts, .Tuple es _ _ => ckTs N sc ts es
  | _, _ => false
def ckTs (N : List Str) (sc : Nms) : Tgs → List Expr → Bool
  | .nil, [] => true
  | .cons t r, e :: es => ckT N sc t e && ckTs N sc r es
  | _, _ => false
end
def blkOkB (N : List Str) (sc : Nms) (scope : Scope) (own : List (Str × Nat)) : Bool :=
  scope.kind == .function && scope.names.all (fun y => scope.names.lookup y.1 == some y.2) && own.all (fun p => N[p.2]? == some p.1) &&
  scope.names.all (fun y => y.2 != .free || sc.lookup y.1 == some .cell || sc.lookup y.1 == some .free) &&
  scope.names.all (fun y => !(y.2 == .local || y.2 == .cell) || own.any (fun p => p.1 == y.1) || !N.contains y.1)
def isTup : Expr → Bool
  | .Tuple .. => true
  | _ => false

mutual
def ckE (T : List Fn) (cs : List (Str × D)) (cl : List Str) (N : List Str) (sc : Nms) : E → Expr → Bool
  | .var i, e => (match e with
    | .Name x _ => nmOk N sc i x
    | _ => false)
  | .peek i, e => (match e with
    | .Name x _ => nmOk N sc i x
    | _ => false)
  | .con d, e => (match e with
    | .Constant c _ _ => conOk d c
    | _ => false)
  | .glb j, e => (match e with
    | .Name x _ => (cs[j]?).map (·.1) == some x && glOk sc x
    | _ => false)
  | .tup es, e => (match e with
    | .Tuple xs _ _ => ckEs T cs cl N sc es xs
    | _ => false)
  | .lst es, e => (match e with
    | .List xs _ => ckEs T cs cl N sc es xs
    | _ => false)
  | .rep es n, e => (match e with
    | .BinOp (.List xs _) .Mult b _ => ckEs T cs cl N sc es xs && ckE T cs cl N sc n b
    | _ => false)
  | .op1 o a, e => (match e with
    | .UnaryOp .USub b _ => (match o with | .neg => true | _ => false) && ckE T cs cl N sc a b
    | .Call (.Name f _) [b] [] _ => o1Fn o == some f && glOk sc f && ckE T cs cl N sc a b
    | _ => false)
  | .op2 o a b, e => (match e with
    | .BinOp l op r _ => binOf o op && ckE T cs cl N sc a l && ckE T cs cl N sc b r
    | .Compare l [op] [r] _ => cmpOf o op && !behindInMarks op r && ckE T cs cl N sc a l && ckE T cs cl N sc b r
    | .Subscript l r _ => (match o with | .idx => true | _ => false) && ckE T cs cl N sc a l && ckE T cs cl N sc b r && plainE r
    | .Call (.Name f _) [l, r] [] _ => o2Fn o == some f && glOk sc f && ckE T cs cl N sc a l && ckE T cs cl N sc b r
    | _ => false)
  | .chn o p a b c, e => (match e with
    | .Compare l [op, op'] [m, r] _ => cmpOf o op && cmpOf p op' && !lastMarks [op, op'] [m, r] && ckE T cs cl N sc a l && ckE T cs cl N sc b m && ckE T cs cl N sc c r
    | _ => false)
  | .and a b, e => (match e with
    | .BoolOp .And (l :: r :: []) _ => ckE T cs cl N sc a l && ckE T cs cl N sc b r
    | .BoolOp .And (l :: r :: q :: rest) p => ckE T cs cl N sc a l && ckE T cs cl N sc b (.BoolOp .And (r :: q :: rest) p)
    | _ => false)
  | .or a b, e => (match e with
    | .BoolOp .Or (l :: r :: []) _ => ckE T cs cl N sc a l && ckE T cs cl N sc b r
    | .BoolOp .Or (l :: r :: q :: rest) p => ckE T cs cl N sc a l && ckE T cs cl N sc b (.BoolOp .Or (r :: q :: rest) p)
    | _ => false)
  | .not a, e => (match e with
    | .UnaryOp .Not b _ => ckE T cs cl N sc a b
    | _ => false)
  | .ife t a b, e => (match e with
    | .IfExp t' a' b' _ => ckE T cs cl N sc t t' && ckE T cs cl N sc a a' && ckE T cs cl N sc b b'
    | _ => false)
  | .slc a lo hi, e => (match e with
    | .Subscript l (.Slice lo' hi' none _) _ => ckE T cs cl N sc a l && ckO T cs cl N sc lo lo' && ckO T cs cl N sc hi hi'
    | _ => false)
  | .revs a, e => (match e with
    | .Subscript l (.Slice none none (some (.UnaryOp .USub (.Constant (.int 1) _ _) _)) _) _ => ckE T cs cl N sc a l
    | _ => false)
  | .repE a n, e => (match e with
    | .BinOp l .Mult r _ => ckE T cs cl N sc a l && ckE T cs cl N sc n r
    | _ => false)
  | .call j es m, e => (match e with
    | .Call (.Name f _) (x :: xs) [] _ => (match T[j]? with
      | some g => g.name == f && decide (m ≤ g.dfl.length)
      | none => false) && glOk sc f && ckEs T cs cl N sc es (x :: xs)
    | _ => false)
  | .callv j es m, e => (match e with
    | .Call (.Name f _) (x :: xs) [] _ => (match T[j]? with
      | some g => g.name == f && decide (m ≤ g.dfl.length)
      | none => false) && glOk sc f && ckEs T cs cl N sc es (x :: xs)
    | _ => false)
  | .erv i, e => (match e with
    | .Name x _ => nmOk N sc i x
    | _ => false)
  | .isE i ks ts, e => (match e with
    | .Call (.Name f _) [.Name y _, .Tuple xs _ _] [] _ => f == "isinstance" && decide (ts.length ≤ 100) && glOk sc f && nmOk N sc i y && cl.contains "AreaError" && ksOk cl ks && tesOk cl sc ts xs
    | .Call (.Name f _) [.Name y _, .Name x p] [] _ => f == "isinstance" && glOk sc f && nmOk N sc i y && cl.contains "AreaError" && ksOk cl ks && tesOk cl sc ts [.Name x p]
    | _ => false)
  | .isN i g, e => (match e with
    | .Compare (.Name y _) [op] [.Constant .none _ _] _ => (match op with | .Is => !g | .IsNot => g | _ => false) && nmOk N sc i y
    | _ => false)
  | .isi a ts, e => (match e with
    | .Call (.Name f _) [b, .Tuple xs _ _] [] _ => f == "isinstance" && decide (ts.length ≤ 100) && glOk sc f && ckE T cs cl N sc a b && tysOk sc ts xs
    | .Call (.Name f _) [b, .Name x p] [] _ => f == "isinstance" && glOk sc f && ckE T cs cl N sc a b && tysOk sc ts [.Name x p]
    | _ => false)
  | .cmp elt tg it ifs own, e => (match e with
    | .ListComp elt' [⟨tg', it', ifs', 0⟩] scope _ => ckI T cs cl N sc it it' (isTup tg') && blkOkB N sc scope own && ckT N scope.names tg tg' && (tgSlots tg).all (fun i => (own.map (·.2)).contains i) &&
        ckIf T cs cl N scope.names ifs ifs' && ckE T cs cl N scope.names elt elt'
    | _ => false)
def ckEs (T : List Fn) (cs : List (Str × D)) (cl : List Str) (N : List Str) (sc : Nms) : Es → List Expr → Bool
  | .nil, xs => xs.isEmpty
  | .cons e r, xs => (match xs with
    | x :: xs => ckE T cs cl N sc e x && ckEs T cs cl N sc r xs
    | [] => false)
def ckO (T : List Fn) (cs : List (Str × D)) (cl : List Str) (N : List Str) (sc : Nms) : Eo → Option Expr → Bool
  | .none, x => x.isNone
  | .some e, x => (match x with
    | some x => ckE T cs cl N sc e x
    | none => false)
def ckIf (T : List Fn) (cs : List (Str × D)) (cl : List Str) (N : List Str) (sc : Nms) : Eo → List Expr → Bool
  | .none, x => x.isEmpty
  | .some e, x => (match x with
    | [x] => ckE T cs cl N sc e x
    | _ => false)
def ckI (T : List Fn) (cs : List (Str × D)) (cl : List Str) (N : List Str) (sc : Nms) : It → Expr → Bool → Bool
  | .seq a, e, _ => ckE T cs cl N sc a e
  | .rng1 a, e, _ => (match e with
    | .Call (.Name f _) [b] [] _ => f == "range" && glOk sc f && ckE T cs cl N sc a b
    | _ => false)
  | .rng2 a b, e, _ => (match e with
    | .Call (.Name f _) [x, y] [] _ => f == "range" && glOk sc f && ckE T cs cl N sc a x && ckE T cs cl N sc b y
    | _ => false)
  | .rng3 a b c, e, _ => (match e with
    | .Call (.Name f _) [x, y, z] [] _ => f == "range" && glOk sc f && ckE T cs cl N sc a x && ckE T cs cl N sc b y && ckE T cs cl N sc c z
    | _ => false)
  | .rev a, e, _ => (match e with
    | .Call (.Name f _) [b] [] _ => f == "reversed" && glOk sc f && ckE T cs cl N sc a b
    | _ => false)
  | .revr a, e, _ => (match e with
    | .Call (.Name f _) [.Call (.Name g _) [b] [] _] [] _ => f == "reversed" && g == "range" && glOk sc f && glOk sc g && ckE T cs cl N sc a b
    | _ => false)
  | .enum a, e, tt => (match e with
    | .Call (.Name f _) [b] [] _ => tt && f == "enumerate" && glOk sc f && ckE T cs cl N sc a b
    | _ => false)
  | .zip a b, e, tt => (match e with
    | .Call (.Name f _) [x, y] [] _ => tt && f == "zip" && glOk sc f && ckE T cs cl N sc a x && ckE T cs cl N sc b y
    | _ => false)
end
end AW

/-! AwSound: the soundness of the expressions' checks. -/
namespace AW
open PySem PySem.Spec PyProof.Rows L2

theorem PE.imp {X : Cx} {e : Expr} {t t' : TE} (h : PE X e t) (q : ∀ σ H Q, t' σ H Q → t σ H Q) : PE X e t' := ⟨fun pins s σ H Q I z => h.run pins s σ H Q I (q _ _ _ z)⟩
theorem PT.imp {X : Cx} {e : Expr} {t t' : TT} (h : PT X e t) (q : ∀ σ H Q, t' σ H Q → t σ H Q) : PT X e t' := ⟨fun pins s σ H Q I z => h.run pins s σ H Q I (q _ _ _ z)⟩
theorem PA.imp {X : Cx} {e : List Expr} {t t' : TA} (h : PA X e t) (q : ∀ σ H Q, t' σ H Q → t σ H Q) : PA X e t' := ⟨fun pos pins s σ H Q I z => h.run pos pins s σ H Q I (q _ _ _ z)⟩
theorem PO.imp {X : Cx} {e : Option Expr} {t t' : TO} (h : PO X e t) (q : ∀ σ H Q, t' σ H Q → t σ H Q) : PO X e t' := ⟨fun pins s σ H Q I z => h.run pins s σ H Q I (q _ _ _ z)⟩
theorem PI.imp {X : Cx} {tg e : Expr} {t t' : TI} (h : PI X tg e t) (q : ∀ σ H Q, t' σ H Q → t σ H Q) : PI X tg e t' := ⟨fun pins s σ H Q I z => h.run pins s σ H Q I (q _ _ _ z)⟩
theorem PI.or {X : Cx} {tg e : Expr} {t t' : TI} (h : PI X tg e t) (h' : PI X tg e t') : PI X tg e (fun σ H R => t σ H R ∨ t' σ H R) := ⟨fun pins s σ H Q I z => z.elim (fun z => h.run pins s σ H Q I z) fun z => h'.run pins s σ H Q I z⟩
theorem PG.imp {X : Cx} {e : Expr} {t t' : TG} (h : PG X e t) (q : ∀ v σ H Q, t' v σ H Q → t v σ H Q) : PG X e t' := ⟨fun pins s σ H v u Q I r z => h.run pins s σ H v u Q I r (q _ _ _ _ z)⟩
theorem PG.or {X : Cx} {e : Expr} {t t' : TG} (h : PG X e t) (h' : PG X e t') : PG X e (fun v σ H Q => t v σ H Q ∨ t' v σ H Q) := ⟨fun pins s σ H v u Q I r z => z.elim (fun z => h.run pins s σ H v u Q I r z) fun z => h'.run pins s σ H v u Q I r z⟩
theorem PGs.imp {X : Cx} {e : List Expr} {t t' : TGs} (h : PGs X e t) (q : ∀ v σ H Q, t' v σ H Q → t v σ H Q) : PGs X e t' := ⟨fun pins s σ H v u Q I r z => h.run pins s σ H v u Q I r (q _ _ _ _ z)⟩
theorem PS.imp {X : Cx} {e : Stmt} {t t' : TS} (h : PS X e t) (q : ∀ D σ H, t' D σ H → t D σ H) : PS X e t' := ⟨fun pins s σ H D I z => h.run pins s σ H D I (q _ _ _ z)⟩
theorem PSs.imp {X : Cx} {e : List Stmt} {t t' : TS} (h : PSs X e t) (q : ∀ D σ H, t' D σ H → t D σ H) : PSs X e t' := ⟨fun pins s σ H D I z => h.run pins s σ H D I (q _ _ _ z)⟩

/-! ### no errors out of operators -/
theorem v1_noex {d : D} {k : Nat} : v1 d ≠ .ex k := fun h => by cases h
theorem ite_noex {α : Type} {c : Prop} [Decidable c] {a b : R α} (ha : ∀ k, a ≠ .ex k) (hb : ∀ k, b ≠ .ex k) (k : Nat) : (if c then a else b) ≠ .ex k := by
  by_cases h : c
  · rw [if_pos h]; exact ha k
  · rw [if_neg h]; exact hb k
theorem ok_noex {α : Type} {a : α} (k : Nat) : (R.ok a) ≠ .ex k := fun h => by cases h
theorem no_noex {α : Type} (k : Nat) : (R.no : R α) ≠ .ex k := fun h => by cases h
theorem bind_noex {α β : Type} {r : R α} {g : α → R β} (h1 : ∀ k, r ≠ .ex k) (h2 : ∀ a k, g a ≠ .ex k) (k : Nat) : r.bind g ≠ .ex k := by
  cases r with
  | ok a => exact h2 a k
  | ex c => exact absurd rfl (h1 c)
  | no => exact no_noex k
theorem isD_noex : ∀ (a b : D) (k : Nat), isD a b ≠ .ex k := fun a b k h => by cases a <;> cases b <;> cases h
theorem atD_noex (xs : List D) (i : Int) (k : Nat) : atD xs i ≠ .ex k := by
  unfold atD
  cases atI xs i with
  | none => exact no_noex k
  | some d => exact v1_noex
theorem sem2_noex (o : O2) (a b : D) (k : Nat) : sem2 o a b ≠ .ex k := by
  cases o <;> cases a <;> cases b <;> first
    | exact no_noex k
    | exact v1_noex
    | exact atD_noex _ _ k
    | exact ite_noex (fun _ => v1_noex) no_noex k
    | exact ite_noex ok_noex no_noex k
    | exact ite_noex no_noex (ite_noex (fun _ => v1_noex) no_noex) k
    | exact ite_noex no_noex (fun _ => v1_noex) k
    | exact bind_noex (isD_noex _ _) (fun _ _ => v1_noex) k
theorem allB_noex : ∀ (ds : List D) (k : Nat), allB ds ≠ .ex k
  | [], k => ok_noex k
  | .bool b :: r, k => bind_noex (allB_noex r) (fun _ => ok_noex) k
  | .none :: _, k => no_noex k
  | .int _ :: _, k => no_noex k
  | .str _ :: _, k => no_noex k
  | .list _ :: _, k => no_noex k
  | .tuple _ :: _, k => no_noex k
  | .dict _ :: _, k => no_noex k
theorem sem1_noex (o : O1) (a : D) (k : Nat) : sem1 o a ≠ .ex k := by
  cases o <;> cases a <;> first
    | exact no_noex k
    | exact v1_noex
    | exact ok_noex k
    | exact ite_noex (fun _ => v1_noex) no_noex k
    | exact bind_noex (allB_noex _) (fun _ _ => v1_noex) k
theorem semSl_noex (a : D) (l h : Option Int) (k : Nat) : semSl a l h ≠ .ex k := by
  cases a <;> first
    | exact no_noex k
    | exact v1_noex
    | exact ok_noex k
theorem truR_noex (a : D) (k : Nat) : truR a ≠ .ex k := by
  cases a <;> first
    | exact no_noex k
    | exact ok_noex k
    | exact ite_noex ok_noex no_noex k
theorem intR_noex (a : D) (k : Nat) : intR a ≠ .ex k := by cases a <;> first | exact no_noex k | exact ok_noex k
theorem seqR_noex (a : D) (k : Nat) : seqR a ≠ .ex k := by cases a <;> first | exact no_noex k | exact ok_noex k
theorem rngR_noex (i j : Int) (k : Nat) : rngR i j ≠ .ex k := ite_noex ok_noex no_noex k
theorem zipR_noex (a b : D) (k : Nat) : zipR a b ≠ .ex k := by cases a <;> cases b <;> first | exact no_noex k | exact ok_noex k

/-! ### names -/
theorem str_beq {a b : Str} (h : (a == b) = true) : a = b := eq_of_beq h
theorem bne_false {a b : Str} (h : (a != b) = true) : (a == b) = false := by
  cases e : (a == b) with
  | false => rfl
  | true => rw [bne, e] at h; cases h
theorem bne_ne {a b : Str} (h : (a != b) = true) : a ≠ b := fun e => by
  subst e
  rw [bne, beq_self_eq_true] at h
  cases h
section
variable {L : Lk} {N : List Str} {sc : Nms} {W : WX} {X : Cx}
theorem gl_of (xc : XC L N sc W X) {x : Str} (h : glOk sc x = true) : Gl X x ∧ (x == ("__debug__" : Str)) = false ∧ x ≠ "__name__" := by
  unfold glOk at h
  simp only [Bool.and_eq_true] at h
  exact ⟨xc.nm x _ (eq_of_beq h.1.1), bne_false h.1.2, bne_ne h.2⟩
theorem blt_of (xc : XC L N sc W X) {x : Str} (h : x ∈ blts) : X.mg x = none := xc.lk.blt x h
theorem vis_of (xc : XC L N sc W X) {i : Nat} {x : Str} (h : nmOk N sc i x = true) : X.N[i]? = some x ∧ Vis X.env.scope x ∧ (x == ("__debug__" : Str)) = false ∧ (x == ("__classdict__" : Str)) = false := by
  unfold nmOk at h
  simp only [Bool.and_eq_true, Bool.or_eq_true] at h
  obtain ⟨⟨⟨h1, h2⟩, h3⟩, h4⟩ := h
  refine ⟨by rw [xc.N]; exact eq_of_beq h1, ?_, bne_false h3, bne_false h4⟩
  rcases h2 with (h2 | h2) | h2
  · exact .inl (xc.nm x _ (eq_of_beq h2))
  · exact .inr (.inl (xc.nm x _ (eq_of_beq h2)).1)
  · rcases xc.nm x _ (eq_of_beq h2) with k | k
    · exact .inr (.inl k)
    · exact .inr (.inr k)
theorem loc_of (xc : XC L N sc W X) {i : Nat} {x : Str} (h : locOk N sc i x = true) : X.N[i]? = some x ∧ Loc X.env.scope x ∧ (X.fn x = true ∨ X.env.scope.names.lookup x = some .local) := by
  unfold locOk at h
  simp only [Bool.and_eq_true, Bool.or_eq_true] at h
  obtain ⟨h1, h2⟩ := h
  refine ⟨by rw [xc.N]; exact eq_of_beq h1, ?_⟩
  rcases h2 with h2 | h2
  · exact ⟨.inl (xc.nm x _ (eq_of_beq h2)), .inr (xc.nm x _ (eq_of_beq h2))⟩
  · exact ⟨.inr (xc.nm x _ (eq_of_beq h2)).1, .inl (xc.nm x _ (eq_of_beq h2)).2⟩
theorem XC.units (xc : XC L N sc W X) : X.A.units + 65 < cLine := by
  have := xc.room.un
  omega

/-! ### targets -/
/-- a value is bound to a target -/
def gD (K : PySem.W.Frag) (tg : Tg) : TG := fun v σ H Q => ∃ f0 H0 f en d en', Mt K f0 H0 f H σ en ∧ Dp K f v d ∧ bindT tg d en = .ok en' ∧
  ∀ σ', Mt K f0 H0 f H σ' en' → (∀ vs, (∀ i ∈ tgSlots tg, i ∈ vs) → L2.wipe σ' vs = L2.wipe σ vs) → Q σ' H
def gDs (K : PySem.W.Frag) (ts : Tgs) : TGs := fun vs σ H Q => ∃ f0 H0 f en ds en', Mt K f0 H0 f H σ en ∧ DpAll K f vs ds ∧ bindTs ts ds en = .ok en' ∧
  ∀ σ', Mt K f0 H0 f H σ' en' → (∀ vs, (∀ i ∈ tgsSlots ts, i ∈ vs) → L2.wipe σ' vs = L2.wipe σ vs) → Q σ' H
theorem wipe_set {σ : L2.St} {i : Nat} {o : Option V} : ∀ {vs : List Nat}, i ∈ vs → L2.wipe (σ.set i o) vs = L2.wipe σ vs
  | v :: vs, h => by
    unfold L2.wipe
    by_cases hv : i ∈ vs
    · rw [wipe_set hv]
    · have e : i = v := by
        rcases List.mem_cons.mp h with h | h
        · exact h
        · exact absurd h hv
      subst e
      clear h hv
      have go : ∀ (ws : List Nat), (L2.wipe (σ.set i o) ws).set i none = (L2.wipe σ ws).set i none := by
        intro ws
        induction ws with
        | nil => show (σ.set i o).set i none = σ.set i none; exact List.set_set ..
        | cons w ws ih =>
          show ((L2.wipe (σ.set i o) ws).set w none).set i none = ((L2.wipe σ ws).set w none).set i none
          by_cases hw : w = i
          · subst hw; rw [List.set_set, List.set_set]; exact ih
          · rw [List.set_comm _ _ hw, ih, List.set_comm _ _ (Ne.symm hw)]
      exact go vs
theorem ck_assign {N : List Str} {sc : Nms} : ∀ {ts : Tgs} {es : List Expr}, ckTs N sc ts es = true → (assignEach es X.env).findIdx? (·.1) = none ∧ (assignEach es X.env).length = es.length
  | .nil, [], _ => ⟨rfl, rfl⟩
  | .nil, _ :: _, h => by cases h
  | .cons t r, [], h => by cases h
  | .cons t r, e :: es, h => by
    have h' : (ckT N sc t e && ckTs N sc r es) = true := h
    rw [Bool.and_eq_true] at h'
    obtain ⟨i1, i2⟩ := ck_assign h'.2
    have z : ∃ a, assignEach (e :: es) X.env = (false, a) :: assignEach es X.env := by
      cases e <;> first
        | exact ⟨_, rfl⟩
        | (have z := h'.1; cases t <;> cases z)
    obtain ⟨a, z⟩ := z
    rw [z]
    refine ⟨?_, by rw [List.length_cons, List.length_cons, i2]⟩
    rw [List.findIdx?_cons, i1]
    rfl
theorem ck_assign1 {N : List Str} {sc : Nms} {t : Tg} {e : Expr} (h : ckT N sc t e = true) (es : List Expr) : (assignEach (e :: es) X.env).map (·.2) = assign e X.env :: (assignEach es X.env).map (·.2) := by
  cases e <;> first
    | rfl
    | (cases t <;> cases h)
theorem ckTs_len {N : List Str} {sc : Nms} : ∀ {ts : Tgs} {es : List Expr}, ckTs N sc ts es = true → ∀ {ds : List D} {en en' : En}, bindTs ts ds en = .ok en' → ds.length = es.length
  | .nil, [], _, [], _, _, _ => rfl
  | .nil, [], _, _ :: _, _, _, e => by cases e
  | .nil, _ :: _, h, _, _, _, _ => by cases h
  | .cons t r, [], h, _, _, _, _ => by cases h
  | .cons t r, e :: es, h, [], _, _, z => by cases z
  | .cons t r, e :: es, h, d :: ds, en, en', z => by
    have h' : (ckT N sc t e && ckTs N sc r es) = true := h
    rw [Bool.and_eq_true] at h'
    have z' : (bindT t d en).bind (fun e1 => bindTs r ds e1) = .ok en' := z
    obtain ⟨e1, _, z2⟩ := R.of_bind z'
    rw [List.length_cons, List.length_cons, ckTs_len h'.2 z2]
mutual
theorem sTg (xc : XC L N sc W X) : ∀ (tg : Tg) (e : Expr), ckT N sc tg e = true → PG X e (gD X.K tg)
  | .nm i, e, h => by
    cases e with
    | Name x p =>
      obtain ⟨h1, h2, h3⟩ := loc_of xc h
      refine PG.imp (pg_name xc.nd h1 h2 h3) fun v σ H Q q => ?_
      obtain ⟨f0, H0, f, en, d, en', m, hd, hb, k⟩ := q
      have hb' : R.ok (en.set i (.va d)) = R.ok en' := hb
      cases hb'
      exact k _ (m.setV hd) fun vs hv => wipe_set (hv i (List.mem_singleton.mpr rfl))
    | _ => cases h
  | .tp ts, e, h => by
    cases e with
    | Tuple es k p =>
      have h' : ckTs N sc ts es = true := h
      obtain ⟨a1, a2⟩ := ck_assign (X := X) h'
      have ih := sTgs xc ts es h'
      refine PG.imp (PG.or (pg_tup (n := es.length) xc.calm ih a2 a1) (pg_unl (n := es.length) xc.calm ih a2 a1)) fun v σ H Q q => ?_
      obtain ⟨f0, H0, f, en, d, en', m, hd, hb, kq⟩ := q
      cases d with
      | tuple ds =>
        have hb' : bindTs ts ds en = .ok en' := hb
        cases hd with
        | tup hs ha => exact .inl ⟨_, _, rfl, sqt_same m.po.sub hs, by rw [ha.length]; exact ckTs_len h' hb', f0, H0, f, en, ds, en', m, ha, hb', kq⟩
      | list ds =>
        have hb' : bindTs ts ds en = .ok en' := hb
        cases hd with
        | lst hs ha => exact .inr ⟨_, _, rfl, sql_same m.po.sub hs, by rw [ha.length]; exact ckTs_len h' hb', f0, H0, f, en, ds, en', m, ha, hb', kq⟩
      | _ => cases hb
    | _ => cases h
theorem sTgs (xc : XC L N sc W X) : ∀ (ts : Tgs) (es : List Expr), ckTs N sc ts es = true → PGs X es (gDs X.K ts)
  | .nil, es, h => by
    cases es with
    | nil =>
      refine PGs.imp pgs_nil fun vs σ H Q q => ?_
      obtain ⟨f0, H0, f, en, ds, en', m, hd, hb, k⟩ := q
      cases ds with
      | nil =>
        have hb' : R.ok en = R.ok en' := hb
        cases hb'
        cases hd
        exact ⟨rfl, k _ m fun _ _ => rfl⟩
      | cons d ds => cases hb
    | cons e es => cases h
  | .cons t r, es, h => by
    cases es with
    | nil => cases h
    | cons e es =>
      have h' : (ckT N sc t e && ckTs N sc r es) = true := h
      rw [Bool.and_eq_true] at h'
      refine PGs.imp (pgs_cons (sTg xc t e h'.1) (sTgs xc r es h'.2) (ck_assign1 h'.1 es)) fun vs σ H Q q => ?_
      obtain ⟨f0, H0, f, en, ds, en', m, hd, hb, k⟩ := q
      cases hd with
      | nil => cases hb
      | cons a b =>
        have hb' : (bindT t _ en).bind (fun e1 => bindTs r _ e1) = .ok en' := hb
        obtain ⟨e1, z1, z2⟩ := R.of_bind hb'
        refine ⟨_, _, rfl, f0, H0, f, en, _, e1, m, a, z1, fun σ1 m1 w1 => ⟨f0, H0, f, e1, _, en', m1, b, z2, fun σ2 m2 w2 => k σ2 m2 fun vs hv => ?_⟩⟩
        rw [w2 vs fun i hi => hv i (List.mem_append_right _ hi), w1 vs fun i hi => hv i (List.mem_append_left _ hi)]
end
end
end AW

/-! AwSnd2: readings of the expressions. -/
namespace AW
open PySem PySem.Spec PyProof.Rows L2

section
variable {L : Lk} {N : List Str} {sc : Nms} {W : WX} {X : Cx} {K : PySem.W.Frag}

/-! ### a value, read -/
theorem rd1_ok {x : E} {en : En} {G c d} {p : D × Bool} (h : evF G c d x en = .ok p) : rd1 x en (evF G c d x en) = .ok p.1 := by
  cases x <;> first
    | (rw [h]; rfl)
    | cases h
theorem rd1_bind {x : E} {en : En} {r : R (D × Bool)} (h : ∀ i, x ≠ .peek i) : rd1 x en r = r.bind fun p => .ok p.1 := by
  cases x <;> first
    | rfl
    | exact absurd rfl (h _)
theorem arg1_bind {x : E} {en : En} {r : R (D × Bool)} (h : ∀ i, x ≠ .peek i) (h' : ∀ i, x ≠ .erv i) : arg1 x en r = r.bind fun p => .ok (.va p.1) := by
  cases x <;> first
    | rfl
    | exact absurd rfl (h _)
    | exact absurd rfl (h' _)
theorem dR_dV {x : E} (hx : ∀ i, x ≠ .peek i) {σ H Q} (h : dR L K W x σ H Q) : dV L K W x σ H Q := by
  obtain ⟨f0, H0, f, en, m, o⟩ := h
  rw [rd1_bind hx] at o
  exact ⟨f0, H0, f, en, m, o.bind.imp (Po.refl m.po.sub) fun p _ k v f' H' q hv => k v f' H' q hv.read⟩
theorem dA_dV {x : E} (hx : ∀ i, x ≠ .peek i) (hy : ∀ i, x ≠ .erv i) {σ H Q} (h : dA L K W x σ H Q) : dV L K W x σ H Q := by
  obtain ⟨f0, H0, f, en, m, o⟩ := h
  rw [arg1_bind hx hy] at o
  refine ⟨f0, H0, f, en, m, o.bind.imp (Po.refl m.po.sub) fun p _ k v f' H' q hv => ?_⟩
  obtain ⟨f'', q', hv'⟩ := hv.settle q
  exact k v f'' H' q' (.va hv')
theorem peekR {i : Nat} {σ H Q} (h : dR L K W (.peek i) σ H Q) : tVar i σ H Q := by
  obtain ⟨f0, H0, f, en, m, o⟩ := h
  have o' : Out L.cls W σ f H (match en[i]? with | some (.ow ds) => R.ok (PyData.list ds) | some (.rd ds) => R.ok (PyData.list ds) | _ => R.no) fun d => ∀ v f' H', Po f H f' H' → Vr K f' H' v d → Q v H' := o
  cases e : en[i]? with
  | none => rw [e] at o'; exact o'.elim
  | some s =>
    rw [e] at o'
    cases s with
    | ow ds =>
      obtain ⟨p, vs, e1, _, _, hH, ha⟩ := m.ow e
      exact ⟨_, e1, o' _ f H (Po.refl m.po.sub) (.inr ⟨ds, p, vs, rfl, rfl, .inl (.inl hH), ha⟩)⟩
    | rd ds =>
      obtain ⟨p, vs, e1, hH, ha⟩ := m.rd e
      exact ⟨_, e1, o' _ f H (Po.refl m.po.sub) (.inr ⟨ds, p, vs, rfl, rfl, sql_same m.po.sH hH, ha⟩)⟩
    | un => exact o'.elim
    | va d => exact o'.elim
    | er d => exact o'.elim
theorem peekA {i : Nat} {σ H Q} (h : dA L K W (.peek i) σ H Q) : tVar i σ H Q := by
  obtain ⟨f0, H0, f, en, m, o⟩ := h
  have o' : Out L.cls W σ f H (match en[i]? with | some (.ow ds) => R.ok (Sl.rd ds) | some (.rd ds) => R.ok (Sl.rd ds) | _ => R.no) fun s => ∀ v f' H', Po f H f' H' → ArgOk K f' H' v s → Q v H' := o
  cases e : en[i]? with
  | none => rw [e] at o'; exact o'.elim
  | some s =>
    rw [e] at o'
    cases s with
    | ow ds =>
      obtain ⟨p, vs, e1, _, _, hH, ha⟩ := m.ow e
      exact ⟨_, e1, o' _ f H (Po.refl m.po.sub) (.rd (.inl (.inl hH)) ha)⟩
    | rd ds =>
      obtain ⟨p, vs, e1, hH, ha⟩ := m.rd e
      exact ⟨_, e1, o' _ f H (Po.refl m.po.sub) (.rd (sql_same m.po.sH hH) ha)⟩
    | un => exact o'.elim
    | va d => exact o'.elim
    | er d => exact o'.elim
theorem ervA {i : Nat} {σ H Q} (h : dA L K W (.erv i) σ H Q) : tVar i σ H Q := by
  obtain ⟨f0, H0, f, en, m, o⟩ := h
  have o' : Out L.cls W σ f H (match en[i]? with | some (.er c) => R.ok (Sl.er c) | some (.va .none) => R.ok (Sl.va .none) | _ => R.no) fun s => ∀ v f' H', Po f H f' H' → ArgOk K f' H' v s → Q v H' := o
  cases e : en[i]? with
  | none => rw [e] at o'; exact o'.elim
  | some s =>
    rw [e] at o'
    cases s with
    | er c =>
      obtain ⟨p, e1, hH⟩ := m.er e
      exact ⟨_, e1, o' _ f H (Po.refl m.po.sub) (.er hH)⟩
    | va d =>
      cases d with
      | none =>
        obtain ⟨v, e1, hd⟩ := m.va e
        exact ⟨_, e1, o' _ f H (Po.refl m.po.sub) (.va hd)⟩
      | _ => exact o'.elim
    | un => exact o'.elim
    | ow d => exact o'.elim
    | rd d => exact o'.elim
theorem noerv_of {T : List Fn} {cs : List (Str × D)} {cl : List Str} {x : E} {e : Expr} (h : ckE T cs cl N sc x e = true) : (∃ i a p, x = .erv i ∧ e = .Name a p ∧ nmOk N sc i a = true) ∨ ∀ i, x ≠ .erv i := by
  cases x with
  | erv i =>
    cases e <;> first
      | exact .inl ⟨_, _, _, rfl, rfl, h⟩
      | cases h
  | _ => exact .inr fun _ z => by cases z
theorem nopeek_of {T : List Fn} {cs : List (Str × D)} {cl : List Str} {x : E} {e : Expr} (h : ckE T cs cl N sc x e = true) : (∃ i a p, x = .peek i ∧ e = .Name a p ∧ nmOk N sc i a = true) ∨ ∀ i, x ≠ .peek i := by
  cases x with
  | peek i =>
    cases e <;> first
      | exact .inl ⟨_, _, _, rfl, rfl, h⟩
      | cases h
  | _ => exact .inr fun _ z => by cases z
theorem sR_of (xc : XC L N sc W X) {x : E} {e : Expr} (h : ckE L.T L.cons L.clsN N sc x e = true) (ih : PE X e (dV L X.K W x)) : PE X e (dR L X.K W x) := by
  rcases nopeek_of h with ⟨i, a, p, rfl, rfl, hn⟩ | hx
  · obtain ⟨h1, h2, h3, h4⟩ := vis_of xc hn
    exact PE.imp (pe_var h1 h2 h3 h4) fun σ H Q q => peekR q
  · exact PE.imp ih fun σ H Q q => dR_dV hx q
theorem sA_of (xc : XC L N sc W X) {x : E} {e : Expr} (h : ckE L.T L.cons L.clsN N sc x e = true) (ih : PE X e (dV L X.K W x)) : PE X e (dA L X.K W x) := by
  rcases nopeek_of h with ⟨i, a, p, rfl, rfl, hn⟩ | hx
  · obtain ⟨h1, h2, h3, h4⟩ := vis_of xc hn
    exact PE.imp (pe_var h1 h2 h3 h4) fun σ H Q q => peekA q
  · rcases noerv_of h with ⟨i, a, p, rfl, rfl, hn⟩ | hy
    · obtain ⟨h1, h2, h3, h4⟩ := vis_of xc hn
      exact PE.imp (pe_var h1 h2 h3 h4) fun σ H Q q => ervA q
    · exact PE.imp ih fun σ H Q q => dA_dV hx hy q

/-! ### operators -/
theorem imp_op2 {o : O2} {a b : E} {σ H Q} (h : dV L K W (.op2 o a b) σ H Q) : tOp (rO2 K o) (dR L K W a) (dR L K W b) σ H Q := by
  obtain ⟨f0, H0, f, en, m, ot⟩ := h
  have o1 := Out.bind (show Out L.cls W σ f H ((rd1 a en (L.ev a en)).bind fun x => (rd1 b en (L.ev b en)).bind fun y => sem2 o x y) (Ac K f H Q) from ot)
  refine ⟨f0, H0, f, en, m, o1.imp (Po.refl m.po.sub) fun dx _ h1 v f1 H1 q1 hv => ?_⟩
  refine ⟨f0, H0, f1, en, m.mono q1, h1.bind.imp q1 fun dy _ h2 u f2 H2 q2 hu => ?_⟩
  obtain ⟨p, e, k⟩ := h2.okk (sem2_noex _ _ _)
  exact ⟨f2, dx, dy, p, q2.sub, hv.mono q2, hu, e, k.mono (q1.trans q2)⟩
theorem imp_op1 {o : O1} {a : E} {σ H Q} (h : dV L K W (.op1 o a) σ H Q) : dR L K W a σ H fun v H1 => rO1 K o v H1 Q := by
  obtain ⟨f0, H0, f, en, m, ot⟩ := h
  have o1 := Out.bind (show Out L.cls W σ f H ((rd1 a en (L.ev a en)).bind (sem1 o)) (Ac K f H Q) from ot)
  refine ⟨f0, H0, f, en, m, o1.imp (Po.refl m.po.sub) fun dx _ h1 v f1 H1 q1 hv => ?_⟩
  obtain ⟨p, e, k⟩ := h1.okk (sem1_noex _ _)
  exact ⟨f1, dx, p, q1.sub, hv, e, k.mono q1⟩
theorem cmp_bool {o : O2} {op : CmpOp} (h : cmpOf o op = true) {a b : D} {p : D × Bool} (e : sem2 o a b = .ok p) : ∃ k, p = (.bool k, false) := by
  have ite_b : ∀ {c : Prop} [Decidable c] {x : Bool}, (if c then v1 (.bool x) else .no) = R.ok p → ∃ k, p = (.bool k, false) := fun {c} _ {x} z => by
    by_cases hc : c
    · rw [if_pos hc] at z; cases z; exact ⟨_, rfl⟩
    · rw [if_neg hc] at z; cases z
  have bnd_b : ∀ {r : R Bool} {g : Bool → Bool}, (r.bind fun c => v1 (.bool (g c))) = R.ok p → ∃ k, p = (.bool k, false) := fun {r g} z => by
    obtain ⟨c, _, z2⟩ := R.of_bind z
    cases z2
    exact ⟨_, rfl⟩
  cases o <;> cases op <;> first
    | (cases h; done)
    | (cases a <;> cases b <;> first
        | (cases e; done)
        | (cases e; exact ⟨_, rfl⟩)
        | exact ite_b e
        | exact bnd_b (g := fun c => c) e
        | exact bnd_b (g := fun c => !c) e)
/-- a truth from a value that is a bool -/
theorem dT_dV {x : E} (hx : ∀ i, x ≠ .peek i) (hb : ∀ en p, L.ev x en = .ok p → ∃ k, p = (.bool k, false)) {σ H Q} (h : dT L K W x σ H Q) : dV L K W x σ H fun v H' => ∃ k, v = .bl k ∧ Q k H' := by
  obtain ⟨f0, H0, f, en, m, o⟩ := h
  have o1 := Out.bind (show Out L.cls W σ f H ((rd1 x en (L.ev x en)).bind truR) (fun b => ∀ f' H', Po f H f' H' → Q b H') from o)
  rw [rd1_bind hx] at o1
  refine ⟨f0, H0, f, en, m, o1.bind.imp (Po.refl m.po.sub) fun p e h1 v f' H' q hv => ?_⟩
  obtain ⟨k, rfl⟩ := hb en p e
  have h2 : ∀ f' H', Po f H f' H' → Q k H' := h1
  cases (show Dp K f' v (.bool k) from hv)
  exact ⟨k, rfl, h2 f' H' q⟩
theorem truV_of {f' H' : Hp} {v : V} {d : D} {b : Bool} (s : Same f' H') (h : Vr K f' H' v d) (e : truR d = .ok b) : TruV K v H' b := by
  cases d with
  | none => rw [h.non]; cases e; rfl
  | bool c => rw [h.bool]; cases e; rfl
  | int i => rw [h.int]; cases e; rfl
  | str x =>
    rw [h.str]
    have e' : (if x.length ≤ line then R.ok (tru (.str x)) else .no) = .ok b := e
    by_cases hz : x.length ≤ line
    · rw [if_pos hz] at e'
      cases e'
      exact ⟨by rw [← line_eq]; exact hz, rfl⟩
    · rw [if_neg hz] at e'; cases e'
  | list xs =>
    obtain ⟨p, vs, rfl, hs, ha⟩ := h.list s
    cases e
    refine .inl ⟨vs, hs, ?_⟩
    have := ha.length
    cases vs <;> cases xs <;> first | rfl | cases this
  | tuple xs =>
    obtain ⟨p, vs, rfl, _, hs, ha⟩ := h.tup s
    cases e
    refine .inr (.inl ⟨vs, hs, ?_⟩)
    have := ha.length
    cases vs <;> cases xs <;> first | rfl | cases this
  | dict kvs => cases e
/-- a truth from a value that is read -/
theorem dT_dR {x : E} {σ H Q} (h : dT L K W x σ H Q) : dR L K W x σ H fun v H' => ∃ k, TruV K v H' k ∧ Q k H' := by
  obtain ⟨f0, H0, f, en, m, o⟩ := h
  have o1 := Out.bind (show Out L.cls W σ f H ((rd1 x en (L.ev x en)).bind truR) (fun b => ∀ f' H', Po f H f' H' → Q b H') from o)
  refine ⟨f0, H0, f, en, m, o1.imp (Po.refl m.po.sub) fun d _ h1 v f' H' q hv => ?_⟩
  obtain ⟨b, e, k⟩ := h1.okk (truR_noex _)
  exact ⟨b, truV_of q.sub hv e, k f' H' q⟩
theorem pt_plain (xc : XC L N sc W X) {x : E} {e : Expr} (h : ckE L.T L.cons L.clsN N sc x e = true) (ih : PE X e (dV L X.K W x)) (he : ∀ whole, isTrue e X.env whole = (do let v ← whole; standAt e.pos; holding [v] (truthy v))) : PT X e (dT L X.K W x) :=
  PT.imp (pt_truth (sR_of xc h ih) he) fun σ H Q q => dT_dR q
theorem imp_and {a b : E} {σ H Q} (h : dV L K W (.and a b) σ H Q) : tAndT K (dV L K W a) (dV L K W b) σ H Q := by
  obtain ⟨f0, H0, f, en, m, ot⟩ := h
  have o1 := Out.bind (show Out L.cls W σ f H ((L.ev a en).bind fun x => (truR x.1).bind fun t => if t then L.ev b en else v1 x.1) (Ac K f H Q) from ot)
  refine ⟨f0, H0, f, en, m, o1.imp (Po.refl m.po.sub) fun p _ h1 v f1 H1 q1 hv => ?_⟩
  obtain ⟨t, e, h2⟩ := h1.bind.okk (truR_noex _)
  obtain ⟨f2, q2, hv2⟩ := hv.settle q1
  refine ⟨t, truV_of q2.sub (.inl hv2) e, ?_⟩
  cases t with
  | true =>
    rw [if_pos rfl] at h2
    rw [if_pos rfl]
    exact ⟨f0, H0, f2, en, m.mono q2, h2.imp q2 fun p' _ k => k.mono q2⟩
  | false =>
    rw [if_neg Bool.false_ne_true] at h2
    rw [if_neg Bool.false_ne_true]
    exact h2 v f2 H1 q2 hv2
theorem imp_or {a b : E} {σ H Q} (h : dV L K W (.or a b) σ H Q) : tOrT K (dV L K W a) (dV L K W b) σ H Q := by
  obtain ⟨f0, H0, f, en, m, ot⟩ := h
  have o1 := Out.bind (show Out L.cls W σ f H ((L.ev a en).bind fun x => (truR x.1).bind fun t => if t then .ok x else L.ev b en) (Ac K f H Q) from ot)
  refine ⟨f0, H0, f, en, m, o1.imp (Po.refl m.po.sub) fun p _ h1 v f1 H1 q1 hv => ?_⟩
  obtain ⟨t, e, h2⟩ := h1.bind.okk (truR_noex _)
  refine ⟨t, truV_of q1.sub hv.read e, ?_⟩
  cases t with
  | true =>
    rw [if_pos rfl] at h2
    rw [if_pos rfl]
    exact h2 v f1 H1 q1 hv
  | false =>
    obtain ⟨f2, q2, hv2⟩ := hv.settle q1
    rw [if_neg Bool.false_ne_true] at h2
    rw [if_neg Bool.false_ne_true]
    exact ⟨f0, H0, f2, en, m.mono q2, h2.imp q2 fun p' _ k => k.mono q2⟩
theorem imp_not {a : E} {σ H Q} (h : dV L K W (.not a) σ H Q) : tNotT K (dR L K W a) σ H Q := by
  obtain ⟨f0, H0, f, en, m, ot⟩ := h
  have o1 := Out.bind (show Out L.cls W σ f H ((rd1 a en (L.ev a en)).bind fun x => (truR x).bind fun t => v1 (.bool (!t))) (Ac K f H Q) from ot)
  refine ⟨f0, H0, f, en, m, o1.imp (Po.refl m.po.sub) fun d _ h1 v f1 H1 q1 hv => ?_⟩
  obtain ⟨t, e, h2⟩ := h1.bind.okk (truR_noex _)
  exact ⟨t, truV_of q1.sub hv e, h2 _ f1 H1 q1 (.bl _)⟩
theorem imp_ife {t a b : E} {σ H Q} (h : dV L K W (.ife t a b) σ H Q) : tIf (dT L K W t) (dV L K W a) (dV L K W b) σ H Q := by
  obtain ⟨f0, H0, f, en, m, ot⟩ := h
  have ot' : Out L.cls W σ f H ((rd1 t en (L.ev t en)).bind fun x => (truR x).bind fun k => if k then L.ev a en else L.ev b en) (Ac K f H Q) := ot
  rw [← R.bind_assoc] at ot'
  refine ⟨f0, H0, f, en, m, ot'.bind.imp (Po.refl m.po.sub) fun k _ h1 f1 H1 q1 => ?_⟩
  cases k with
  | true =>
    rw [if_pos rfl] at h1
    rw [if_pos rfl]
    exact ⟨f0, H0, f1, en, m.mono q1, h1.imp q1 fun p' _ k => k.mono q1⟩
  | false =>
    rw [if_neg Bool.false_ne_true] at h1
    rw [if_neg Bool.false_ne_true]
    exact ⟨f0, H0, f1, en, m.mono q1, h1.imp q1 fun p' _ k => k.mono q1⟩
/-- truths -/
theorem ev_peek {i : Nat} {en : En} : L.ev (.peek i) en = .no := rfl
theorem evT_ev {x : E} {en : En} {p : D × Bool} (h : L.ev x en = .ok p) : evT L.G L.c (dflT L.T) x en = truR p.1 := by
  show (rd1 x en (L.ev x en)).bind truR = _
  rw [rd1_ok h]
  rfl
theorem evT_ex {x : E} {en : En} {k : Nat} (h : L.ev x en = .ex k) : evT L.G L.c (dflT L.T) x en = .ex k := by
  show (rd1 x en (L.ev x en)).bind truR = _
  cases x <;> first
    | (rw [h]; rfl)
    | cases h
theorem evT_and {a b : E} {en : En} (h : evT L.G L.c (dflT L.T) (.and a b) en ≠ .no) : evT L.G L.c (dflT L.T) (.and a b) en = (evT L.G L.c (dflT L.T) a en).bind fun t => if t then evT L.G L.c (dflT L.T) b en else .ok false := by
  have e0 : evT L.G L.c (dflT L.T) (.and a b) en = (((L.ev a en).bind fun x => (truR x.1).bind fun t => if t then L.ev b en else v1 x.1).bind fun p => R.ok p.1).bind truR := rfl
  rw [e0] at h ⊢
  cases ea : L.ev a en with
  | no => rw [ea] at h; exact absurd rfl h
  | ex k => rw [evT_ex ea]; rfl
  | ok p =>
    rw [evT_ev ea]
    rw [ea] at h
    have h' : (((truR p.1).bind fun t => if t then L.ev b en else v1 p.1).bind fun p => R.ok p.1).bind truR ≠ .no := h
    show (((truR p.1).bind fun t => if t then L.ev b en else v1 p.1).bind fun p => R.ok p.1).bind truR = _
    cases et : truR p.1 with
    | no => rw [et] at h'; exact absurd rfl h'
    | ex k => exact absurd et (truR_noex _ k)
    | ok t =>
      rw [et] at h'
      cases t with
      | true =>
        have h2 : ((L.ev b en).bind fun p => R.ok p.1).bind truR ≠ .no := h'
        show ((L.ev b en).bind fun p => R.ok p.1).bind truR = evT L.G L.c (dflT L.T) b en
        cases eb : L.ev b en with
        | no => rw [eb] at h2; exact absurd rfl h2
        | ex k => rw [evT_ex eb]; rfl
        | ok p => rw [evT_ev eb]; rfl
      | false =>
        show truR p.1 = .ok false
        exact et
theorem evT_or {a b : E} {en : En} (h : evT L.G L.c (dflT L.T) (.or a b) en ≠ .no) : evT L.G L.c (dflT L.T) (.or a b) en = (evT L.G L.c (dflT L.T) a en).bind fun t => if t then .ok true else evT L.G L.c (dflT L.T) b en := by
  have e0 : evT L.G L.c (dflT L.T) (.or a b) en = (((L.ev a en).bind fun x => (truR x.1).bind fun t => if t then .ok x else L.ev b en).bind fun p => R.ok p.1).bind truR := rfl
  rw [e0] at h ⊢
  cases ea : L.ev a en with
  | no => rw [ea] at h; exact absurd rfl h
  | ex k => rw [evT_ex ea]; rfl
  | ok p =>
    rw [evT_ev ea]
    rw [ea] at h
    have h' : (((truR p.1).bind fun t => if t then .ok p else L.ev b en).bind fun p => R.ok p.1).bind truR ≠ .no := h
    show (((truR p.1).bind fun t => if t then .ok p else L.ev b en).bind fun p => R.ok p.1).bind truR = _
    cases et : truR p.1 with
    | no => rw [et] at h'; exact absurd rfl h'
    | ex k => exact absurd et (truR_noex _ k)
    | ok t =>
      rw [et] at h'
      cases t with
      | false =>
        have h2 : ((L.ev b en).bind fun p => R.ok p.1).bind truR ≠ .no := h'
        show ((L.ev b en).bind fun p => R.ok p.1).bind truR = evT L.G L.c (dflT L.T) b en
        cases eb : L.ev b en with
        | no => rw [eb] at h2; exact absurd rfl h2
        | ex k => rw [evT_ex eb]; rfl
        | ok p => rw [evT_ev eb]; rfl
      | true =>
        show truR p.1 = .ok true
        exact et
theorem Out.ne {cls : Nat → Value} {σ : L2.St} {f H : Hp} {α : Type} {r : R α} {P : α → Prop} (h : Out cls W σ f H r P) : r ≠ .no := fun e => by
  rw [e] at h; exact h
theorem impT_and {a b : E} {σ H Q} (h : dT L K W (.and a b) σ H Q) : tAnd (dT L K W a) (dT L K W b) σ H Q := by
  obtain ⟨f0, H0, f, en, m, ot⟩ := h
  rw [evT_and ot.ne] at ot
  refine ⟨f0, H0, f, en, m, ot.bind.imp (Po.refl m.po.sub) fun t _ h1 f1 H1 q1 => ?_⟩
  cases t with
  | true =>
    rw [if_pos rfl] at h1
    rw [if_pos rfl]
    exact ⟨f0, H0, f1, en, m.mono q1, h1.imp q1 fun p' _ k f' H' q' => k f' H' (q1.trans q')⟩
  | false =>
    rw [if_neg Bool.false_ne_true] at h1
    rw [if_neg Bool.false_ne_true]
    exact h1 f1 H1 q1
theorem impT_or {a b : E} {σ H Q} (h : dT L K W (.or a b) σ H Q) : tOr (dT L K W a) (dT L K W b) σ H Q := by
  obtain ⟨f0, H0, f, en, m, ot⟩ := h
  rw [evT_or ot.ne] at ot
  refine ⟨f0, H0, f, en, m, ot.bind.imp (Po.refl m.po.sub) fun t _ h1 f1 H1 q1 => ?_⟩
  cases t with
  | true =>
    rw [if_pos rfl] at h1
    rw [if_pos rfl]
    exact h1 f1 H1 q1
  | false =>
    rw [if_neg Bool.false_ne_true] at h1
    rw [if_neg Bool.false_ne_true]
    exact ⟨f0, H0, f1, en, m.mono q1, h1.imp q1 fun p' _ k f' H' q' => k f' H' (q1.trans q')⟩
theorem impT_not {a : E} {σ H Q} (h : dT L K W (.not a) σ H Q) : tNot (dT L K W a) σ H Q := by
  obtain ⟨f0, H0, f, en, m, ot⟩ := h
  have ot' : Out L.cls W σ f H ((((rd1 a en (L.ev a en)).bind fun x => (truR x).bind fun t => v1 (.bool (!t))).bind fun p => R.ok p.1).bind truR) _ := ot
  have e : ((((rd1 a en (L.ev a en)).bind fun x => (truR x).bind fun t => v1 (.bool (!t))).bind fun p => R.ok p.1).bind truR) = (evT L.G L.c (dflT L.T) a en).bind fun t => .ok (!t) := by
    show _ = ((rd1 a en (L.ev a en)).bind truR).bind fun t => .ok (!t)
    cases rd1 a en (L.ev a en) with
    | ok d => show (((truR d).bind fun t => v1 (.bool (!t))).bind fun p => R.ok p.1).bind truR = (truR d).bind fun t => .ok (!t); cases truR d <;> rfl
    | ex k => rfl
    | no => rfl
  rw [e] at ot'
  exact ⟨f0, H0, f, en, m, ot'.bind.imp (Po.refl m.po.sub) fun t _ h1 f1 H1 q1 => h1 f1 H1 q1⟩
theorem impT_ife {t a b : E} {σ : L2.St} {H : Hp} {Q : Bool → Hp → Prop} (h : dT L K W (.ife t a b) σ H Q) : dT L K W t σ H fun c H1 => if c = true then dT L K W a σ H1 Q else dT L K W b σ H1 Q := by
  obtain ⟨f0, H0, f, en, m, ot⟩ := h
  have ot' : Out L.cls W σ f H ((((rd1 t en (L.ev t en)).bind fun x => (truR x).bind fun k => if k then L.ev a en else L.ev b en).bind fun p => R.ok p.1).bind truR) _ := ot
  have two : ∀ x : E, ((L.ev x en).bind fun p => R.ok p.1).bind truR ≠ .no → ((L.ev x en).bind fun p => R.ok p.1).bind truR = evT L.G L.c (dflT L.T) x en := fun x hx => by
    cases ex : L.ev x en with
    | no => rw [ex] at hx; exact absurd rfl hx
    | ex k => rw [evT_ex ex]; rfl
    | ok p => rw [evT_ev ex]; rfl
  have e : ((((rd1 t en (L.ev t en)).bind fun x => (truR x).bind fun k => if k then L.ev a en else L.ev b en).bind fun p => R.ok p.1).bind truR) = (evT L.G L.c (dflT L.T) t en).bind fun k => ((if k then L.ev a en else L.ev b en).bind fun p => R.ok p.1).bind truR := by
    show _ = ((rd1 t en (L.ev t en)).bind truR).bind _
    cases rd1 t en (L.ev t en) with
    | ok d => show (((truR d).bind fun k => if k then L.ev a en else L.ev b en).bind fun p => R.ok p.1).bind truR = (truR d).bind _; cases truR d <;> rfl
    | ex k => rfl
    | no => rfl
  rw [e] at ot'
  refine ⟨f0, H0, f, en, m, ot'.bind.imp (Po.refl m.po.sub) fun k _ h1 f1 H1 q1 => ?_⟩
  cases k with
  | true =>
    rw [if_pos rfl] at h1
    rw [if_pos rfl]
    have h2 := h1
    rw [two a h1.ne] at h2
    exact ⟨f0, H0, f1, en, m.mono q1, h2.imp q1 fun p' _ k f' H' q' => k f' H' (q1.trans q')⟩
  | false =>
    rw [if_neg Bool.false_ne_true] at h1
    rw [if_neg Bool.false_ne_true]
    have h2 := h1
    rw [two b h1.ne] at h2
    exact ⟨f0, H0, f1, en, m.mono q1, h2.imp q1 fun p' _ k f' H' q' => k f' H' (q1.trans q')⟩
/-- chains of two comparisons -/
theorem imp_chn {o p : O2} {op : CmpOp} (hc : cmpOf o op = true) {a b z : E} {σ H Q} (h : dV L K W (.chn o p a b z) σ H Q) : tChain (rO2 K o) (rO2 K p) (dR L K W a) (dR L K W b) (dR L K W z) σ H Q := by
  obtain ⟨f0, H0, f, en, m, ot⟩ := h
  have o1 := Out.bind (show Out L.cls W σ f H ((rd1 a en (L.ev a en)).bind fun x => (rd1 b en (L.ev b en)).bind fun y => (sem2 o x y).bind fun r => (match r.1 with
    | .bool true => (rd1 z en (L.ev z en)).bind fun w => sem2 p y w
    | .bool false => v1 (.bool false)
    | _ => .no)) (Ac K f H Q) from ot)
  refine ⟨f0, H0, f, en, m, o1.imp (Po.refl m.po.sub) fun dx _ h1 v f1 H1 q1 hv => ?_⟩
  refine ⟨f0, H0, f1, en, m.mono q1, h1.bind.imp q1 fun dy _ h2 u f2 H2 q2 hu => ?_⟩
  obtain ⟨r, e, h3⟩ := h2.bind.okk (sem2_noex _ _ _)
  obtain ⟨k, rfl⟩ := cmp_bool hc e
  refine ⟨f2, dx, dy, _, q2.sub, hv.mono q2, hu, e, fun w f3 H3 q3 hw => ?_⟩
  cases (show Dp K f3 w (.bool k) from hw)
  refine ⟨k, rfl, ?_⟩
  have q13 := (q1.trans q2).trans q3
  cases k with
  | true =>
    rw [if_pos rfl]
    have h4 : Out L.cls W σ f H ((rd1 z en (L.ev z en)).bind fun w => sem2 p dy w) (Ac K f H Q) := h3
    refine ⟨f0, H0, f3, en, m.mono q13, h4.bind.imp q13 fun dw _ h5 w' f4 H4 q4 hw' => ?_⟩
    obtain ⟨r, e, k⟩ := h5.okk (sem2_noex _ _ _)
    exact ⟨f4, dy, dw, r, q4.sub, (hu.mono q3).mono q4, hw', e, k.mono (q13.trans q4)⟩
  | false =>
    rw [if_neg Bool.false_ne_true]
    exact h3 _ f3 H3 q13 (.bl false)
end
end AW

/-! AwSnd3: displays, slices, calls, walks. -/
namespace AW
open PySem PySem.Spec PyProof.Rows L2

section
variable {L : Lk} {N : List Str} {sc : Nms} {W : WX} {X : Cx} {K : PySem.W.Frag}

/-! ### rows of expressions -/
theorem evs_cons {e : E} {r : Es} {σ H Q} (h : dVs L K W (.cons e r) σ H Q) : tCons (dV L K W e) (dVs L K W r) σ H Q := by
  obtain ⟨f0, H0, f, en, m, ot⟩ := h
  have o1 := Out.bind (show Out L.cls W σ f H ((L.ev e en).bind fun x => (evs L.G L.c (dflT L.T) r en).bind fun xs => R.ok (x.1 :: xs)) _ from ot)
  refine ⟨f0, H0, f, en, m, o1.imp (Po.refl m.po.sub) fun p _ h1 v f1 H1 q1 hv => ?_⟩
  obtain ⟨f2, q2, hv2⟩ := hv.settle q1
  refine ⟨f0, H0, f2, en, m.mono q2, h1.bind.imp q2 fun ds _ h2 vs f3 H3 q3 hvs => ?_⟩
  exact h2 (v :: vs) f3 H3 (q2.trans q3) (.cons (dp_same q3.sf hv2) hvs)
theorem evs_nil {σ : L2.St} {H : Hp} {Q : List V → Hp → Prop} (h : dVs L K W .nil σ H Q) : tNil σ H Q := by
  obtain ⟨f0, H0, f, en, m, ot⟩ := h
  have ot' : ∀ vs f' H', Po f H f' H' → DpAll K f' vs [] → Q vs H' := ot
  exact ot' [] f H (Po.refl m.po.sub) .nil
theorem evAs_cons {e : E} {r : Es} {σ H Q} (h : dAs L K W (.cons e r) σ H Q) : tCons (dA L K W e) (dAs L K W r) σ H Q := by
  obtain ⟨f0, H0, f, en, m, ot⟩ := h
  have o1 := Out.bind (show Out L.cls W σ f H ((arg1 e en (L.ev e en)).bind fun x => (evAs L.G L.c (dflT L.T) r en).bind fun xs => R.ok (x :: xs)) _ from ot)
  refine ⟨f0, H0, f, en, m, o1.imp (Po.refl m.po.sub) fun s _ h1 v f1 H1 q1 hv => ?_⟩
  refine ⟨f0, H0, f1, en, m.mono q1, h1.bind.imp q1 fun ss _ h2 vs f3 H3 q3 hvs => ?_⟩
  exact h2 (v :: vs) f3 H3 (q1.trans q3) (.cons (hv.mono q3) hvs)
theorem evAs_nil {σ : L2.St} {H : Hp} {Q : List V → Hp → Prop} (h : dAs L K W .nil σ H Q) : tNil σ H Q := by
  obtain ⟨f0, H0, f, en, m, ot⟩ := h
  have ot' : ∀ vs f' H', Po f H f' H' → ArgsOk K f' H' vs [] → Q vs H' := ot
  exact ot' [] f H (Po.refl m.po.sub) .nil
theorem star_of {T : List Fn} {cs : List (Str × D)} {cl : List Str} {x : E} {e : Expr} (h : ckE T cs cl N sc x e = true) (es : List Expr) : starEach (e :: es) X.env = (false, eval e X.env) :: starEach es X.env := by
  cases e with
  | Starred v p => cases x <;> cases h
  | _ => rfl
theorem stars_of {T : List Fn} {cs : List (Str × D)} {cl : List Str} {pos : Pos} : ∀ {xs : Es} {es : List Expr}, ckEs T cs cl N sc xs es = true → (backTo pos (starEach es X.env)).any (·.1) = false
  | .nil, [], _ => rfl
  | .nil, _ :: _, h => by cases h
  | .cons x r, [], h => by cases h
  | .cons x r, e :: es, h => by
    have h' : (ckE T cs cl N sc x e && ckEs T cs cl N sc r es) = true := h
    rw [Bool.and_eq_true] at h'
    rw [star_of h'.1]
    show ((backTo pos (starEach es X.env)).any (·.1)) = false
    exact stars_of h'.2
theorem imp_tup {es : Es} {σ H Q} (h : dV L K W (.tup es) σ H Q) : tTup (dVs L K W es) σ H Q := by
  obtain ⟨f0, H0, f, en, m, ot⟩ := h
  have o1 := Out.bind (show Out L.cls W σ f H ((evs L.G L.c (dflT L.T) es en).bind fun ds => if ds.length ≤ line then v1 (PyData.tuple ds) else .no) (Ac K f H Q) from ot)
  refine ⟨f0, H0, f, en, m, o1.imp (Po.refl m.po.sub) fun ds _ h1 vs f1 H1 q1 hvs => ?_⟩
  by_cases hz : ds.length ≤ line
  · rw [if_pos hz] at h1
    exact ⟨by rw [hvs.length, ← line_eq]; exact hz, fun p hp => (Ac.mono q1 h1).newT q1.sub hvs hp⟩
  · rw [if_neg hz] at h1
    exact h1.elim
theorem imp_lst {es : Es} {σ H Q} (h : dV L K W (.lst es) σ H Q) : tLst (dVs L K W es) σ H Q := by
  obtain ⟨f0, H0, f, en, m, ot⟩ := h
  have o1 := Out.bind (show Out L.cls W σ f H ((evs L.G L.c (dflT L.T) es en).bind fun ds => if ds.length ≤ line then R.ok (PyData.list ds, true) else .no) (Ac K f H Q) from ot)
  refine ⟨f0, H0, f, en, m, o1.imp (Po.refl m.po.sub) fun ds _ h1 vs f1 H1 q1 hvs => ?_⟩
  by_cases hz : ds.length ≤ line
  · rw [if_pos hz] at h1
    exact ⟨by rw [hvs.length, ← line_eq]; exact hz, fun p hp => (Ac.mono q1 h1).newL q1.sub hvs hp⟩
  · rw [if_neg hz] at h1
    exact h1.elim
theorem imp_rep {es : Es} {n : E} {σ H Q} (h : dV L K W (.rep es n) σ H Q) : tOp rRep (tLst (dVs L K W es)) (dV L K W n) σ H Q := by
  obtain ⟨f0, H0, f, en, m, ot⟩ := h
  have o1 := Out.bind (show Out L.cls W σ f H ((evs L.G L.c (dflT L.T) es en).bind fun ds => if ds.length ≤ line then (L.ev n en).bind fun x => (intR x.1).bind fun k => if -1000000 ≤ k ∧ k ≤ 1000000 ∧ ds.length * k.toNat ≤ line then R.ok (PyData.list (List.replicate k.toNat ds).flatten, true) else .no else .no) (Ac K f H Q) from ot)
  refine ⟨f0, H0, f, en, m, o1.imp (Po.refl m.po.sub) fun ds _ h1 vs f1 H1 q1 hvs => ?_⟩
  by_cases hz : ds.length ≤ line
  · rw [if_pos hz] at h1
    refine ⟨by rw [hvs.length, ← line_eq]; exact hz, fun p hp => ?_⟩
    have q2 := q1.newH (o := .lst vs) hp
    refine ⟨f0, H0, f1, en, m.mono q2, h1.bind.imp q2 fun x _ h2 v f3 H3 q3 hv => ?_⟩
    obtain ⟨k, e, h3⟩ := h2.bind.okk (intR_noex _)
    have ex : x.1 = .int k := by
      cases hx : x.1 with
      | int i => rw [hx] at e; cases e; rfl
      | _ => rw [hx] at e; cases e
    have hv' : v = .int k := by
      have := hv.read
      rw [ex] at this
      exact this.int
    by_cases hk : -1000000 ≤ k ∧ k ≤ 1000000 ∧ ds.length * k.toNat ≤ line
    · rw [if_pos hk] at h3
      refine ⟨p, k, vs, rfl, hv', q3.sH _ _ upd_same, by omega, by omega, by rw [hvs.length, ← line_eq]; exact hk.2.2, fun r hr => ?_⟩
      exact (Ac.mono (q2.trans q3) h3).newL q3.sub ((dpa_same q3.sf hvs).rep k.toNat) hr
    · rw [if_neg hk] at h3
      exact h3.elim
  · rw [if_neg hz] at h1
    exact h1.elim
theorem semRev_noex (d : D) (k : Nat) : semRev d ≠ .ex k := by cases d <;> first | exact no_noex k | exact ok_noex k | exact v1_noex
theorem semRep_noex (x : D × Bool) (i : Int) (k : Nat) : semRep x i ≠ .ex k := by
  obtain ⟨d, b⟩ := x
  cases d <;> cases b <;> first
    | exact no_noex k
    | exact ite_noex ok_noex no_noex k
theorem imp_repE {a n : E} {σ H Q} (h : dV L K W (.repE a n) σ H Q) : tOp rRep (dV L K W a) (dV L K W n) σ H Q := by
  obtain ⟨f0, H0, f, en, m, ot⟩ := h
  have o1 := Out.bind (show Out L.cls W σ f H ((L.ev a en).bind fun x => (L.ev n en).bind fun y => (intR y.1).bind fun k => semRep x k) (Ac K f H Q) from ot)
  refine ⟨f0, H0, f, en, m, o1.imp (Po.refl m.po.sub) fun x _ h1 v f1 H1 q1 hv => ?_⟩
  obtain ⟨d, b⟩ := x
  refine ⟨f0, H0, f1, en, m.mono q1, h1.bind.imp q1 fun y _ h2 u f3 H3 q3 hu => ?_⟩
  obtain ⟨k, e, h3⟩ := h2.bind.okk (intR_noex _)
  obtain ⟨p, e2, kk⟩ := h3.okk (semRep_noex _ _)
  have ex : y.1 = .int k := by
    cases hx : y.1 with
    | int i => rw [hx] at e; cases e; rfl
    | _ => rw [hx] at e; cases e
  have hv' : u = .int k := by
    have := hu.read
    rw [ex] at this
    exact this.int
  cases b with
  | false => cases d <;> cases e2
  | true =>
    obtain ⟨ds, p', vs, rfl, rfl, g1, g2, g3, g4⟩ := hv
    have e2' : (if -1000000 ≤ k ∧ k ≤ 1000000 ∧ ds.length * k.toNat ≤ line then R.ok (PyData.list (List.replicate k.toNat ds).flatten, true) else .no) = .ok p := e2
    by_cases hk : -1000000 ≤ k ∧ k ≤ 1000000 ∧ ds.length * k.toNat ≤ line
    · rw [if_pos hk] at e2'
      cases e2'
      refine ⟨p', k, vs, rfl, hv', q3.sH _ _ g3, by omega, by omega, by rw [g4.length, ← line_eq]; exact hk.2.2, fun r hr => ?_⟩
      exact (Ac.mono (q1.trans q3) kk).newL q3.sub ((dpa_same q3.sf g4).rep k.toNat) hr
    · rw [if_neg hk] at e2'
      cases e2'
theorem imp_revs {a : E} {σ H Q} (h : dV L K W (.revs a) σ H Q) : tRevA K (dR L K W a) σ H Q := by
  obtain ⟨f0, H0, f, en, m, ot⟩ := h
  have o1 := Out.bind (show Out L.cls W σ f H ((rd1 a en (L.ev a en)).bind semRev) (Ac K f H Q) from ot)
  refine ⟨f0, H0, f, en, m, o1.imp (Po.refl m.po.sub) fun d _ h1 v f1 H1 q1 hv => ?_⟩
  obtain ⟨p, e, k⟩ := h1.okk (semRev_noex _)
  cases d <;> first
    | (cases e; done)
    | skip
  case list xs =>
    cases e
    obtain ⟨b, vs, rfl, ha, ra⟩ := hv.list q1.sub
    exact ⟨b, vs, rfl, .inl ⟨ha, fun r hr => (Ac.mono q1 k).newL q1.sub ra.reverse hr⟩⟩
  case tuple xs =>
    cases e
    obtain ⟨b, vs, rfl, hfa, ha, ra⟩ := hv.tup q1.sub
    exact ⟨b, vs, rfl, .inr ⟨ha, fun r hr => (Ac.mono q1 k).newT q1.sub ra.reverse hr⟩⟩
/-! ### parts of slices -/
theorem impO_none {σ : L2.St} {H : Hp} {Q : Option Int → Hp → Prop} (h : dO L K W .none σ H Q) : tNoPart σ H Q := by
  obtain ⟨f0, H0, f, en, m, ot⟩ := h
  have ot' : ∀ f' H', Po f H f' H' → Q none H' := ot
  exact ot' f H (Po.refl m.po.sub)
theorem impO_some {e : E} {σ : L2.St} {H : Hp} {Q : Option Int → Hp → Prop} (h : dO L K W (.some e) σ H Q) : tPart (dV L K W e) σ H Q := by
  obtain ⟨f0, H0, f, en, m, ot⟩ := h
  have o1 := Out.bind (show Out L.cls W σ f H ((L.ev e en).bind fun x => (intR x.1).bind fun i => R.ok (some i)) _ from ot)
  refine ⟨f0, H0, f, en, m, o1.imp (Po.refl m.po.sub) fun p _ h1 v f1 H1 q1 hv => ?_⟩
  obtain ⟨i, e', h2⟩ := h1.bind.okk (intR_noex _)
  have hv2 := hv.read
  cases hp : p.1 with
  | int j =>
    rw [hp] at e' hv2
    cases e'
    exact ⟨_, hv2.int, h2 f1 H1 q1⟩
  | _ => rw [hp] at e'; cases e'
theorem imp_slc {a : E} {lo hi : Eo} {σ H Q} (h : dV L K W (.slc a lo hi) σ H Q) : tSl (rSl K) (dR L K W a) (dO L K W lo) (dO L K W hi) σ H Q := by
  obtain ⟨f0, H0, f, en, m, ot⟩ := h
  have o1 := Out.bind (show Out L.cls W σ f H ((rd1 a en (L.ev a en)).bind fun x => (evO L.G L.c (dflT L.T) lo en).bind fun l => (evO L.G L.c (dflT L.T) hi en).bind fun h => semSl x l h) (Ac K f H Q) from ot)
  refine ⟨f0, H0, f, en, m, o1.imp (Po.refl m.po.sub) fun dx _ h1 v f1 H1 q1 hv => ?_⟩
  refine ⟨f0, H0, f1, en, m.mono q1, h1.bind.imp q1 fun l _ h2 f2 H2 q2 => ?_⟩
  refine ⟨f0, H0, f2, en, m.mono (q1.trans q2), h2.bind.imp (q1.trans q2) fun hh _ h3 f3 H3 q3 => ?_⟩
  obtain ⟨p, e, k⟩ := h3.okk (semSl_noex _ _ _)
  exact ⟨f3, dx, p, q3.sub, (hv.mono q2).mono q3, e, k.mono ((q1.trans q2).trans q3)⟩
/-! ### calls -/
theorem imp_call {j m : Nat} {es : Es} {dvs : List V} {σ H Q} (hd : ∀ H, DpAll K H dvs (dflT L.T j m)) (h : dV L K W (.call j es m) σ H Q) : tCallSD (L.sp K j) dvs (WE W) (dAs L K W es) σ H Q := by
  obtain ⟨f0, H0, f, en, mt, ot⟩ := h
  have o1 := Out.bind (show Out L.cls W σ f H ((evAs L.G L.c (dflT L.T) es en).bind fun ss => L.c j (ss ++ (dflT L.T j m).map .va)) (Ac K f H Q) from ot)
  refine ⟨f0, H0, f, en, mt, o1.imp (Po.refl mt.po.sub) fun ss _ h1 vs f1 H1 q1 hvs => ?_⟩
  refine ⟨f1, ss ++ (dflT L.T j m).map .va, q1.sub, hvs.append (hd f1), ?_⟩
  cases e : L.c j (ss ++ (dflT L.T j m).map .va) with
  | ok p =>
    rw [e] at h1
    exact Ac.mono q1 h1
  | ex k =>
    rw [e] at h1
    exact fun f' H' q' => h1 f' H' (q1.trans q')
  | no =>
    rw [e] at h1
    exact h1
open Classical in
/-- the lent lists b more are settled -/
noncomputable def lent (f H : Hp) (B : Addr → Prop) : Hp := fun a => if B a then H a else f a
section
variable {f H : Hp} {B : Addr → Prop}
theorem lent_same (s : Same f H) : Same f (lent f H B) := fun a o e => by
  unfold lent
  by_cases h : B a
  · rw [if_pos h]; exact s a o e
  · rw [if_neg h]; exact e
theorem lent_sub (s : Same f H) : Same (lent f H B) H := fun a o e => by
  unfold lent at e
  by_cases h : B a
  · rw [if_pos h] at e; exact e
  · rw [if_neg h] at e; exact s a o e
theorem lent_mono {B' : Addr → Prop} (s : Same f H) (h : ∀ a, B a → B' a) : Same (lent f H B) (lent f H B') := fun a o e => by
  unfold lent at *
  by_cases hb : B a
  · rw [if_pos hb] at e; rw [if_pos (h a hb)]; exact e
  · rw [if_neg hb] at e
    by_cases hb' : B' a
    · rw [if_pos hb']; exact s a o e
    · rw [if_neg hb']; exact e
end
theorem argsOk_same {K : PySem.W.Frag} {f H f' : Hp} (e : Same f f') : ∀ {vs : List V} {ss : List Sl}, ArgsOk K f H vs ss → ArgsOk K f' H vs ss
  | _, _, .nil => .nil
  | _, _, .cons h t => .cons (by
    cases h with
    | va h => exact .va (dp_same e h)
    | rd hH h => exact .rd hH (dpa_same e h)
    | er hH => exact .er hH) (argsOk_same e t)
theorem args_asV {K : PySem.W.Frag} {f H : Hp} (s : Same f H) : ∀ {vs : List V} {ss : List Sl}, ArgsOk K f H vs ss → ∃ B : Addr → Prop, (∀ a, B a → ∃ xs, Rd H a (.lst xs)) ∧ ArgsOk K (lent f H B) H vs (asV ss)
  | _, _, .nil => ⟨fun _ => False, fun _ h => h.elim, .nil⟩
  | _, _, .cons (v := v) h t => by
    obtain ⟨B, hB, ht⟩ := args_asV s t
    cases h with
    | va h => exact ⟨B, hB, .cons (.va (dp_same (lent_same s) h)) ht⟩
    | er hH => exact ⟨B, hB, .cons (.er hH) ht⟩
    | rd hH h =>
      rename_i p ws ds
      let B' : Addr → Prop := fun a => B a ∨ (a = p ∧ ∃ xs, Rd H a (.lst xs))
      have hm : ∀ a, B a → B' a := fun a h => .inl h
      refine ⟨B', fun a ha => ?_, .cons (.va (.lst ?_ (dpa_same (lent_same s) h))) ?_⟩
      · rcases ha with ha | ⟨_, ha⟩
        · exact hB a ha
        · exact ha
      · rcases hH with hH | hH
        · have hp : B' p := .inr ⟨rfl, _, hH⟩
          refine .inl ?_
          have e : lent f H B' p = H p := by unfold lent; rw [if_pos hp]
          unfold Rd
          rw [e]
          exact hH
        · exact .inr hH
      · exact argsOk_same (lent_mono s hm) ht
/-- what is told without a list stands without the lent lists, too -/
theorem unlent {K : PySem.W.Frag} {f H f' H' : Hp} {B : Addr → Prop} (s : Same f H) (hB : ∀ a, B a → ∃ xs, Rd H a (.lst xs)) (q : Po (lent f H B) H f' H') : ∃ f'', Po f H f'' H' ∧ ∀ {d : D} {v : V}, noL d = true → Dp K f' v d → Dp K f'' v d := by
  let f'' : Hp := open Classical in fun a => if B a ∧ f a = none then none else f' a
  have e1 : ∀ a, ¬ (B a ∧ f a = none) → f'' a = f' a := fun a h => by show (open Classical in if B a ∧ f a = none then none else f' a) = _; rw [if_neg h]
  have e2 : ∀ a o, f'' a = some o → f' a = some o ∧ ¬ (B a ∧ f a = none) := fun a o h => by
    have h : (open Classical in if B a ∧ f a = none then none else f' a) = some o := h
    by_cases z : B a ∧ f a = none
    · rw [if_pos z] at h; cases h
    · rw [if_neg z] at h; exact ⟨h, z⟩
  refine ⟨f'', ⟨q.sH, fun a o e => ?_, fun a o e => q.sub a o (e2 a o e).1, fun a o e => ?_⟩, ?_⟩
  · rw [e1 a (fun z => by rw [z.2] at e; cases e)]
    exact q.sf a o (lent_same s a o e)
  · obtain ⟨h1, h2⟩ := e2 a o e
    rcases q.gro a o h1 with h | h
    · left
      unfold lent at h
      by_cases hb : B a
      · rw [if_pos hb] at h
        cases hf : f a with
        | none => exact absurd ⟨hb, hf⟩ h2
        | some o' => rw [s a o' hf] at h; exact h
      · rw [if_neg hb] at h; exact h
    · exact .inr h
  · have key : ∀ {a : Addr} {xs : List V}, SqT K f' a xs → SqT K f'' a xs := fun {a xs} h => by
      rcases h with h | h
      · have hn : ¬ (B a ∧ f a = none) := fun z => by
          obtain ⟨ys, hy⟩ := hB a z.1
          have hl : lent f H B a = H a := by unfold lent; rw [if_pos z.1]
          rcases hy with hy | ⟨o, hy⟩
          · have := q.sf a _ (hl.trans hy)
            rcases h with h | ⟨o', h⟩ <;> rw [this] at h <;> cases h
          · have := q.sf a _ (hl.trans hy)
            rcases h with h | ⟨o', h⟩ <;> rw [this] at h <;> cases h
        refine .inl ?_
        unfold Rd
        rw [e1 a hn]
        exact h
      · exact .inr h
    intro d v hd h
    have go : (∀ (d : D) (v : V), noL d = true → Dp K f' v d → Dp K f'' v d) := fun d => by
      refine PyData.rec (motive_1 := fun d => ∀ v, noL d = true → Dp K f' v d → Dp K f'' v d) (motive_2 := fun ds => ∀ vs, noLs ds = true → DpAll K f' vs ds → DpAll K f'' vs ds) (motive_3 := fun _ => True) (motive_4 := fun _ => True)
        ?_ ?_ ?_ ?_ ?_ ?_ ?_ ?_ ?_ ?_ ?_ ?_ d
      · intro v _ h; cases h; exact .non
      · intro b v _ h; cases h; exact .bl _
      · intro i v _ h; cases h; exact .int _
      · intro x v _ h; cases h; exact .str _
      · intro xs _ v hn; cases hn
      · intro xs ih v hn h
        cases h with
        | tup hs ha => exact .tup (key hs) (ih _ hn ha)
      · intro kvs _ v hn; cases hn
      · intro vs _ h; cases h; exact .nil
      · intro d ds i1 i2 vs hn h
        have hn : (noL d && noLs ds) = true := hn
        rw [Bool.and_eq_true] at hn
        cases h with
        | cons a b => exact .cons (i1 _ hn.1 a) (i2 _ hn.2 b)
      · trivial
      · intros; trivial
      · intros; trivial
    exact go d v hd h
theorem imp_callv {j m : Nat} {es : Es} {dvs : List V} {σ H Q} (hd : ∀ H, DpAll K H dvs (dflT L.T j m)) (h : dV L K W (.callv j es m) σ H Q) : tCallSD (L.sp K j) dvs (WE W) (dAs L K W es) σ H Q := by
  obtain ⟨f0, H0, f, en, mt, ot⟩ := h
  have o1 := Out.bind (show Out L.cls W σ f H ((evAs L.G L.c (dflT L.T) es en).bind fun ss => (L.c j (asV ss ++ (dflT L.T j m).map .va)).bind fun p => if p.2 = false ∧ noL p.1 = true then .ok p else .no) (Ac K f H Q) from ot)
  refine ⟨f0, H0, f, en, mt, o1.imp (Po.refl mt.po.sub) fun ss _ h1 vs f1 H1 q1 hvs => ?_⟩
  obtain ⟨B, hB, ha⟩ := args_asV q1.sub hvs
  refine ⟨lent f1 H1 B, asV ss ++ (dflT L.T j m).map .va, lent_sub q1.sub, ha.append (hd _), ?_⟩
  cases e : L.c j (asV ss ++ (dflT L.T j m).map .va) with
  | ok p =>
    rw [e] at h1
    have h1 : Out L.cls W σ f H (if p.2 = false ∧ noL p.1 = true then R.ok p else .no) (Ac K f H Q) := h1
    by_cases hp : p.2 = false ∧ noL p.1 = true
    · rw [if_pos hp] at h1
      have h2 := Ac.mono q1 (show Ac K f H Q p from h1)
      intro v f' H' q' hv
      obtain ⟨f'', q'', un⟩ := unlent (K := K) q1.sub hB q'
      rw [hp.1] at hv
      refine h2 v f'' H' q'' ?_
      rw [hp.1]
      exact un hp.2 hv
    · rw [if_neg hp] at h1
      exact h1.elim
  | ex k =>
    rw [e] at h1
    intro f' H' q'
    obtain ⟨f'', q'', _⟩ := unlent (K := K) q1.sub hB q'
    exact h1 f'' H' (q1.trans q'')
  | no =>
    rw [e] at h1
    exact h1
/-! ### isinstance -/
theorem tyx_of {f' H' : Hp} {v : V} {d : D} (s : Same f' H') (h : Vr K f' H' v d) (hd : ∀ kvs, d ≠ .dict kvs) : ∃ t : String, TyX K H' v (.type t) ∧ ∀ n : String, (n = "int" ∨ n = "bool" ∨ n = "str" ∨ n = "tuple" ∨ n = "list") → kitB t n = some (isTy d (.bi n)) := by
  have seq : ∀ {p : Addr} {vs : List V}, SqL K H' p vs → TyX K H' (.ref p) (.type "list") := fun {p vs} hs => by
    rcases hs with (hs | ⟨o, hs⟩) | ⟨o, its, n, hk, hc, _⟩
    · exact .base (.lst hs)
    · exact .base (.frz hs)
    · exact .kList hk hc
  have tup : ∀ {p : Addr} {vs : List V}, SqT K H' p vs → TyX K H' (.ref p) (.type "tuple") := fun {p vs} hs => by
    rcases hs with (hs | ⟨o, hs⟩) | ⟨o, its, n, hk, hc, _⟩
    · exact .base (.tup hs)
    · exact .fTuple hs
    · exact .kTuple hk hc
  cases d with
  | none => exact ⟨"NoneType", by rw [h.non]; exact .base .non, fun n hn => by rcases hn with rfl | rfl | rfl | rfl | rfl <;> first | exact (show kitB _ _ = some (_ == _) from by decide +kernel) | exact (show kitB _ _ = some (_ == _ || _ == _) from by decide +kernel)⟩
  | bool b => exact ⟨"bool", by rw [h.bool]; exact .base (.bl b), fun n hn => by rcases hn with rfl | rfl | rfl | rfl | rfl <;> cases b <;> decide +kernel⟩
  | int i => exact ⟨"int", by rw [h.int]; exact .base (.int i), fun n hn => by rcases hn with rfl | rfl | rfl | rfl | rfl <;> first | exact (show kitB _ _ = some (_ == _) from by decide +kernel) | exact (show kitB _ _ = some (_ == _ || _ == _) from by decide +kernel)⟩
  | str x => exact ⟨"str", by rw [h.str]; exact .base (.str x), fun n hn => by rcases hn with rfl | rfl | rfl | rfl | rfl <;> first | exact (show kitB _ _ = some (_ == _) from by decide +kernel) | exact (show kitB _ _ = some (_ == _ || _ == _) from by decide +kernel)⟩
  | list xs =>
    obtain ⟨p, vs, rfl, hs, _⟩ := h.list s
    exact ⟨"list", seq hs, fun n hn => by rcases hn with rfl | rfl | rfl | rfl | rfl <;> first | exact (show kitB _ _ = some (_ == _) from by decide +kernel) | exact (show kitB _ _ = some (_ == _ || _ == _) from by decide +kernel)⟩
  | tuple xs =>
    obtain ⟨p, vs, rfl, _, hs, _⟩ := h.tup s
    exact ⟨"tuple", tup hs, fun n hn => by rcases hn with rfl | rfl | rfl | rfl | rfl <;> first | exact (show kitB _ _ = some (_ == _) from by decide +kernel) | exact (show kitB _ _ = some (_ == _ || _ == _) from by decide +kernel)⟩
  | dict kvs => exact absurd rfl (hd kvs)
theorem no_dict {f' H' : Hp} {v : V} {d : D} (h : Vr K f' H' v d) : ∀ kvs, d ≠ .dict kvs := fun kvs z => by
  subst z
  rcases h with h | ⟨ds, p, vs, e, _⟩
  · cases h
  · cases e
end
end AW

/-! AwEnum: enumerate of a tuple. -/
namespace AW
open PySem PySem.Spec PyProof.Rows L2

theorem meets_enumerate_newT (l : Addr) (items : Array Value) :
    Meets (Builtin.«enumerate.__new__» ⟨[.type "enumerate", .ref l], []⟩) (fun _ R s => s.heap.IsTuple l items ∧
      R (.ok (.ret (.ref (s.heap.push { cls := .type "tuple_iterator", data := .fields #[.ref l, .int 0 0] }).objs.size)))
        { s with heap := (s.heap.push { cls := .type "tuple_iterator", data := .fields #[.ref l, .int 0 0] }).push { cls := .type "enumerate", data := .fields #[.none, .bool false, .ref s.heap.objs.size, rawInt 0, .none, .none] } }) :=
  .of_wp fun prog w A R s h => by
    obtain ⟨hp, g, d, tk, os⟩ := s; obtain ⟨h1, h⟩ := h
    have hsub := sub_enumerate
    have q1 : ∀ {A' : Around} {E : Value → Shared → Prop} {Q : Value → Shared → Prop}, Q (.ref hp.objs.size) ⟨hp.push { cls := .type "tuple_iterator", data := .fields #[.ref l, .int 0 0] }, g, d, tk, os⟩ → wpAny (model prog w) A' (pyIter (.ref l)) Q E ⟨hp, g, d, tk, os⟩ :=
      fun q => wpAny_pyIter_tuple h1 q
    obtain ⟨o, ho, _⟩ := id h1
    wp_walk using AutoSeq1.wpAny_loadPart' ho
    refine wpAny_stack_any fun st => wpAny_pure ?_
    split
    · rename_i c _ _ _ _ _
      cases (c == Value.type "enumerate")
      · wp_walk using AutoSeq1.wpAny_loadPart' ho, q1
        exact ⟨_, rfl, h⟩
      · wp_walk using AutoSeq1.wpAny_loadPart' ho, q1
        exact ⟨_, rfl, h⟩
    · wp_walk using AutoSeq1.wpAny_loadPart' ho, q1
      exact ⟨_, rfl, h⟩
theorem call_enumerate_tuple {prog : Program} {w : World} {A : Around} {E : Value → Shared → Prop} {s : Shared} {l : Addr} {items : Array Value} {Q : Value → Shared → Prop} (hL : s.heap.IsTuple l items)
    (h : ∀ h', IsEnum h' (s.heap.objs.size + 1) s.heap.objs.size 0 .none → h'.IsTupleIter s.heap.objs.size l 0 → h'.objs.size = s.heap.objs.size + 2 →
      (∀ b o, s.heap.get? b = some o → h'.get? b = some o) → Q (.ref (s.heap.objs.size + 1)) { s with heap := h' }) :
    wpAny (model prog w) A (call (.type "enumerate") [.ref l]) Q E s := by
  refine callType_new F.called_enumerate (by decide) (F.typeCall_enumerate_1 _) (F.newCall_enumerate_1 _) (fun obj => F.args_object_init_2 obj _) F.entry_enumerate_new
    (meets_enumerate_newT l items) ⟨hL, ?_⟩
  have hz : (s.heap.push { cls := .type "tuple_iterator", data := .fields #[.ref l, .int 0 0] }).objs.size = s.heap.objs.size + 1 := Heap.size_push ..
  show _ ∧ _
  rw [hz]
  have he : IsEnum ((s.heap.push { cls := .type "tuple_iterator", data := .fields #[.ref l, .int 0 0] }).push
      { cls := .type "enumerate", data := .fields #[.none, .bool false, .ref s.heap.objs.size, rawInt 0, .none, .none] }) (s.heap.objs.size + 1) s.heap.objs.size 0 .none := by
    have := Heap.get?_push_size (s.heap.push { cls := .type "tuple_iterator", data := .fields #[.ref l, .int 0 0] })
      (o := { cls := .type "enumerate", data := .fields #[.none, .bool false, .ref s.heap.objs.size, rawInt 0, .none, .none] }) rfl
    rw [hz] at this; exact this
  refine ⟨⟨_, he, rfl⟩, h _ he ⟨_, Heap.get?_push_of_some _ (Heap.get?_push_size _ rfl), rfl, rfl⟩ (by rw [Heap.size_push, hz]) fun b o x => Heap.get?_push_of_some _ (Heap.get?_push_of_some _ x)⟩

/-- the tuple at a as it stands at each turn, each item in a new pair -/
def IteT (K : PySem.W.Frag) (a : Addr) : L2.It :=
  ⟨fun i H => ∃ (xs : List V) (x : V), SqT K H a xs ∧ xs[i]? = some x, fun i H v H' => ∃ T x, v = .ref T ∧ H T = none ∧ H' = upd H T (.tup [.int (i : Nat), x]) ∧ ∀ xs, SqT K H a xs → xs[i]? = some x, fun i H => ∃ xs : List V, SqT K H a xs ∧ xs.length = i⟩
theorem turn_enumT {P : Program} {w : World} {K : PySem.W.Frag} {elts : List Expr} {kk : Nat} {tpos : Pos} (a e it : Addr) :
    Turn P w K (.Tuple elts kk tpos) (IteT K a) [e, it] e (fun i h => (∃ old, IsEnum h e it ((i : Nat) : Int) old) ∧ h.IsTupleIter it a i ∧ e ≠ it) where
  mem := by simp
  obj := fun i h st b hb => by
    obtain ⟨⟨old, he⟩, ⟨o, ho, hc, hd⟩, _⟩ := st
    have e' : b = e ∨ b = it := by simpa using hb
    rcases e' with z | z
    · rw [z]; exact ⟨_, he, fun v q => nomatch q⟩
    · rw [z]; exact ⟨o, ho, fun v q => by rw [hd] at q; cases q⟩
  keep := fun i h h' st k => let ⟨⟨old, he⟩, hi, hne⟩ := st; ⟨⟨old, k e (by simp) _ he⟩, hi.at fun o q => k it (by simp) o q, hne⟩
  item := by
    intro X hP hw hK hc i pins s σ H E I hf st hg
    subst hP hw hK
    obtain ⟨⟨old, he⟩, hit, hne⟩ := st
    obtain ⟨xs, x, hq, hx⟩ := hg
    obtain ⟨its, rv, p, hz⟩ := I.tuple hq
    obtain ⟨u, hu, ru⟩ := rv.get hx
    have hel : e < s.heap.objs.size := Heap.lt_size he
    have hil : it < s.heap.objs.size := by obtain ⟨_, q, _⟩ := hit; exact Heap.lt_size q
    have hae : a ≠ e := fun z => by
      obtain ⟨o, ho, hcl, _⟩ := p
      rw [z, he] at ho
      cases ho
      have hcl' : Value.type "enumerate" = Value.type "tuple" := hcl
      injection hcl' with q
      exact absurd q (by decide)
    have hai : a ≠ it := fun z => by
      obtain ⟨o, ho, hcl, _⟩ := p
      obtain ⟨o', ho', hcl', _⟩ := hit
      rw [z, ho'] at ho
      cases ho
      rw [hcl] at hcl'
      exact absurd hcl' (by decide)
    have hlt : i < its.toArray.size := by
      obtain ⟨hl, _⟩ := List.getElem?_eq_some_iff.mp hu
      simpa using hl
    have D : Draws X.prog X.w X.A.in1 it [it, a] its.toArray.size (fun i v => its.toArray[i]? = some v) (fun i h => h.IsTupleIter it a i ∧ h.IsTuple a its.toArray) := Draws.tuple (A := X.A.in1) (show X.A.in1.handled = none from I.ok.hd hc) it a hai its.toArray
    refine wpAny_pyNext_enum_itemD D he ⟨hit, p⟩ hlt hne (by simp [hne, Ne.symm hae]) fun y h' tk hy ho hst' hT hsz hk => ?_
    have ey : y = u := by
      have h1 : its[i]? = some y := by simpa using hy
      rw [hu] at h1
      exact (Option.some.inj h1).symm
    subst ey
    refine ⟨_, rfl, wpAny_letOwnedTupleGo_enum (s := { s with heap := h', toks := tk + 1 }) ho fun h'' he' sb => ?_⟩
    have hT2 : h''.get? s.heap.objs.size = some { cls := .type "tuple", data := .seq #[.int i tk, y] } := (sb.2 _ (Nat.ne_of_gt hel)).trans hT
    have new : ObjOk X.prog X.w (upd H s.heap.objs.size (.tup [.int (i : Nat), x])) h'' s.heap.objs.size (.tup [.int (i : Nat), x]) :=
      ⟨by show 2 ≤ sizeLine; decide, [.int i tk, y], .cons ⟨_, rfl⟩ (.cons ru .nil), ⟨_, hT2, rfl, _, rfl⟩⟩
    have I1 : Inv X pins σ (upd H s.heap.objs.size (.tup [.int (i : Nat), x])) { s with heap := h'', toks := tk + 1 } :=
      I.turnedNew (ch := [e, it]) (fun b ob hb q => (sb.2 b (fun z => hb (by simp [z]))).trans (hk b ob (fun z => hb (by simp [z])) (fun z => hb (by simp [z])) q)) hf (Nat.le_refl _) new
    refine ⟨.ref s.heap.objs.size, _, I1, rfl, ⟨_, x, rfl, I.hok.fresh (Nat.le_refl _), rfl, fun ys hy => by rw [I.tuple_inj hy hq]; exact hx⟩, ⟨⟨y, ?_⟩, hst'.1.at fun o q => (sb.2 it (Ne.symm hne)).trans q, hne⟩, fun b hb => ?_⟩
    · have e1 : ((i + 1 : Nat) : Int) = (i : Int) + 1 := by omega
      rw [e1]; exact he'
    · have hb' : b < s.heap.objs.size := by
        have e' : b = e ∨ b = it := by simpa using hb
        rcases e' with z | z
        · rw [z]; exact hel
        · rw [z]; exact hil
      rw [upd_ne (Nat.ne_of_lt hb')]
      exact (hf b hb).1
  done := by
    intro X hP hw hK hc i pins s σ H E I hf st hg
    subst hP hw hK
    obtain ⟨⟨old, he⟩, hit, hne⟩ := st
    obtain ⟨xs, hq, hx⟩ := hg
    obtain ⟨its, rv, p, hz⟩ := I.tuple hq
    obtain ⟨f0, f1, f2, f3, f4, f5⟩ := hf it (by simp)
    have hl := rv.length
    have hai : a ≠ it := fun z => by
      obtain ⟨o, ho, hcl, _⟩ := p
      obtain ⟨o', ho', hcl', _⟩ := hit
      rw [z, ho'] at ho
      cases ho
      rw [hcl] at hcl'
      exact absurd hcl' (by decide)
    have D : Draws X.prog X.w X.A.in1 it [it, a] its.toArray.size (fun i v => its.toArray[i]? = some v) (fun i h => h.IsTupleIter it a i ∧ h.IsTuple a its.toArray) := Draws.tuple (A := X.A.in1) (show X.A.in1.handled = none from I.ok.hd hc) it a hai its.toArray
    have ei : i = its.toArray.size := by rw [List.size_toArray, ← hl, hx]
    rw [ei] at hit
    exact wpAny_pyNext_enum_endD D he ⟨hit, p⟩ fun h' eb => ⟨rfl, I.turned (t' := s.toks) (fun b o hb q => eb b o hb q) f0 f1 f3 f4 f5⟩
  self := fun A i s Q E st h => let ⟨⟨_, he⟩, _⟩ := st; wpAny_pyIter_enum he h
def iEnumT (K : PySem.W.Frag) (ta : TA) : TI := fun σ H R => ta σ H fun vs H1 => ∃ a xs, vs = [.ref a] ∧ SqT K H1 a xs ∧ R (IteT K a) H1
theorem pi_enumT {X : Cx} {e : Expr} {ta : TA} {p pos tpos : Pos} {elts : List Expr} {kk : Nat} (hg : Gl X "enumerate") (hm : X.mg "enumerate" = none) (ha : PA X [e] ta) (hs : starEach [e] X.env = [(false, eval e X.env)]) :
    PI X (.Tuple elts kk tpos) (.Call (.Name "enumerate" p) [e] [] pos) (iEnumT X.K ta) := by
  refine ⟨fun pins s σ H R I h => ?_⟩
  refine Call_ (ld_blt I hg hm boot_enumerate (PyProof.Rows.callWith_type1 (thn (ha.run pos pins s σ H _ I h) fun us s1 ⟨vs, H1, I1, r1, q1⟩ => ?_) hs rfl))
  obtain ⟨a, xs, ex, hq, q⟩ := q1
  subst ex
  cases r1 with
  | cons r rr =>
    cases rr
    cases r
    obtain ⟨its, rv, p', hz⟩ := I1.tuple hq
    refine call_enumerate_tuple (show s1.heap.IsTuple a its.toArray from p') fun h' he hit hsz hk => wpAny_pyIter_enum he ?_
    have I2 : Inv X pins σ H1 { s1 with heap := h' } := I1.kept (t' := s1.toks) hk
    refine ⟨s1.heap.objs.size + 1, [s1.heap.objs.size + 1, s1.heap.objs.size], _, _, H1, rfl, I2, turn_enumT a (s1.heap.objs.size + 1) s1.heap.objs.size, ⟨⟨.none, he⟩, hit, Nat.succ_ne_self _⟩, fun b hb => ?_, q⟩
    have e' : b = s1.heap.objs.size + 1 ∨ b = s1.heap.objs.size := by simpa using hb
    have hle : s1.heap.objs.size ≤ b := by
      rcases e' with z | z
      · rw [z]; exact Nat.le_add_right _ _
      · rw [z]; exact Nat.le_refl _
    exact I1.fpOk hle (I1.hok.fresh hle)
end AW

/-! AwSnd4: what is walked. -/
namespace AW
open PySem PySem.Spec PyProof.Rows L2

section
variable {K : PySem.W.Frag} {f : Hp} {a b : Addr} {vs us : List V} {ds es : List D}
theorem all_at (ha : DpAll K f vs ds) {i : Nat} (hi : i < ds.length) : ∃ v, vs[i]? = some v ∧ ∃ d, ds[i]? = some d ∧ Dp K f v d := by
  obtain ⟨v, hv, hd⟩ := ha.get (List.getElem?_eq_getElem hi)
  exact ⟨v, hv, _, List.getElem?_eq_getElem hi, hd⟩
theorem wk_list (hs : SqL K f a vs) (ha : DpAll K f vs ds) : Wk K f (Itl K a) ds where
  go := fun i H sm hi => let ⟨v, hv, _⟩ := all_at ha hi; ⟨vs, v, sql_same sm hs, hv⟩
  stop := fun H sm => ⟨vs, sql_same sm hs, Nat.le_of_eq ha.length⟩
  yld := fun i H x H' hi sm y => by
    obtain ⟨rfl, y⟩ := y
    obtain ⟨d, hd, hx⟩ := ha.getV (y _ (sql_same sm hs))
    exact ⟨d, hd, fun fc s1 s2 => ⟨fc, Po.refl s2, dp_same s1 hx⟩⟩
theorem wk_tup (hs : SqT K f a vs) (ha : DpAll K f vs ds) : Wk K f (Itt K a) ds where
  go := fun i H sm hi => let ⟨v, hv, _⟩ := all_at ha hi; ⟨vs, v, sqt_same sm hs, hv⟩
  stop := fun H sm => ⟨vs, sqt_same sm hs, Nat.le_of_eq ha.length⟩
  yld := fun i H x H' hi sm y => by
    obtain ⟨rfl, y⟩ := y
    obtain ⟨d, hd, hx⟩ := ha.getV (y _ (sqt_same sm hs))
    exact ⟨d, hd, fun fc s1 s2 => ⟨fc, Po.refl s2, dp_same s1 hx⟩⟩
theorem rngD_len (lo : Int) (n : Nat) : (rngD lo n).length = n := by simp [rngD]
theorem rngD_at (lo : Int) {n i : Nat} (h : i < n) : (rngD lo n)[i]? = some (.int (lo + (i : Nat))) := by simp [rngD, h]
theorem wk_rng (lo : Int) (n : Nat) : Wk K f (Itr lo n) (rngD lo n) where
  go := fun i H _ hi => by rw [rngD_len] at hi; exact hi
  stop := fun H _ => by rw [rngD_len]; exact Nat.le_refl _
  yld := fun i H x H' hi sm y => by
    rw [rngD_len] at hi
    obtain ⟨rfl, rfl⟩ := y
    exact ⟨_, rngD_at lo hi, fun fc s1 s2 => ⟨fc, Po.refl s2, .int _⟩⟩
theorem wk_revL (hs : SqL K f a vs) (ha : DpAll K f vs ds) : Wk K f (Itv K a vs.length) ds.reverse where
  go := fun i H sm hi => by
    rw [List.length_reverse, ← ha.length] at hi
    exact ⟨hi, vs, vs[vs.length - 1 - i], sql_same sm hs, List.getElem?_eq_getElem (by omega)⟩
  stop := fun H sm => by
    show vs.length ≤ _
    rw [List.length_reverse, ha.length]; exact Nat.le_refl _
  yld := fun i H x H' hi sm y => by
    obtain ⟨rfl, y⟩ := y
    rw [List.length_reverse] at hi
    obtain ⟨d, hd, hx⟩ := ha.getV (y _ (sql_same sm hs))
    refine ⟨d, ?_, fun fc s1 s2 => ⟨fc, Po.refl s2, dp_same s1 hx⟩⟩
    rw [List.getElem?_reverse hi, ← ha.length]
    exact hd
theorem wk_revT (hs : SqT K f a vs) (ha : DpAll K f vs ds) : Wk K f (RT.ItvT K a vs.length) ds.reverse where
  go := fun i H sm hi => by
    rw [List.length_reverse, ← ha.length] at hi
    exact ⟨hi, vs, vs[vs.length - 1 - i], sqt_same sm hs, List.getElem?_eq_getElem (by omega)⟩
  stop := fun H sm => by
    show vs.length ≤ _
    rw [List.length_reverse, ha.length]; exact Nat.le_refl _
  yld := fun i H x H' hi sm y => by
    obtain ⟨rfl, y⟩ := y
    rw [List.length_reverse] at hi
    obtain ⟨d, hd, hx⟩ := ha.getV (y _ (sqt_same sm hs))
    refine ⟨d, ?_, fun fc s1 s2 => ⟨fc, Po.refl s2, dp_same s1 hx⟩⟩
    rw [List.getElem?_reverse hi, ← ha.length]
    exact hd
theorem wk_revr (b : Int) : Wk K f (Itc (0 + (((b - 0).toNat : Nat) : Int) - 1) (-1) (b - 0).toNat) (rngD 0 (b - 0).toNat).reverse where
  go := fun i H _ hi => by rw [List.length_reverse, rngD_len] at hi; exact hi
  stop := fun H _ => by rw [List.length_reverse, rngD_len]; exact Nat.le_refl _
  yld := fun i H x H' hi sm y => by
    rw [List.length_reverse, rngD_len] at hi
    obtain ⟨rfl, rfl⟩ := y
    refine ⟨_, ?_, fun fc s1 s2 => ⟨fc, Po.refl s2, .int _⟩⟩
    rw [List.getElem?_reverse (by rw [rngD_len]; exact hi), rngD_len, rngD_at 0 (by omega)]
    have e : (0 : Int) + (((b - 0).toNat - 1 - i : Nat) : Int) = 0 + (((b - 0).toNat : Nat) : Int) - 1 + (i : Nat) * (-1) := by omega
    rw [e]
theorem enumD_len (ds : List D) : (enumD ds).length = ds.length := by simp [enumD]
theorem enumD_at {ds : List D} {i : Nat} {d : D} (h : ds[i]? = some d) : (enumD ds)[i]? = some (.tuple [.int (i : Nat), d]) := by
  have hi : i < ds.length := (List.getElem?_eq_some_iff.mp h).1
  unfold enumD
  rw [List.getElem?_zipWith, h, List.getElem?_range hi]
theorem pair_new {H fc : Hp} {T : Addr} {x y : V} {d e : D} (s2 : Same fc H) (hT : H T = none) (hx : Dp K fc x d) (hy : Dp K fc y e) : ∃ f', Po fc H f' (upd H T (.tup [x, y])) ∧ Dp K f' (.ref T) (.tuple [d, e]) := by
  have sm : Same fc (upd fc T (.tup [x, y])) := fun a o h => by
    rw [upd_ne (ne_of_none (s2 _ _ h) hT)]; exact h
  exact ⟨_, (Po.refl s2).new hT, .tup (.inl (.inl upd_same)) (.cons (dp_same sm hx) (.cons (dp_same sm hy) .nil))⟩
theorem wk_enumL (hs : SqL K f a vs) (ha : DpAll K f vs ds) : Wk K f (Ite K a) (enumD ds) where
  go := fun i H sm hi => by
    rw [enumD_len] at hi
    obtain ⟨v, hv, _⟩ := all_at ha hi
    exact ⟨vs, v, sql_same sm hs, hv⟩
  stop := fun H sm => ⟨vs, sql_same sm hs, by rw [enumD_len, ha.length]; exact Nat.le_refl _⟩
  yld := fun i H x H' hi sm y => by
    obtain ⟨T, x', rfl, hT, rfl, y⟩ := y
    obtain ⟨d, hd, hx⟩ := ha.getV (y _ (sql_same sm hs))
    exact ⟨_, enumD_at hd, fun fc s1 s2 => pair_new s2 hT (.int _) (dp_same s1 hx)⟩
theorem wk_enumT (hs : SqT K f a vs) (ha : DpAll K f vs ds) : Wk K f (IteT K a) (enumD ds) where
  go := fun i H sm hi => by
    rw [enumD_len] at hi
    obtain ⟨v, hv, _⟩ := all_at ha hi
    exact ⟨vs, v, sqt_same sm hs, hv⟩
  stop := fun H sm => ⟨vs, sqt_same sm hs, by rw [enumD_len, ha.length]⟩
  yld := fun i H x H' hi sm y => by
    obtain ⟨T, x', rfl, hT, rfl, y⟩ := y
    obtain ⟨d, hd, hx⟩ := ha.getV (y _ (sqt_same sm hs))
    exact ⟨_, enumD_at hd, fun fc s1 s2 => pair_new s2 hT (.int _) (dp_same s1 hx)⟩
theorem zipD_at {ds es : List D} {i : Nat} {d e : D} (h : ds[i]? = some d) (h2 : es[i]? = some e) : (zipD ds es)[i]? = some (.tuple [d, e]) := by
  unfold zipD
  rw [List.getElem?_zipWith, h, h2]
theorem zipD_len (ds es : List D) : (zipD ds es).length = min ds.length es.length := by simp [zipD]
theorem wk_zipL (hs : SqL K f a vs) (ha : DpAll K f vs ds) (ht : SqL K f b us) (hb : DpAll K f us es) : Wk K f (Itz K a b) (zipD ds es) where
  go := fun i H sm hi => by
    rw [zipD_len] at hi
    obtain ⟨v, hv, _⟩ := all_at ha (i := i) (by omega)
    obtain ⟨u, hu, _⟩ := all_at hb (i := i) (by omega)
    exact ⟨vs, us, v, u, sql_same sm hs, sql_same sm ht, hv, hu⟩
  stop := fun H sm => ⟨vs, us, sql_same sm hs, sql_same sm ht, by rw [zipD_len, ha.length, hb.length]; omega⟩
  yld := fun i H x H' hi sm y => by
    obtain ⟨T, x', y', rfl, hT, rfl, y1, y2⟩ := y
    obtain ⟨d, hd, hx⟩ := ha.getV (y1 _ (sql_same sm hs))
    obtain ⟨e, he, hy⟩ := hb.getV (y2 _ (sql_same sm ht))
    exact ⟨_, zipD_at hd he, fun fc s1 s2 => pair_new s2 hT (dp_same s1 hx) (dp_same s1 hy)⟩
theorem wk_zipT (hs : SqT K f a vs) (ha : DpAll K f vs ds) (ht : SqT K f b us) (hb : DpAll K f us es) : Wk K f (RZ.ItzT K a b) (zipD ds es) where
  go := fun i H sm hi => by
    rw [zipD_len] at hi
    obtain ⟨v, hv, _⟩ := all_at ha (i := i) (by omega)
    obtain ⟨u, hu, _⟩ := all_at hb (i := i) (by omega)
    exact ⟨vs, us, v, u, sqt_same sm hs, sqt_same sm ht, hv, hu⟩
  stop := fun H sm => ⟨vs, us, sqt_same sm hs, sqt_same sm ht, by rw [zipD_len, ha.length, hb.length]; omega⟩
  yld := fun i H x H' hi sm y => by
    obtain ⟨T, x', y', rfl, hT, rfl, y1, y2⟩ := y
    obtain ⟨d, hd, hx⟩ := ha.getV (y1 _ (sqt_same sm hs))
    obtain ⟨e, he, hy⟩ := hb.getV (y2 _ (sqt_same sm ht))
    exact ⟨_, zipD_at hd he, fun fc s1 s2 => pair_new s2 hT (dp_same s1 hx) (dp_same s1 hy)⟩
end

section
variable {L : Lk} {N : List Str} {sc : Nms} {W : WX} {X : Cx} {K : PySem.W.Frag}
theorem seqR_cases {d : D} {xs : List D} (e : seqR d = .ok xs) : d = .list xs ∨ d = .tuple xs := by
  cases d <;> first
    | (cases e; exact .inl rfl)
    | (cases e; exact .inr rfl)
    | cases e
theorem intR_cases {d : D} {i : Int} (e : intR d = .ok i) : d = .int i := by cases d <;> cases e; rfl
/-- a list or a tuple, settled -/
theorem seq_of {f' H' : Hp} {v : V} {d : D} {xs : List D} (e : seqR d = .ok xs) (h : Dp K f' v d) : ∃ a vs, v = .ref a ∧ DpAll K f' vs xs ∧ (SqL K f' a vs ∨ SqT K f' a vs) := by
  rcases seqR_cases e with rfl | rfl
  · cases h with
    | lst h a => exact ⟨_, _, rfl, a, .inl h⟩
  · cases h with
    | tup h a => exact ⟨_, _, rfl, a, .inr h⟩
theorem impI_seq {x : E} {σ H Rr} (h : dI L K W (.seq x) σ H Rr) : iList K (dV L K W x) σ H Rr ∨ iTup K (dV L K W x) σ H Rr := by
  obtain ⟨f0, H0, f, en, m, ot⟩ := h
  have o1 := Out.bind (show Out L.cls W σ f H ((L.ev x en).bind fun p => seqR p.1) _ from ot)
  cases e : L.ev x en with
  | no => rw [e] at o1; exact o1.elim
  | ex k =>
    rw [e] at o1
    exact .inl ⟨f0, H0, f, en, m, by rw [e]; exact o1⟩
  | ok p =>
    rw [e] at o1
    have o2 : Out L.cls W σ f H (seqR p.1) _ := o1
    obtain ⟨xs, e1, k⟩ := o2.okk (seqR_noex _)
    rcases seqR_cases e1 with z | z
    · refine .inl ⟨f0, H0, f, en, m, ?_⟩
      rw [e]
      intro v f' H' q hv
      obtain ⟨f2, q2, hv2⟩ := hv.settle q
      rw [z] at hv2
      cases hv2 with
      | lst hs ha => exact ⟨_, rfl, ⟨_, sql_same q2.sub hs⟩, k _ f2 H' q2 (wk_list hs ha)⟩
    · refine .inr ⟨f0, H0, f, en, m, ?_⟩
      rw [e]
      intro v f' H' q hv
      obtain ⟨f2, q2, hv2⟩ := hv.settle q
      rw [z] at hv2
      cases hv2 with
      | tup hs ha => exact ⟨_, rfl, ⟨_, sqt_same q2.sub hs⟩, k _ f2 H' q2 (wk_tup hs ha)⟩
theorem small_ok {i : Int} (h : small i = true) : -(2 ^ 62) ≤ i ∧ i < 2 ^ 62 := by
  have h1 : i.natAbs.log2 ≤ 61 := Nat.le_of_ble_eq_true h
  have p : (2 : Nat) ^ 62 = 4611686018427387904 := by decide
  have p' : (2 : Int) ^ 62 = 4611686018427387904 := by rfl
  have h2 : i.natAbs < 2 ^ 62 := by
    by_cases h0 : i.natAbs = 0
    · rw [h0]; decide
    · exact (Nat.log2_lt h0).mp (by omega)
  rw [p']
  omega
theorem rngR_ok {i j : Int} {ds : List D} (e : rngR i j = .ok ds) : small i = true ∧ small j = true ∧ ds = rngD i (j - i).toNat := by
  unfold rngR at e
  cases h1 : small i with
  | false => rw [h1] at e; cases e
  | true => cases h2 : small j with
    | false => rw [h1, h2] at e; cases e
    | true => rw [h1, h2] at e; cases e; exact ⟨rfl, rfl, rfl⟩
theorem impI_rng1 {x : E} {σ H Rr} (h : dI L K W (.rng1 x) σ H Rr) : iRng1 (tCons (dV L K W x) tNil) σ H Rr := by
  obtain ⟨f0, H0, f, en, m, ot⟩ := h
  have o1 := Out.bind (show Out L.cls W σ f H ((L.ev x en).bind fun p => (intR p.1).bind fun j => rngR 0 j) _ from ot)
  refine ⟨f0, H0, f, en, m, o1.imp (Po.refl m.po.sub) fun p _ h1 v f1 H1 q1 hv => ?_⟩
  obtain ⟨j, e, h2⟩ := h1.bind.okk (intR_noex _)
  obtain ⟨ds, e2, k⟩ := h2.okk (rngR_noex _ _)
  obtain ⟨s1, s2, rfl⟩ := rngR_ok e2
  have hr := hv.read
  rw [intR_cases e] at hr
  have hs := small_ok s2
  have ew := wk_rng (K := K) (f := f1) 0 (j - 0).toNat
  rw [show j - 0 = j by omega] at k ew
  exact ⟨j, by rw [hr.int], hs.1, hs.2, k _ f1 H1 q1 ew⟩
theorem impI_rng2 {x y : E} {σ H Rr} (h : dI L K W (.rng2 x y) σ H Rr) : iRng2 (tCons (dV L K W x) (tCons (dV L K W y) tNil)) σ H Rr := by
  obtain ⟨f0, H0, f, en, m, ot⟩ := h
  have o1 := Out.bind (show Out L.cls W σ f H ((L.ev x en).bind fun p => (L.ev y en).bind fun r => (intR p.1).bind fun i => (intR r.1).bind fun j => rngR i j) _ from ot)
  refine ⟨f0, H0, f, en, m, o1.imp (Po.refl m.po.sub) fun p _ h1 v f1 H1 q1 hv => ?_⟩
  refine ⟨f0, H0, f1, en, m.mono q1, h1.bind.imp q1 fun r _ h2 u f2 H2 q2 hu => ?_⟩
  obtain ⟨i, e, h3⟩ := h2.bind.okk (intR_noex _)
  obtain ⟨j, e', h4⟩ := h3.bind.okk (intR_noex _)
  obtain ⟨ds, e2, k⟩ := h4.okk (rngR_noex _ _)
  obtain ⟨s1, s2, rfl⟩ := rngR_ok e2
  have hr := hv.read
  rw [intR_cases e] at hr
  have hr2 := hu.read
  rw [intR_cases e'] at hr2
  have hs := small_ok s2
  have hs1 := small_ok s1
  exact ⟨i, j, by rw [hr.int, hr2.int], ⟨hs1.1, hs1.2, hs.1, hs.2⟩, k _ f2 H2 (q1.trans q2) (wk_rng i (j - i).toNat)⟩
theorem wk_rng3 {f : Hp} (lo c : Int) (n : Nat) : Wk K f (Itc lo c n) (rngD3 lo c n) := by
  have hl : (rngD3 lo c n).length = n := by unfold rngD3; simp
  refine ⟨fun i H _ h => by rw [hl] at h; exact h, fun H _ => by rw [hl]; exact Nat.le_refl _, fun i H x H' h s y => ?_⟩
  rw [hl] at h
  obtain ⟨e1, e2⟩ := y
  subst e1; subst e2
  refine ⟨.int (lo + (i : Nat) * c), by unfold rngD3; simp [h], fun fc s1 s2 => ⟨fc, Po.refl s2, .int _⟩⟩
theorem rngR3_ok {i j c : Int} {ds : List D} (e : rngR3 i j c = .ok ds) : ∃ n, RgC i j c n ∧ ds = rngD3 i c n := by
  unfold rngR3 at e
  by_cases h : c ≠ 0 ∧ c.natAbs < 1073741824 ∧ Builtin.Range.small i j c = true ∧ 0 ≤ Builtin.Range.rangeSize i j c
  · rw [if_pos h] at e
    cases e
    exact ⟨_, ⟨h.1, h.2.1, h.2.2.1, (Int.toNat_of_nonneg h.2.2.2).symm⟩, rfl⟩
  · rw [if_neg h] at e; cases e
theorem rngR3_noex (i j c : Int) (k : Nat) : rngR3 i j c ≠ .ex k := ite_noex ok_noex no_noex k
theorem impI_rng3 {x y z : E} {σ H Rr} (h : dI L K W (.rng3 x y z) σ H Rr) : iRng3 (tCons (dV L K W x) (tCons (dV L K W y) (tCons (dV L K W z) tNil))) σ H Rr := by
  obtain ⟨f0, H0, f, en, m, ot⟩ := h
  have o1 := Out.bind (show Out L.cls W σ f H ((L.ev x en).bind fun p => (L.ev y en).bind fun r => (L.ev z en).bind fun w => (intR p.1).bind fun i => (intR r.1).bind fun j => (intR w.1).bind fun k => rngR3 i j k) _ from ot)
  refine ⟨f0, H0, f, en, m, o1.imp (Po.refl m.po.sub) fun p _ h1 v f1 H1 q1 hv => ?_⟩
  refine ⟨f0, H0, f1, en, m.mono q1, h1.bind.imp q1 fun r _ h2 u f2 H2 q2 hu => ?_⟩
  refine ⟨f0, H0, f2, en, (m.mono q1).mono q2, h2.bind.imp (q1.trans q2) fun w _ h3 u3 f3 H3 q3 hu3 => ?_⟩
  obtain ⟨i, e, h4⟩ := h3.bind.okk (intR_noex _)
  obtain ⟨j, e', h5⟩ := h4.bind.okk (intR_noex _)
  obtain ⟨k, e'', h6⟩ := h5.bind.okk (intR_noex _)
  obtain ⟨ds, e2, kk⟩ := h6.okk (rngR3_noex _ _ _)
  obtain ⟨n, hn, rfl⟩ := rngR3_ok e2
  have hr := hv.read
  rw [intR_cases e] at hr
  have hr2 := hu.read
  rw [intR_cases e'] at hr2
  have hr3 := hu3.read
  rw [intR_cases e''] at hr3
  exact ⟨i, j, k, n, by rw [hr.int, hr2.int, hr3.int], hn, kk _ f3 H3 ((q1.trans q2).trans q3) (wk_rng3 i k n)⟩
theorem impI_rev {x : E} {σ H Rr} (h : dI L K W (.rev x) σ H Rr) : RT.iRevA K (dV L K W x) σ H Rr := by
  obtain ⟨f0, H0, f, en, m, ot⟩ := h
  have o1 := Out.bind (show Out L.cls W σ f H ((L.ev x en).bind fun p => (seqR p.1).bind fun xs => R.ok xs.reverse) _ from ot)
  refine ⟨f0, H0, f, en, m, o1.imp (Po.refl m.po.sub) fun p _ h1 v f1 H1 q1 hv => ?_⟩
  obtain ⟨xs, e, k⟩ := h1.bind.okk (seqR_noex _)
  obtain ⟨f2, q2, hv2⟩ := hv.settle q1
  obtain ⟨a, vs, rfl, ha, hs | hs⟩ := seq_of (H' := H1) e hv2
  · exact ⟨a, vs, rfl, .inl ⟨sql_same q2.sub hs, k _ f2 H1 q2 (wk_revL hs ha)⟩⟩
  · exact ⟨a, vs, rfl, .inr ⟨sqt_same q2.sub hs, k _ f2 H1 q2 (wk_revT hs ha)⟩⟩
theorem impI_revr {x : E} {σ H Rr} (h : dI L K W (.revr x) σ H Rr) : iRevR (tRg1 (dV L K W x)) σ H Rr := by
  obtain ⟨f0, H0, f, en, m, ot⟩ := h
  have o1 := Out.bind (show Out L.cls W σ f H ((L.ev x en).bind fun p => (intR p.1).bind fun j => (rngR 0 j).bind fun xs => R.ok xs.reverse) _ from ot)
  refine ⟨f0, H0, f, en, m, o1.imp (Po.refl m.po.sub) fun p _ h1 v f1 H1 q1 hv => ?_⟩
  obtain ⟨j, e, h2⟩ := h1.bind.okk (intR_noex _)
  obtain ⟨ds, e2, k⟩ := h2.bind.okk (rngR_noex _ _)
  obtain ⟨s1, s2, rfl⟩ := rngR_ok e2
  have hr := hv.read
  rw [intR_cases e] at hr
  have hs := small_ok s2
  exact ⟨j, hr.int, by decide, by decide, hs.1, hs.2, k _ f1 H1 q1 (wk_revr j)⟩
theorem impI_enum {x : E} {σ H Rr} (h : dI L K W (.enum x) σ H Rr) : iEnum K (tCons (dV L K W x) tNil) σ H Rr ∨ iEnumT K (tCons (dV L K W x) tNil) σ H Rr := by
  obtain ⟨f0, H0, f, en, m, ot⟩ := h
  have o1 := Out.bind (show Out L.cls W σ f H ((L.ev x en).bind fun p => (seqR p.1).bind fun xs => R.ok (enumD xs)) _ from ot)
  cases e : L.ev x en with
  | no => rw [e] at o1; exact o1.elim
  | ex k =>
    rw [e] at o1
    exact .inl ⟨f0, H0, f, en, m, by rw [e]; exact o1⟩
  | ok p =>
    rw [e] at o1
    have o2 : Out L.cls W σ f H ((seqR p.1).bind fun xs => R.ok (enumD xs)) _ := o1
    obtain ⟨xs, e1, k⟩ := o2.bind.okk (seqR_noex _)
    rcases seqR_cases e1 with z | z
    · refine .inl ⟨f0, H0, f, en, m, ?_⟩
      rw [e]
      intro v f' H' q hv
      obtain ⟨f2, q2, hv2⟩ := hv.settle q
      rw [z] at hv2
      cases hv2 with
      | lst hs ha => exact ⟨_, _, rfl, sql_same q2.sub hs, k _ f2 H' q2 (wk_enumL hs ha)⟩
    · refine .inr ⟨f0, H0, f, en, m, ?_⟩
      rw [e]
      intro v f' H' q hv
      obtain ⟨f2, q2, hv2⟩ := hv.settle q
      rw [z] at hv2
      cases hv2 with
      | tup hs ha => exact ⟨_, _, rfl, sqt_same q2.sub hs, k _ f2 H' q2 (wk_enumT hs ha)⟩
theorem zipR_ok {a b : D} {ds : List D} (e : zipR a b = .ok ds) : (∃ xs ys, a = .list xs ∧ b = .list ys ∧ ds = zipD xs ys) ∨ ∃ xs ys, a = .tuple xs ∧ b = .tuple ys ∧ ds = zipD xs ys := by
  cases a <;> cases b <;> first
    | (cases e; exact .inl ⟨_, _, rfl, rfl, rfl⟩)
    | (cases e; exact .inr ⟨_, _, rfl, rfl, rfl⟩)
    | cases e
theorem impI_zip {x y : E} {σ H Rr} (h : dI L K W (.zip x y) σ H Rr) : RZ.iZipA K (tCons (dV L K W x) (tCons (dV L K W y) tNil)) σ H Rr := by
  obtain ⟨f0, H0, f, en, m, ot⟩ := h
  have o1 := Out.bind (show Out L.cls W σ f H ((L.ev x en).bind fun p => (L.ev y en).bind fun r => zipR p.1 r.1) _ from ot)
  refine ⟨f0, H0, f, en, m, o1.imp (Po.refl m.po.sub) fun p _ h1 v f1 H1 q1 hv => ?_⟩
  obtain ⟨f2, q2, hv2⟩ := hv.settle q1
  refine ⟨f0, H0, f2, en, m.mono q2, h1.bind.imp q2 fun r _ h2 u f3 H3 q3 hu => ?_⟩
  obtain ⟨f4, q4, hu2⟩ := hu.settle q3
  obtain ⟨ds, e, k⟩ := h2.okk (zipR_noex _ _)
  have hv3 := dp_same q4.sf hv2
  rcases zipR_ok e with ⟨xs, ys, z1, z2, rfl⟩ | ⟨xs, ys, z1, z2, rfl⟩
  · rw [z1] at hv3
    rw [z2] at hu2
    cases hv3 with
    | lst hs ha => cases hu2 with
      | lst ht hb => exact ⟨_, _, _, _, rfl, .inl ⟨sql_same q4.sub hs, sql_same q4.sub ht, k _ f4 H3 (q2.trans q4) (wk_zipL hs ha ht hb)⟩⟩
  · rw [z1] at hv3
    rw [z2] at hu2
    cases hv3 with
    | tup hs ha => cases hu2 with
      | tup ht hb => exact ⟨_, _, _, _, rfl, .inr ⟨sqt_same q4.sub hs, sqt_same q4.sub ht, k _ f4 H3 (q2.trans q4) (wk_zipT hs ha ht hb)⟩⟩
end
end AW

/-! AwSnd5: comprehensions, and all expressions. -/
namespace AW
open PySem PySem.Spec PyProof.Rows L2

theorem Po.upd {f H f' H' : Hp} (q : Po f H f' H') {p : Addr} {o : HO} (h1 : H p = none) (h2 : f' p = none) : Po f H f' (L2.upd H' p o) :=
  ⟨fun a x e => by rw [upd_ne (ne_of_none e h1)]; exact q.sH _ _ e, q.sf, fun a x e => by rw [upd_ne (ne_of_none e h2)]; exact q.sub _ _ e, q.gro⟩
theorem wipe_at (σ : L2.St) : ∀ (vs : List Nat) (i : Nat), (L2.wipe σ vs)[i]? = if i ∈ vs then (σ[i]?).map (fun _ => none) else σ[i]?
  | [], i => by rw [if_neg (by simp)]; rfl
  | v :: vs, i => by
    show ((L2.wipe σ vs).set v none)[i]? = _
    by_cases h : v = i
    · subst h
      rw [if_pos (by simp)]
      by_cases hl : v < σ.length
      · rw [List.getElem?_set_self (by rw [L2.wipe_length]; exact hl), List.getElem?_eq_getElem hl]; rfl
      · rw [List.getElem?_eq_none (by rw [List.length_set, L2.wipe_length]; omega), List.getElem?_eq_none (by omega)]; rfl
    · rw [List.getElem?_set_ne h, wipe_at σ vs i]
      by_cases hi : i ∈ vs
      · rw [if_pos hi, if_pos (List.mem_cons_of_mem _ hi)]
      · rw [if_neg hi, if_neg (by simp only [List.mem_cons, not_or]; exact ⟨Ne.symm h, hi⟩)]
theorem wipe_wipe (σ : L2.St) (vs : List Nat) : L2.wipe (L2.wipe σ vs) vs = L2.wipe σ vs := by
  refine List.ext_getElem? fun i => ?_
  rw [wipe_at, wipe_at]
  by_cases hi : i ∈ vs
  · rw [if_pos hi, if_pos hi]
    cases σ[i]? <;> rfl
  · rw [if_neg hi]
mutual
theorem bindT_noex : ∀ (tg : Tg) (d : D) (en : En) (k : Nat), bindT tg d en ≠ .ex k
  | .nm i, d, en, k => ok_noex k
  | .tp ts, .tuple ds, en, k => bindTs_noex ts ds en k
  | .tp ts, .list ds, en, k => bindTs_noex ts ds en k
  | .tp ts, .none, en, k => no_noex k
  | .tp ts, .bool _, en, k => no_noex k
  | .tp ts, .int _, en, k => no_noex k
  | .tp ts, .str _, en, k => no_noex k
  | .tp ts, .dict _, en, k => no_noex k
theorem bindTs_noex : ∀ (ts : Tgs) (ds : List D) (en : En) (k : Nat), bindTs ts ds en ≠ .ex k
  | .nil, [], en, k => ok_noex k
  | .nil, _ :: _, en, k => no_noex k
  | .cons t r, [], en, k => no_noex k
  | .cons t r, d :: ds, en, k => bind_noex (bindT_noex t d en) (fun e1 => bindTs_noex r ds e1) k
end
theorem nox_noex {α : Type} {r : R α} (k : Nat) : r.nox ≠ .ex k := by cases r <;> intro h <;> cases h
theorem compL_noex {F : D → R (Option D)} (h : ∀ d k, F d ≠ .ex k) : ∀ (ds : List D) (k : Nat), compL F ds ≠ .ex k
  | [], k => ok_noex k
  | d :: ds, k => bind_noex (h d) (fun o => bind_noex (compL_noex h ds) fun _ => ok_noex) k

section
variable {L : Lk} {N : List Str} {sc : Nms} {W : WX} {X : Cx} {K : PySem.W.Frag}
def dB (L : Lk) (K : PySem.W.Frag) (W : WX) : Eo → TT
  | .none => tYes
  | .some e => dT L K W e
theorem imp_cmp {elt : E} {tg : Tg} {it : It} {ifs : Eo} {own : List (Str × Nat)} (ht : ∀ i ∈ tgSlots tg, i ∈ own.map (·.2)) {σ H Q} (h : dV L K W (.cmp elt tg it ifs own) σ H Q) :
    tLc (dI L K W it) (gD K tg) (dB L K W0 ifs) (dV L K W0 elt) (own.map (·.2)) σ H Q := by
  obtain ⟨f0, H0, f, en, m, ot⟩ := h
  generalize hvs : own.map (·.2) = vs at ht ⊢
  have ot' : Out L.cls W σ f H ((evI L.G L.c (dflT L.T) it en).bind fun ds => (compL (fun d => (bindT tg d (wipe en (own.map (·.2)))).bind fun en' => (evB L.G L.c (dflT L.T) ifs en').nox.bind fun b =>
      if b then (L.ev elt en').nox.bind fun y => R.ok (some y.1) else .ok none) ds).bind fun ys => if ds.length ≤ line then R.ok (PyData.list ys, true) else .no) (Ac K f H Q) := ot
  rw [hvs] at ot'
  generalize hF : (fun d => (bindT tg d (wipe en vs)).bind fun en' => (evB L.G L.c (dflT L.T) ifs en').nox.bind fun b => if b then (L.ev elt en').nox.bind fun y => R.ok (some y.1) else .ok none) = F at ot'
  have hFx : ∀ d k, F d ≠ .ex k := fun d k => by
    rw [← hF]
    exact bind_noex (bindT_noex _ _ _) (fun en' => bind_noex (fun k => nox_noex k) fun b => ite_noex (bind_noex (fun k => nox_noex k) fun _ => ok_noex) ok_noex) k
  refine ⟨f0, H0, f, en, m, ot'.bind.imp (Po.refl m.po.sub) fun ds _ h1 J f1 H1 q1 wk D hD => ?_⟩
  obtain ⟨ys, ey, h2⟩ := h1.bind.okk (compL_noex hFx ds)
  have hz : ds.length ≤ line := by
    refine Classical.byContradiction fun hz => ?_
    rw [if_neg hz] at h2
    exact h2
  rw [if_pos hz] at h2
  have hlen : ∀ n, n < ds.length → n < sizeLine := fun n hn => by rw [← line_eq]; omega
  let St : Nat → Hp → Prop := fun i H' => i ≤ ds.length ∧ ∃ fi acc done rest, Po f1 H1 fi H' ∧ fi D = none ∧ H' D = some (.lst acc) ∧ DpAll K fi acc done ∧ compL F (ds.drop i) = .ok rest ∧ done ++ rest = ys ∧ done.length ≤ i
  refine ⟨fun i mm H' => mm = ds.length - i ∧ St i H', ⟨ds.length, rfl, Nat.zero_le _, f1, [], [], ys, q1.sub |> fun s => (Po.refl s).newH hD, q1.sub.free hD, upd_same, .nil, ey, rfl, Nat.le_refl _⟩, ?_⟩
  rintro i mm H' ⟨rfl, hi, fi, acc, done, rest, q2, fD, HD, hacc, hcomp, hys, hdl⟩
  have sm1 : Same f1 H' := q2.sf.trans q2.sub
  by_cases hlt : i < ds.length
  · refine .inr ⟨wk.go i H' sm1 hlt, St (i + 1), fun H'' hst => ⟨_, by omega, rfl, hst⟩, fun x H2 hy => ?_⟩
    obtain ⟨d, hd, hw⟩ := wk.yld i H' x H2 hlt sm1 hy
    obtain ⟨f2, q3, hx⟩ := hw fi q2.sf q2.sub
    have hdrop : ds.drop i = d :: ds.drop (i + 1) := by
      rw [List.drop_eq_getElem_cons hlt]
      have : ds[i] = d := by
        rw [List.getElem?_eq_getElem hlt] at hd
        exact Option.some.inj hd
      rw [this]
    rw [hdrop] at hcomp
    have hcomp' : (F d).bind (fun o => (compL F (ds.drop (i + 1))).bind fun ys => R.ok (consO o ys)) = .ok rest := hcomp
    obtain ⟨o, eo, hc2⟩ := R.of_bind hcomp'
    obtain ⟨rest', er, hc3⟩ := R.of_bind hc2
    have erest : rest = consO o rest' := by cases hc3; rfl
    rw [← hF] at eo
    obtain ⟨en', eb, eo2⟩ := R.of_bind eo
    obtain ⟨b, ebb, eo3⟩ := R.of_bind eo2
    have ebb := R.of_nox ebb
    have m2 := (m.mono (q1.trans (q2.trans q3))).wipes vs
    have HD2 : H2 D = some (.lst acc) := q3.sH _ _ HD
    have fD2 : f2 D = none := q3.loose fD HD
    refine ⟨f0, H0, f2, _, d, en', m2, hx, eb, fun σ' m' hwp => ⟨(hwp vs ht).trans (wipe_wipe σ vs), ?_⟩⟩
    -- behind the tests
    have core : ∀ f3 H3, Po f2 H2 f3 H3 → (if b = true then dV L K W0 elt σ' H3 fun y H4 => ∃ acc, H4 D = some (.lst acc) ∧ acc.length < sizeLine ∧ St (i + 1) (L2.upd H4 D (.lst (acc ++ [y]))) else St (i + 1) H3) := fun f3 H3 q4 => by
      have HD3 : H3 D = some (.lst acc) := q4.sH _ _ HD2
      have fD3 : f3 D = none := q4.loose fD2 HD2
      cases b with
      | true =>
        rw [if_pos rfl] at eo3 ⊢
        obtain ⟨p, ep, eo4⟩ := R.of_bind eo3
        have ep := R.of_nox ep
        refine ⟨f0, H0, f3, en', m'.mono q4, ?_⟩
        rw [ep]
        intro v f4 H4 q5 hv
        obtain ⟨f5, q6, hv2⟩ := hv.settle q5
        have fD5 : f5 D = none := q6.loose fD3 HD3
        have hal := hacc.length
        refine ⟨acc, q6.sH _ _ HD3, hlen _ (by omega), hlt, f5, acc ++ [v], done ++ [p.1], rest', ?_, fD5, upd_same, ?_, er, ?_, by rw [List.length_append, List.length_singleton]; omega⟩
        · exact (q2.trans (q3.trans (q4.trans q6))).upd hD fD5
        · exact (dpa_same ((q3.trans (q4.trans q6)).sf) hacc).append (.cons hv2 .nil)
        · cases eo4
          rw [List.append_assoc]
          rw [erest] at hys
          exact hys
      | false =>
        rw [if_neg Bool.false_ne_true] at eo3 ⊢
        cases eo3
        refine ⟨hlt, f3, acc, done, rest', q2.trans (q3.trans q4), fD3, HD3, dpa_same (q3.trans q4).sf hacc, er, ?_, by omega⟩
        rw [erest] at hys
        exact hys
    cases ifs with
    | none =>
      have ebb' : R.ok true = R.ok b := ebb
      cases ebb'
      exact core f2 H2 (Po.refl q3.sub)
    | some e =>
      refine ⟨f0, H0, f2, en', m', ?_⟩
      have ebb' : evT L.G L.c (dflT L.T) e en' = .ok b := ebb
      rw [ebb']
      exact fun f3 H3 q4 => core f3 H3 q4
  · have ei : i = ds.length := by omega
    subst ei
    refine .inl ⟨wk.stop H' sm1, ?_⟩
    rw [List.drop_length] at hcomp
    have : rest = [] := by cases hcomp; rfl
    subst this
    rw [List.append_nil] at hys
    subst hys
    exact h2 _ fi H' (q1.trans q2) ⟨done, D, acc, rfl, rfl, q1.sH.free hD, fD, HD, hacc⟩

/-! ### a comprehension's block -/
theorem blk_ok (xc : XC L N sc W X) {scope : Scope} {own : List (Str × Nat)} (h : blkOkB N sc scope own = true) : BlkOk X.N X.env.scope scope own := by
  unfold blkOkB at h
  simp only [Bool.and_eq_true, List.all_eq_true] at h
  obtain ⟨⟨⟨⟨h1, h2⟩, h3⟩, h4⟩, h5⟩ := h
  refine ⟨eq_of_beq h1, fun y hy => eq_of_beq (h2 y hy), fun p hp => by rw [xc.N]; exact eq_of_beq (h3 p hp), fun y hy e => ?_, fun y hy e => ?_⟩
  · have q := h4 y hy
    rw [e] at q
    simp only [Bool.or_eq_true] at q
    rcases q with (q | q) | q
    · cases q
    · exact .inl (xc.nm _ _ (eq_of_beq q)).1
    · exact xc.nm _ _ (eq_of_beq q)
  · have q := h5 y hy
    simp only [Bool.or_eq_true, Bool.not_eq_true'] at q
    rcases q with (q | q) | q
    · rcases e with e | e
      · rw [e] at q; cases q
      · rw [e] at q; cases q
    · obtain ⟨p, hp, ep⟩ := List.any_eq_true.mp q
      exact .inl (by rw [← eq_of_beq ep]; exact List.mem_map_of_mem hp)
    · right
      rw [xc.N]
      intro hm
      rw [List.contains_iff_mem.mpr hm] at q
      cases q
theorem XC.blk (xc : XC L N sc W X) {scope : Scope} {own : List (Str × Nat)} (h : blkOkB N sc scope own = true) (s : Shared) (H : Hp) (C : Addr) (cl : List (Str × Addr)) (fp : List Addr) :
    XC L N scope.names W0 (X.blk s H scope (compEnvC scope cl C X.env) fp) := by
  have bk := blk_ok xc h
  refine ⟨xc.lk, xc.N, xc.nd, ?_, fun x k hk => ?_, xc.calm, xc.room, takes0, xc.py⟩
  · show (relS scope X.env.scope).kind = .function
    exact bk.kind
  · have keep : k ≠ .free → (relS scope X.env.scope).names.lookup x = some k := fun hn => lookup_relS_keep hn hk
    have scp : (compEnvC scope cl C X.env).scope = relS scope X.env.scope := rfl
    cases k with
    | «local» => exact keep (by decide)
    | cell => exact ⟨keep (by decide), by show (scope.names.lookup x == some .cell) = true; rw [hk]; rfl⟩
    | free =>
      have hm : (x, NameKind.free) ∈ scope.names := PySem.mem_of_lookup hk
      have go : ∀ (ns : List (Str × NameKind)), ns.lookup x = some .free → (ns.map fun (n, k) => if (k == NameKind.free && X.env.scope.kind == .function && X.env.scope.names.lookup n == some .cell) then (n, NameKind.cell) else (n, k)).lookup x = some .cell ∨ (ns.map fun (n, k) => if (k == NameKind.free && X.env.scope.kind == .function && X.env.scope.names.lookup n == some .cell) then (n, NameKind.cell) else (n, k)).lookup x = some .free := by
        intro ns
        induction ns with
        | nil => intro h; cases h
        | cons p r ih =>
          obtain ⟨n, k₀⟩ := p
          intro h
          cases hx : (x == n) with
          | true =>
            simp only [List.lookup_cons, hx] at h
            cases h
            by_cases hc : (NameKind.free == NameKind.free && X.env.scope.kind == .function && X.env.scope.names.lookup n == some .cell) = true
            · left
              show List.lookup x ((if (NameKind.free == NameKind.free && X.env.scope.kind == .function && X.env.scope.names.lookup n == some .cell) = true then (n, NameKind.cell) else (n, NameKind.free)) :: _) = _
              rw [if_pos hc]
              simp only [List.lookup_cons, hx]
            · right
              show List.lookup x ((if (NameKind.free == NameKind.free && X.env.scope.kind == .function && X.env.scope.names.lookup n == some .cell) = true then (n, NameKind.cell) else (n, NameKind.free)) :: _) = _
              rw [if_neg hc]
              simp only [List.lookup_cons, hx]
          | false =>
            simp only [List.lookup_cons, hx] at h
            have q := ih h
            by_cases hc : (k₀ == NameKind.free && X.env.scope.kind == .function && X.env.scope.names.lookup n == some .cell) = true
            · show List.lookup x ((if (k₀ == NameKind.free && X.env.scope.kind == .function && X.env.scope.names.lookup n == some .cell) = true then (n, NameKind.cell) else (n, k₀)) :: _) = _ ∨ List.lookup x ((if (k₀ == NameKind.free && X.env.scope.kind == .function && X.env.scope.names.lookup n == some .cell) = true then (n, NameKind.cell) else (n, k₀)) :: _) = _
              rw [if_pos hc]
              simp only [List.lookup_cons, hx]
              exact q
            · show List.lookup x ((if (k₀ == NameKind.free && X.env.scope.kind == .function && X.env.scope.names.lookup n == some .cell) = true then (n, NameKind.cell) else (n, k₀)) :: _) = _ ∨ List.lookup x ((if (k₀ == NameKind.free && X.env.scope.kind == .function && X.env.scope.names.lookup n == some .cell) = true then (n, NameKind.cell) else (n, k₀)) :: _) = _
              rw [if_neg hc]
              simp only [List.lookup_cons, hx]
              exact q
      exact go scope.names hk
    | globalImplicit => exact keep (by decide)
    | _ => trivial
end
end AW

/-! AwSnd6: all expressions. -/
namespace AW
open PySem PySem.Spec PyProof.Rows L2

theorem and2 {a b : Bool} (h : (a && b) = true) : a = true ∧ b = true := Bool.and_eq_true_iff.mp h
section
variable {L : Lk}
theorem imp_var {K : PySem.W.Frag} {W : WX} {i : Nat} {σ H Q} (h : dV L K W (.var i) σ H Q) : tVar i σ H Q := by
  obtain ⟨f0, H0, f, en, m, ot⟩ := h
  have o1 : Out L.cls W σ f H ((val en i).bind v1) (Ac K f H Q) := ot
  unfold val at o1
  cases e : en[i]? with
  | none => rw [e] at o1; exact o1.elim
  | some s =>
    rw [e] at o1
    cases s with
    | va d =>
      obtain ⟨v, hv, hd⟩ := m.va e
      exact ⟨v, hv, Ac.here m.po.sub o1 hd⟩
    | un => exact o1.elim
    | ow ds => exact o1.elim
    | rd ds => exact o1.elim
    | er ds => exact o1.elim
theorem imp_con {K : PySem.W.Frag} {W : WX} {d : D} {v : V} (hv : ∀ f, Dp K f v d) {σ H Q} (h : dV L K W (.con d) σ H Q) : tC v σ H Q := by
  obtain ⟨f0, H0, f, en, m, ot⟩ := h
  exact Ac.here m.po.sub ot (hv f)
theorem imp_glb {K : PySem.W.Frag} {W : WX} {j : Nat} {v : V} (hv : ∀ f, Dp K f v (L.G j)) {σ H Q} (h : dV L K W (.glb j) σ H Q) : tC v σ H Q := by
  obtain ⟨f0, H0, f, en, m, ot⟩ := h
  exact Ac.here m.po.sub ot (hv f)
theorem rO1_call {K : PySem.W.Frag} {W : WX} {o : O1} {a : E} {σ H Q} (h : dV L K W (.op1 o a) σ H Q) : tCB (rB1 K o) (tCons (dR L K W a) tNil) σ H Q := by
  obtain ⟨f0, H0, f, en, m, ot⟩ := imp_op1 h
  exact ⟨f0, H0, f, en, m, ot.imp (Po.refl m.po.sub) fun d _ k v f' H' q hv => ⟨v, rfl, k v f' H' q hv⟩⟩
theorem rO2_call {K : PySem.W.Frag} {W : WX} {o : O2} {a b : E} {σ H Q} (h : dV L K W (.op2 o a b) σ H Q) : tCB (rB2 K o) (tCons (dR L K W a) (tCons (dR L K W b) tNil)) σ H Q := by
  obtain ⟨f0, H0, f, en, m, ot⟩ := imp_op2 h
  refine ⟨f0, H0, f, en, m, ot.imp (Po.refl m.po.sub) fun d _ k v f' H' q hv => ?_⟩
  obtain ⟨g0, G0, g, gen, gm, got⟩ := k v f' H' q hv
  exact ⟨g0, G0, g, gen, gm, got.imp (Po.refl gm.po.sub) fun d _ k u f'' H'' q' hu => ⟨v, u, rfl, k u f'' H'' q' hu⟩⟩
theorem plain_ix {r : Expr} (h : plainE r = true) : PlainIx r := by
  intro o i
  cases r <;> first
    | rfl
    | cases h
theorem call1_blt {N : List Str} {sc : Nms} {W : WX} {X : Cx} (xc : XC L N sc W X) {f : Str} {b : Expr} {p pos : Pos} {a : E} {o : O1} (hf : (o1Fn o == some f) = true) (hg : glOk sc f = true) (hc : ckE L.T L.cons L.clsN N sc a b = true) (ih : PE X b (dV L X.K W a)) :
    PE X (.Call (.Name f p) [b] [] pos) (dV L X.K W (.op1 o a)) := by
  have e := eq_of_beq hf
  obtain ⟨g1, g2, g3⟩ := gl_of xc hg
  have pa : PA X [b] (tCons (dR L X.K W a) tNil) := pa_cons (sR_of xc hc ih) pa_nil (star_of hc [])
  have pl : (backTo pos (starEach [] X.env)).any (·.1) = false := rfl
  cases o <;> cases e
  case abs => exact PE.imp (pe_callB cr_abs g1 (blt_of xc (by decide +kernel)) (by decide +kernel) pa g3 g2 (star_of hc []) pl) fun σ H Q q => rO1_call q
  case len => exact PE.imp (pe_callB cr_len g1 (blt_of xc (by decide +kernel)) PySem.boot_len pa g3 g2 (star_of hc []) pl) fun σ H Q q => rO1_call q
  case all => exact PE.imp (pe_callB (cr_allA xc.calm) g1 (blt_of xc (by decide +kernel)) (by decide +kernel) pa g3 g2 (star_of hc []) pl) fun σ H Q q => rO1_call q
  case list => exact PE.imp (pe_callTy cr_listA g1 (blt_of xc (by decide +kernel)) (by decide +kernel) pa g3 g2 (star_of hc []) pl) fun σ H Q q => rO1_call q
  case tuple => exact PE.imp (pe_callTy cr_tupleA g1 (blt_of xc (by decide +kernel)) (by decide +kernel) pa g3 g2 (star_of hc []) pl) fun σ H Q q => rO1_call q
  case intB => exact PE.imp (pe_callTy cr_intB g1 (blt_of xc (by decide +kernel)) (by decide +kernel) pa g3 g2 (star_of hc []) pl) fun σ H Q q => rO1_call q
  case strI => exact PE.imp (pe_callTy cr_strI g1 (blt_of xc (by decide +kernel)) (by decide +kernel) pa g3 g2 (star_of hc []) pl) fun σ H Q q => rO1_call q
theorem call2_blt {N : List Str} {sc : Nms} {W : WX} {X : Cx} (xc : XC L N sc W X) {f : Str} {l r : Expr} {p pos : Pos} {a b : E} {o : O2} (hf : (o2Fn o == some f) = true) (hg : glOk sc f = true) (h1 : ckE L.T L.cons L.clsN N sc a l = true) (h2 : ckE L.T L.cons L.clsN N sc b r = true)
    (i1 : PE X l (dV L X.K W a)) (i2 : PE X r (dV L X.K W b)) : PE X (.Call (.Name f p) [l, r] [] pos) (dV L X.K W (.op2 o a b)) := by
  have e := eq_of_beq hf
  obtain ⟨g1, g2, g3⟩ := gl_of xc hg
  have pa : PA X [l, r] (tCons (dR L X.K W a) (tCons (dR L X.K W b) tNil)) := pa_cons (sR_of xc h1 i1) (pa_cons (sR_of xc h2 i2) pa_nil (star_of h2 [])) (star_of h1 [r])
  have pl : (backTo pos (starEach [r] X.env)).any (·.1) = false := by rw [star_of h2 []]; rfl
  cases o <;> cases e
  case max2 => exact PE.imp (pe_callB (cr_max2 xc.calm) g1 (blt_of xc (by decide +kernel)) (by decide +kernel) pa g3 g2 (star_of h1 [r]) pl) fun σ H Q q => rO2_call q
  case min2 => exact PE.imp (pe_callB (cr_min2 xc.calm) g1 (blt_of xc (by decide +kernel)) (by decide +kernel) pa g3 g2 (star_of h1 [r]) pl) fun σ H Q q => rO2_call q
theorem glb_of {N : List Str} {sc : Nms} {W : WX} {X : Cx} (xc : XC L N sc W X) {j : Nat} {x : Str} {p : Pos} (h : ((L.cons[j]?).map (·.1) == some x) = true) (hg : glOk sc x = true) : PE X (.Name x p) (dV L X.K W (.glb j)) := by
  obtain ⟨g1, g2, g3⟩ := gl_of xc hg
  have h' := eq_of_beq h
  cases e : L.cons[j]? with
  | none => rw [e] at h'; cases h'
  | some q =>
    obtain ⟨n, d⟩ := q
    rw [e] at h'
    cases h'
    obtain ⟨v, u, hm, hr, hd⟩ := xc.lk.con j _ _ e
    have eg : L.G j = d := by unfold Lk.G; rw [e]; rfl
    exact PE.imp (pe_glob g1 hm hr g2) fun σ H Q q => imp_glb (by rw [eg]; exact hd) q
theorem con_of {W : WX} {X : Cx} {d : D} {c : Const} {i : Nat} {p : Pos} (h : conOk d c = true) : PE X (.Constant c i p) (dV L X.K W (.con d)) := by
  cases d <;> cases c <;> first
    | (cases h; done)
    | skip
  case none.none => exact PE.imp pe_non fun σ H Q q => imp_con (fun _ => .non) q
  case bool.bool a b =>
    have e : a = b := eq_of_beq h
    subst e
    exact PE.imp pe_bl fun σ H Q q => imp_con (fun _ => .bl _) q
  case int.int a b =>
    have e : a = b := eq_of_beq h
    subst e
    exact PE.imp pe_int fun σ H Q q => imp_con (fun _ => .int _) q
  case str.str a b =>
    have e : a = b := eq_of_beq h
    subst e
    exact PE.imp pe_str fun σ H Q q => imp_con (fun _ => .str _) q
theorem call_of {N : List Str} {sc : Nms} {W : WX} {X : Cx} (xc : XC L N sc W X) {f : Str} {x : Expr} {xs : List Expr} {p pos : Pos} {j m : Nat} {es : Es} (h : (match L.T[j]? with | some g => g.name == f && decide (m ≤ g.dfl.length) | none => false) = true) (hg : glOk sc f = true)
    (hc : ckEs L.T L.cons L.clsN N sc es (x :: xs) = true) (ih : PA X (x :: xs) (dAs L X.K W es)) : PE X (.Call (.Name f p) (x :: xs) [] pos) (dV L X.K W (.call j es m)) := by
  obtain ⟨g1, g2, g3⟩ := gl_of xc hg
  cases e : L.T[j]? with
  | none => rw [e] at h; cases h
  | some g =>
    rw [e] at h
    obtain ⟨h1, h2⟩ := and2 h
    have en := str_beq h1
    subst en
    obtain ⟨fa, fd, dvs, ds, hm, hk, F, hv, hd, hb⟩ := xc.lk.fn j g e m (of_decide_eq_true h2)
    have st : starEach (x :: xs) X.env = (false, eval x X.env) :: starEach xs X.env ∧ (backTo pos (starEach xs X.env)).any (·.1) = false := by
      cases es with
      | nil => cases hc
      | cons e1 r =>
        have hc' : (ckE L.T L.cons L.clsN N sc e1 x && ckEs L.T L.cons L.clsN N sc r xs) = true := hc
        exact ⟨star_of (and2 hc').1 xs, stars_of (and2 hc').2⟩
    refine PE.imp (pe_callSD F xc.room g1 hm hk hb hv (fun σ => passAt xc.tk σ) ih g2 st.1 st.2) fun σ H Q q => imp_call (fun H => ?_) q
    have ed : dflT L.T j m = g.dv m := by unfold dflT; rw [e]; rfl
    rw [ed]
    exact hd H

theorem callv_of {N : List Str} {sc : Nms} {W : WX} {X : Cx} (xc : XC L N sc W X) {f : Str} {x : Expr} {xs : List Expr} {p pos : Pos} {j m : Nat} {es : Es} (h : (match L.T[j]? with | some g => g.name == f && decide (m ≤ g.dfl.length) | none => false) = true) (hg : glOk sc f = true)
    (hc : ckEs L.T L.cons L.clsN N sc es (x :: xs) = true) (ih : PA X (x :: xs) (dAs L X.K W es)) : PE X (.Call (.Name f p) (x :: xs) [] pos) (dV L X.K W (.callv j es m)) := by
  obtain ⟨g1, g2, g3⟩ := gl_of xc hg
  cases e : L.T[j]? with
  | none => rw [e] at h; cases h
  | some g =>
    rw [e] at h
    obtain ⟨h1, h2⟩ := and2 h
    have en := str_beq h1
    subst en
    obtain ⟨fa, fd, dvs, ds, hm, hk, F, hv, hd, hb⟩ := xc.lk.fn j g e m (of_decide_eq_true h2)
    have st : starEach (x :: xs) X.env = (false, eval x X.env) :: starEach xs X.env ∧ (backTo pos (starEach xs X.env)).any (·.1) = false := by
      cases es with
      | nil => cases hc
      | cons e1 r =>
        have hc' : (ckE L.T L.cons L.clsN N sc e1 x && ckEs L.T L.cons L.clsN N sc r xs) = true := hc
        exact ⟨star_of (and2 hc').1 xs, stars_of (and2 hc').2⟩
    refine PE.imp (pe_callSD F xc.room g1 hm hk hb hv (fun σ => passAt xc.tk σ) ih g2 st.1 st.2) fun σ H Q q => imp_callv (fun H => ?_) q
    have ed : dflT L.T j m = g.dv m := by unfold dflT; rw [e]; rfl
    rw [ed]
    exact hd H

/-! ### isinstance -/
theorem ty_boot {n : String} (h : n = "int" ∨ n = "bool" ∨ n = "str" ∨ n = "tuple" ∨ n = "list") : bootBuiltins (Str.ofString n) = some (.type n) ∧ Str.ofString n ∈ blts := by
  rcases h with rfl | rfl | rfl | rfl | rfl <;> exact ⟨by decide +kernel, by decide +kernel⟩
theorem tyName_ok {t : Ty} {e : Expr} (h : tyName t e = true) : ∃ n p, t = .bi n ∧ e = .Name (Str.ofString n) p ∧ (n = "int" ∨ n = "bool" ∨ n = "str" ∨ n = "tuple" ∨ n = "list") := by
  cases t with
  | ow c => cases e <;> cases h
  | bi n =>
    cases e with
    | Name x p =>
      obtain ⟨h1, h2⟩ := and2 (show (x == Str.ofString n && (n == "int" || n == "bool" || n == "str" || n == "tuple" || n == "list")) = true from h)
      have e1 := str_beq h1
      subst e1
      simp only [Bool.or_eq_true, beq_iff_eq] at h2
      refine ⟨n, p, rfl, rfl, ?_⟩
      rcases h2 with (((h2 | h2) | h2) | h2) | h2
      · exact .inl h2
      · exact .inr (.inl h2)
      · exact .inr (.inr (.inl h2))
      · exact .inr (.inr (.inr (.inl h2)))
      · exact .inr (.inr (.inr (.inr h2)))
    | _ => cases h
theorem pe_ty {N : List Str} {sc : Nms} {W : WX} {X : Cx} (xc : XC L N sc W X) {n : String} {p : Pos} (hn : n = "int" ∨ n = "bool" ∨ n = "str" ∨ n = "tuple" ∨ n = "list") (hg : glOk sc (Str.ofString n) = true) : PE X (.Name (Str.ofString n) p) (tC (.ty n)) := by
  obtain ⟨g1, g2, g3⟩ := gl_of xc hg
  exact pe_bltn g1 (blt_of xc (ty_boot hn).2) (ty_boot hn).1 rfl g3 g2
theorem any_ty {K : PySem.W.Frag} {d : D} {t : String} (h : ∀ n : String, (n = "int" ∨ n = "bool" ∨ n = "str" ∨ n = "tuple" ∨ n = "list") → kitB t n = some (isTy d (.bi n))) : ∀ (ts : List Ty) (es : List Expr) (sc : Nms), tysOk sc ts es = true →
    ∃ ns : List String, ts = ns.map .bi ∧ es.length = ns.length ∧ (∀ n ∈ ns, n = "int" ∨ n = "bool" ∨ n = "str" ∨ n = "tuple" ∨ n = "list") ∧ PySem.W.kitAny K (.type t) (ns.map Value.type) = some (ts.any fun t => isTy d t)
  | [], [], sc, _ => ⟨[], rfl, rfl, fun _ z => (List.not_mem_nil z).elim, rfl⟩
  | [], _ :: _, sc, z => by cases z
  | _ :: _, [], sc, z => by cases z
  | t1 :: ts, e :: es, sc, z => by
    obtain ⟨z1, z2⟩ := and2 (show (tyName t1 e && tyGl sc t1 && tysOk sc ts es) = true from z)
    obtain ⟨z3, z4⟩ := and2 z1
    obtain ⟨n, p, rfl, rfl, hn⟩ := tyName_ok z3
    obtain ⟨ns, rfl, hl, hns, hk⟩ := any_ty h ts es sc z2
    refine ⟨n :: ns, rfl, by rw [List.length_cons, List.length_cons, hl], fun m hm => ?_, ?_⟩
    · rcases List.mem_cons.mp hm with rfl | hm
      · exact hn
      · exact hns m hm
    · refine kitAny_cons (kit_ty (h n hn)) (fun e => ?_) (fun e => ?_)
      · rw [hk]
        show some _ = some (isTy d (.bi n) || _)
        rw [e]; rfl
      · show (isTy d (.bi n) || _) = true
        rw [e]; rfl
theorem pa_tys {N : List Str} {sc : Nms} {W : WX} {X : Cx} (xc : XC L N sc W X) : ∀ {ts : List Ty} {es : List Expr} {ns : List String}, tysOk sc ts es = true → ts = ns.map .bi → PA X es (fun σ H Q => Q (ns.map V.ty) H)
  | [], [], [], _, _ => pa_nil
  | [], [], _ :: _, _, e => by cases e
  | [], _ :: _, _, z, _ => by cases z
  | _ :: _, [], _, z, _ => by cases z
  | t :: ts, e :: es, [], z, q => by cases q
  | t :: ts, e :: es, n :: ns, z, q => by
    cases q
    obtain ⟨z1, z2⟩ := and2 (show (tyName (.bi n) e && tyGl sc (.bi n) && tysOk sc (ns.map .bi) es) = true from z)
    obtain ⟨z3, z4⟩ := and2 z1
    obtain ⟨n', p, en, rfl, hn⟩ := tyName_ok z3
    cases en
    exact PA.imp (pa_cons (pe_ty xc hn z4) (pa_tys xc z2 rfl) rfl) fun σ H Q q => q
theorem isi_of {N : List Str} {sc : Nms} {W : WX} {X : Cx} (xc : XC L N sc W X) {f : Str} {b : Expr} {xs : List Expr} {k : Nat} {p p2 pos : Pos} {a : E} {ts : List Ty} (hf : (f == "isinstance") = true) (hlen : ts.length ≤ 100) (hg : glOk sc f = true) (hc : ckE L.T L.cons L.clsN N sc a b = true) (ht : tysOk sc ts xs = true) (ih : PE X b (dV L X.K W a)) :
    PE X (.Call (.Name f p) [b, .Tuple xs k p2] [] pos) (dV L X.K W (.isi a ts)) := by
  have e := str_beq hf
  subst e
  obtain ⟨g1, g2, g3⟩ := gl_of xc hg
  obtain ⟨ns, ets, hl, hns, _⟩ := any_ty (K := X.K) (d := .none) (t := "NoneType") (fun n hn => by rcases hn with rfl | rfl | rfl | rfl | rfl <;> decide +kernel) ts xs sc ht
  have pt : PE X (.Tuple xs k p2) (tTup fun σ H Q => Q (ns.map V.ty) H) := pe_tup (pa_tys xc ht ets)
  refine PE.imp (pe_callB call_isiT g1 (blt_of xc (by decide +kernel)) (by decide +kernel) (pa_cons (sR_of xc hc ih) (pa_cons pt pa_nil rfl) (star_of hc _)) g3 g2 (star_of hc _) rfl) fun σ H Q q => ?_
  obtain ⟨f0, H0, f, en, m, ot⟩ := q
  have o1 := Out.bind (show Out L.cls W σ f H ((rd1 a en (L.ev a en)).bind fun x => v1 (.bool (ts.any fun t => isTy x t))) (Ac X.K f H Q) from ot)
  refine ⟨f0, H0, f, en, m, o1.imp (Po.refl m.po.sub) fun d _ h1 v f1 H1 q1 hv => ?_⟩
  have hz : ns.length ≤ 1000 := by
    rw [ets, List.length_map] at hlen
    omega
  · refine ⟨by rw [List.length_map]; exact Nat.le_of_lt (small1000 hz), fun tp htp => ?_⟩
    obtain ⟨t, ty, hk⟩ := tyx_of q1.sub hv (no_dict hv)
    obtain ⟨ns', ets', _, _, hka⟩ := any_ty (K := X.K) hk ts xs sc ht
    have ens : ns' = ns := by
      have : ns'.map Ty.bi = ns.map Ty.bi := by rw [← ets', ets]
      exact List.map_inj_right (fun a b h => by cases h; rfl) |>.mp this
    subst ens
    have sm : Same H1 (L2.upd H1 tp (.tup (ns'.map V.ty))) := fun a o e => by rw [upd_ne (ne_of_none e htp)]; exact e
    have q2 := q1.newH (o := .tup (ns'.map V.ty)) htp
    have hv2 := hv.mono (f' := f1) (H' := L2.upd H1 tp (.tup (ns'.map V.ty))) ⟨sm, fun _ _ h => h, q2.sub, fun _ _ h => .inl h⟩
    obtain ⟨t2, ty2, hk2⟩ := tyx_of q2.sub hv2 (no_dict hv)
    obtain ⟨ns2, ets2, _, _, hka2⟩ := any_ty (K := X.K) hk2 ts xs sc ht
    have ens2 : ns2 = ns' := by
      have : ns2.map Ty.bi = ns'.map Ty.bi := by rw [← ets2, ets]
      exact List.map_inj_right (fun a b h => by cases h; rfl) |>.mp this
    subst ens2
    refine ⟨v, tp, ns2.map V.ty, .type t2, ns2.map Value.type, _, rfl, upd_same, ?_, ty2, hka2, ?_⟩
    · have go : ∀ l : List String, Paired ClsV (l.map V.ty) (l.map Value.type) := by
        intro l
        induction l with
        | nil => exact .nil
        | cons n l ih => exact .cons (.ty n) ih
      exact go ns2
    · exact h1 _ f1 _ q2 (.bl _)
theorem isi1_of {N : List Str} {sc : Nms} {W : WX} {X : Cx} (xc : XC L N sc W X) {f x : Str} {b : Expr} {p p2 pos : Pos} {a : E} {ts : List Ty} (hf : (f == "isinstance") = true) (hg : glOk sc f = true) (hc : ckE L.T L.cons L.clsN N sc a b = true) (ht : tysOk sc ts [.Name x p2] = true) (ih : PE X b (dV L X.K W a)) :
    PE X (.Call (.Name f p) [b, .Name x p2] [] pos) (dV L X.K W (.isi a ts)) := by
  have e := str_beq hf
  subst e
  obtain ⟨g1, g2, g3⟩ := gl_of xc hg
  obtain ⟨ns, ets, hl, hns, _⟩ := any_ty (K := X.K) (d := .none) (t := "NoneType") (fun n hn => by rcases hn with rfl | rfl | rfl | rfl | rfl <;> decide +kernel) ts [.Name x p2] sc ht
  obtain ⟨n, rfl⟩ : ∃ n, ns = [n] := by
    cases ns with
    | nil => cases hl
    | cons n r => cases r with
      | nil => exact ⟨n, rfl⟩
      | cons _ _ => cases hl
  subst ets
  obtain ⟨z1, z2⟩ := and2 (show (tyName (.bi n) (.Name x p2) && tyGl sc (.bi n) && tysOk sc [] []) = true from ht)
  obtain ⟨z3, z4⟩ := and2 z1
  obtain ⟨n', p', en, ex, hn⟩ := tyName_ok z3
  cases en
  cases ex
  refine PE.imp (pe_callB call_isi g1 (blt_of xc (by decide +kernel)) (by decide +kernel) (pa_cons (sR_of xc hc ih) (pa_cons (pe_ty xc hn z4) pa_nil rfl) (star_of hc _)) g3 g2 (star_of hc _) rfl) fun σ H Q q => ?_
  obtain ⟨f0, H0, f, en, m, ot⟩ := q
  have o1 := Out.bind (show Out L.cls W σ f H ((rd1 a en (L.ev a en)).bind fun x => v1 (.bool (([n].map Ty.bi).any fun t => isTy x t))) (Ac X.K f H Q) from ot)
  refine ⟨f0, H0, f, en, m, o1.imp (Po.refl m.po.sub) fun d _ h1 v f1 H1 q1 hv => ?_⟩
  obtain ⟨t, ty, hk⟩ := tyx_of q1.sub hv (no_dict hv)
  refine ⟨v, .ty n, .type t, .type n, _, rfl, .ty n, ty, kit_ty (hk n hn), ?_⟩
  have h2 : Ac X.K f H Q (.bool (isTy d (.bi n) || false), false) := h1
  rw [Bool.or_false] at h2
  exact h2 _ f1 _ q1 (.bl _)
end
end AW

/-! AwErr: caught errors asked: isinstance, is None. -/
namespace AW
open PySem PySem.Spec PyProof.Rows L2

/-! ### isinstance of a caught error -/
/-- isinstance(e, c) -/
def rEr1 (K : PySem.W.Frag) : List V → Hp → VK → Prop := fun xs H Q => ∃ (a : Addr) (k : Nat) (D : Addr) (c : V) (u : Value) (b : Bool), xs = [.ref a, c] ∧ H a = some (erO K k a) ∧ erC K k = .ref D ∧ ExcC K D ∧ ClsV c u ∧ PySem.W.kitOne K (.ref D) u = some b ∧ Q (.bl b) H
/-- isinstance(e, (c, ..)) -/
def rErT (K : PySem.W.Frag) : List V → Hp → VK → Prop := fun xs H Q => ∃ (a : Addr) (k : Nat) (D : Addr) (tp : Addr) (cs : List V) (us : List Value) (b : Bool), xs = [.ref a, .ref tp] ∧ H a = some (erO K k a) ∧ erC K k = .ref D ∧ ExcC K D ∧ H tp = some (.tup cs) ∧ Paired ClsV cs us ∧ PySem.W.kitAny K (.ref D) us = some b ∧ Q (.bl b) H
section
variable {X : Cx} {pins : List (Addr × Obj)} {σ : L2.St} {H : Hp} {s : Shared}
theorem er_inst (I : Inv X pins σ H s) {a D : Addr} {k : Nat} (h : H a = some (erO X.K k a)) (e : erC X.K k = .ref D) : ∃ oe, PySem.W.InstAt s.heap a oe D none := by
  obtain ⟨⟨oe, vs, hg, hz, hd⟩, _⟩ := (show ObjOk X.prog X.w H s.heap a (erO X.K k a) from I.hok a _ h)
  rw [e] at hz
  obtain ⟨oc, od, oda, osl⟩ := oe
  obtain ⟨h1, h2⟩ := hz
  dsimp only at h1 h2 hd
  subst h1 h2 hd
  exact ⟨_, hg, rfl, rfl, trivial⟩
theorem call_er1 : CallR X (.builtin "isinstance") (fun xs H Q => rIsi X.K xs H Q ∨ rEr1 X.K xs H Q) := by
  intro pins s σ H xs us Q I r h
  rcases h with h | ⟨a, k, D, c, u, b, rfl, ha, hk, C, kc, e, q⟩
  · exact call_isi pins s σ H xs us Q I r h
  · obtain ⟨u1, u2, rfl, r1, r2⟩ := vals2 r
    cases (show u1 = Value.ref a from r1)
    have e2 := kc.eq r2
    subst e2
    obtain ⟨oe, J⟩ := er_inst I ha hk
    exact PySem.W.kia_one (PySem.W.handS_kitx_exc C.hg C.hk C.hs C.hd C.ha C.hn C.ht C.hm) I.kIn J e (fun z => nomatch z) fun tk => ⟨.bl b, H, I.tok tk, rfl, q⟩
theorem call_erT : CallR X (.builtin "isinstance") (fun xs H Q => rIsiT X.K xs H Q ∨ rErT X.K xs H Q) := by
  intro pins s σ H xs us Q I r h
  rcases h with h | ⟨a, k, D, tp, cs, ws, b, rfl, ha, hk, C, hT, kc, e, q⟩
  · exact call_isiT pins s σ H xs us Q I r h
  · obtain ⟨u1, u2, rfl, r1, r2⟩ := vals2 r
    cases (show u1 = Value.ref a from r1)
    cases (show u2 = Value.ref tp from r2)
    obtain ⟨oe, J⟩ := er_inst I ha hk
    obtain ⟨_, its, rv, o, h1, h2, n, h3⟩ := (show ObjOk X.prog X.w H s.heap tp (.tup cs) from I.hok tp _ hT)
    have e3 := ClsV.all kc rv
    subst e3
    obtain ⟨oc, od, dt, sl⟩ := o
    simp only at h2 h3
    subst h2 h3
    exact PySem.W.kia_tup (PySem.W.handS_kitx_exc C.hg C.hk C.hs C.hd C.ha C.hn C.ht C.hm) I.kIn J h1 e (fun z => nomatch z) fun tk => ⟨.bl b, H, I.tok tk, rfl, q⟩
end

/-! ### the classes asked about -/
/-- the value and the object of a class -/
def teV (K : PySem.W.Frag) : Te → V
  | .ow c => (match erC K c with
    | .ref C => .ref C
    | _ => .non)
  | .top => .ref (He.ga K "AreaError")
  | .ve => .ty "ValueError"
def teU (K : PySem.W.Frag) : Te → Value
  | .ow c => erC K c
  | .top => .ref (He.ga K "AreaError")
  | .ve => .type "ValueError"
theorem teV_ow {K : PySem.W.Frag} {k : Nat} {C : Addr} (h : erC K k = .ref C) : teV K (.ow k) = .ref C := by
  show (match erC K k with | .ref C => V.ref C | _ => V.non) = _
  rw [h]
theorem teU_ow {K : PySem.W.Frag} {k : Nat} {C : Addr} (h : erC K k = .ref C) : teU K (.ow k) = .ref C := h
section
variable {L : Lk} {N : List Str} {sc : Nms} {W : WX} {X : Cx} {K : PySem.W.Frag}
theorem erB_ne {ns : List Str} (h : erB K ns = true) (hc : ns.contains "AreaError" = true) {n : Str} (hn : n ∈ ns) (h0 : n ≠ "") : ExcC K (He.ga K n) ∧ PySem.W.kitOne K (.ref (He.ga K n)) (.type "ValueError") = some true ∧ PySem.W.kitOne K (.type "NoneType") (.ref (He.ga K n)) = some false ∧
    PySem.W.exmOne K (.ref (He.ga K n)) (.ref (He.ga K "AreaError")) = some true ∧ ∀ m ∈ ns, m ≠ "" → PySem.W.kitOne K (.ref (He.ga K n)) (.ref (He.ga K m)) = some (n == m || m == "AreaError") := by
  unfold erB at h
  rw [hc] at h
  have h : ns.all (erB1 K ns) = true := h
  have z := List.all_eq_true.mp h n hn
  unfold erB1 at z
  rcases Bool.or_eq_true_iff.mp z with z | z
  · exact absurd (eq_of_beq z) h0
  · simp only [Bool.and_eq_true, decide_eq_true_eq] at z
    obtain ⟨⟨⟨⟨z1, z2⟩, z3⟩, z4⟩, z5⟩ := z
    refine ⟨ecB_ok z1, z2, z3, z4, fun m hm h0 => ?_⟩
    have y := List.all_eq_true.mp z5 m hm
    rcases Bool.or_eq_true_iff.mp y with y | y
    · exact absurd (eq_of_beq y) h0
    · exact of_decide_eq_true y
theorem mem_of_at {ns : List Str} {k : Nat} {n : Str} (h : ns[k]? = some n) : n ∈ ns := List.mem_of_getElem? h
/-- an own class, by its number -/
theorem cls_at (lk : LkOk L X.prog X.w X.K X.mg X.base) {k : Nat} {n : Str} (h : L.clsN[k]? = some n) (h0 : n ≠ "") : erC X.K k = .ref (He.ga X.K n) ∧ L.cls k = .ref (He.ga X.K n) ∧ X.mg n = some (.ref (He.ga X.K n)) := by
  obtain ⟨g1, g2⟩ := lk.ga k n h h0
  obtain ⟨C, e1, e2, _⟩ := lk.exc k n h h0
  rw [g1] at e1
  refine ⟨?_, g1, ?_⟩
  · unfold erC
    rw [g2]
  · rw [e2, ← e1]
theorem area_ne : ("AreaError" : Str) ≠ "" := by decide +kernel
theorem errN_inj : ∀ (j k : Nat) (n : Str), errN[j]? = some n → errN[k]? = some n → j = k := by
  intro j k n h1 h2
  have nd : errN.Nodup := by decide +kernel
  exact L2.nodup_ix nd h1 h2
/-- what an own class answers -/
theorem te_one (lk : LkOk L X.prog X.w X.K X.mg X.base) (hA : L.clsN.contains "AreaError" = true) {c : Nat} {n : Str} (hc : L.clsN[c]? = some n) (h0 : n ≠ "") {t : Te} {e : Expr} (ht : teOk L.clsN sc t e = true) :
    ClsV (teV X.K t) (teU X.K t) ∧ PySem.W.kitOne X.K (.ref (He.ga X.K n)) (teU X.K t) = some (erTy c t) ∧ PySem.W.kitOne X.K (.type "NoneType") (teU X.K t) = some false := by
  obtain ⟨b1, b2, b3, b4, b5⟩ := erB_ne lk.er hA (mem_of_at hc) h0
  obtain ⟨g1, g2⟩ := lk.ga c n hc h0
  cases t with
  | ow k =>
    cases e <;> first
      | (cases ht; done)
      | skip
    case Name x p =>
      obtain ⟨ht, t4⟩ := and2 (show (L.clsN[k]? == some x && x != "" && x != "AreaError" && glOk sc x) = true from ht)
      obtain ⟨ht, t3⟩ := and2 ht
      obtain ⟨t1, t2⟩ := and2 ht
      have t1 := eq_of_beq t1
      have t2 := bne_ne t2
      have t3 := bne_ne t3
      obtain ⟨k1, k2, k3⟩ := cls_at lk t1 t2
      obtain ⟨d1, d2, d3, d4, d5⟩ := erB_ne lk.er hA (mem_of_at t1) t2
      have y := b5 x (mem_of_at t1) t2
      have e1 : (x == ("AreaError" : Str)) = false := by
        cases q : (x == ("AreaError" : Str)) with
        | true => exact absurd (eq_of_beq q) t3
        | false => rfl
      have e2 : (n == x) = (c == k) := by
        obtain ⟨g3, g4⟩ := lk.ga k x t1 t2
        by_cases q : c = k
        · subst q
          rw [hc] at t1
          cases t1
          simp
        · have : n ≠ x := fun z => by
            subst z
            exact q (errN_inj _ _ _ g2 g4)
          have q1 : (n == x) = false := by
            cases w : (n == x) with
            | true => exact absurd (eq_of_beq w) this
            | false => rfl
          rw [q1]
          simp [q]
      rw [e1, Bool.or_false, e2] at y
      rw [teV_ow k1, teU_ow k1]
      exact ⟨.own _, y, d3⟩
  | top =>
    cases e <;> first
      | (cases ht; done)
      | skip
    case Name x p =>
      have hm : ("AreaError" : Str) ∈ L.clsN := List.contains_iff_mem.mp hA
      have y := b5 _ hm area_ne
      obtain ⟨d1, d2, d3, d4, d5⟩ := erB_ne lk.er hA hm area_ne
      rw [show (("AreaError" : Str) == "AreaError") = true from beq_self_eq_true _, Bool.or_true] at y
      exact ⟨.own _, y, d3⟩
  | ve =>
    exact ⟨.ty _, b2, by show PySem.W.kitOne X.K (.type "NoneType") (.type "ValueError") = some false; exact kit_ty (by decide +kernel)⟩
theorem te_none (lk : LkOk L X.prog X.w X.K X.mg X.base) (hA : L.clsN.contains "AreaError" = true) {t : Te} {e : Expr} (ht : teOk L.clsN sc t e = true) : ClsV (teV X.K t) (teU X.K t) ∧ PySem.W.kitOne X.K (.type "NoneType") (teU X.K t) = some false := by
  obtain ⟨k, hk⟩ := List.mem_iff_getElem?.mp (List.contains_iff_mem.mp hA)
  obtain ⟨h1, _, h3⟩ := te_one (sc := sc) lk hA hk area_ne ht
  exact ⟨h1, h3⟩
theorem pe_te (xc : XC L N sc W X) {t : Te} {e : Expr} (ht : teOk L.clsN sc t e = true) : PE X e (tC (teV X.K t)) := by
  cases t with
  | ow k =>
    cases e <;> first
      | (cases ht; done)
      | skip
    case Name x p =>
      obtain ⟨ht, t4⟩ := and2 (show (L.clsN[k]? == some x && x != "" && x != "AreaError" && glOk sc x) = true from ht)
      obtain ⟨ht, t3⟩ := and2 ht
      obtain ⟨t1, t2⟩ := and2 ht
      obtain ⟨k1, k2, k3⟩ := cls_at xc.lk (eq_of_beq t1) (bne_ne t2)
      obtain ⟨g1, g2, g3⟩ := gl_of xc t4
      rw [teV_ow k1]
      exact pe_glob g1 k3 rfl g2
  | top =>
    cases e <;> first
      | (cases ht; done)
      | skip
    case Name x p =>
      obtain ⟨ht, t3⟩ := and2 (show (x == "AreaError" && L.clsN.contains x && glOk sc x) = true from ht)
      obtain ⟨t1, t2⟩ := and2 ht
      have t1 := str_beq t1
      subst t1
      obtain ⟨k, hk⟩ := List.mem_iff_getElem?.mp (List.contains_iff_mem.mp t2)
      obtain ⟨k1, k2, k3⟩ := cls_at xc.lk hk area_ne
      obtain ⟨g1, g2, g3⟩ := gl_of xc t3
      exact pe_glob g1 k3 rfl g2
  | ve =>
    cases e <;> first
      | (cases ht; done)
      | skip
    case Name x p =>
      obtain ⟨t1, t3⟩ := and2 (show (x == "ValueError" && glOk sc x) = true from ht)
      have t1 := str_beq t1
      subst t1
      obtain ⟨g1, g2, g3⟩ := gl_of xc t3
      exact pe_bltn g1 (blt_of xc (by decide +kernel)) (by decide +kernel) rfl g3 g2
theorem star_te {cl : List Str} {t : Te} {e : Expr} (ht : teOk cl sc t e = true) (es : List Expr) (env : Env) : starEach (e :: es) env = (false, eval e env) :: starEach es env := by
  cases t <;> cases e <;> first
    | (cases ht; done)
    | rfl
theorem pa_tes (xc : XC L N sc W X) : ∀ {ts : List Te} {es : List Expr}, tesOk L.clsN sc ts es = true → PA X es (fun σ H Q => Q (ts.map (teV X.K)) H)
  | [], [], _ => pa_nil
  | [], _ :: _, z => by cases z
  | _ :: _, [], z => by cases z
  | t :: ts, e :: es, z => by
    obtain ⟨z1, z2⟩ := and2 (show (teOk L.clsN sc t e && tesOk L.clsN sc ts es) = true from z)
    exact PA.imp (pa_cons (pe_te xc z1) (pa_tes xc z2) (star_te z1 _ _)) fun σ H Q q => q
theorem tes_any (lk : LkOk L X.prog X.w X.K X.mg X.base) (hA : L.clsN.contains "AreaError" = true) {c : Nat} {n : Str} (hc : L.clsN[c]? = some n) (h0 : n ≠ "") : ∀ {ts : List Te} {es : List Expr}, tesOk L.clsN sc ts es = true →
    Paired ClsV (ts.map (teV X.K)) (ts.map (teU X.K)) ∧ PySem.W.kitAny X.K (.ref (He.ga X.K n)) (ts.map (teU X.K)) = some (ts.any (erTy c))
  | [], [], _ => ⟨.nil, rfl⟩
  | [], _ :: _, z => by cases z
  | _ :: _, [], z => by cases z
  | t :: ts, e :: es, z => by
    obtain ⟨z1, z2⟩ := and2 (show (teOk L.clsN sc t e && tesOk L.clsN sc ts es) = true from z)
    obtain ⟨h1, h2⟩ := tes_any lk hA hc h0 z2
    obtain ⟨k1, k2, _⟩ := te_one lk hA hc h0 z1
    refine ⟨.cons k1 h1, ?_⟩
    show PySem.W.kitAny X.K _ (teU X.K t :: ts.map (teU X.K)) = some (erTy c t || ts.any (erTy c))
    refine kitAny_cons k2 (fun e => ?_) (fun e => ?_)
    · rw [e]; exact h2
    · rw [e]; rfl
theorem tes_none (lk : LkOk L X.prog X.w X.K X.mg X.base) (hA : L.clsN.contains "AreaError" = true) : ∀ {ts : List Te} {es : List Expr}, tesOk L.clsN sc ts es = true →
    Paired ClsV (ts.map (teV X.K)) (ts.map (teU X.K)) ∧ PySem.W.kitAny X.K (.type "NoneType") (ts.map (teU X.K)) = some false
  | [], [], _ => ⟨.nil, rfl⟩
  | [], _ :: _, z => by cases z
  | _ :: _, [], z => by cases z
  | t :: ts, e :: es, z => by
    obtain ⟨z1, z2⟩ := and2 (show (teOk L.clsN sc t e && tesOk L.clsN sc ts es) = true from z)
    obtain ⟨h1, h2⟩ := tes_none lk hA z2
    obtain ⟨k1, k2⟩ := te_none lk hA z1
    exact ⟨.cons k1 h1, kitAny_cons k2 (fun _ => h2) (fun e => by cases e)⟩
theorem ks_at {cl : List Str} {ks : List Nat} (h : ksOk cl ks = true) {c : Nat} (hc : ks.contains c = true) : ∃ n, cl[c]? = some n ∧ n ≠ "" := by
  have z := List.all_eq_true.mp (show ks.all (fun k => (cl[k]?).any fun (y : Str) => y != "") = true from h) c (List.contains_iff_mem.mp hc)
  cases e : cl[c]? with
  | none => rw [e] at z; cases z
  | some n =>
    rw [e] at z
    exact ⟨n, rfl, bne_ne z⟩
/-- a slot that isinstance may be asked about -/
theorem er_slot {i : Nat} {ks : List Nat} {ts : List Te} {σ H Q} (h : dV L K W (.isE i ks ts) σ H Q) : ∃ f0 H0 f en, Mt K f0 H0 f H σ en ∧ ((en[i]? = some (.va .none) ∧ Ac K f H Q (.bool false, false)) ∨ ∃ c, ks.contains c = true ∧ en[i]? = some (.er c) ∧ Ac K f H Q (.bool (ts.any (erTy c)), false)) := by
  obtain ⟨f0, H0, f, en, m, o⟩ := h
  have o' : Out L.cls W σ f H (match en[i]? with | some (.va .none) => v1 (.bool false) | some (.er c) => (if ks.contains c then v1 (.bool (ts.any (erTy c))) else .no) | _ => R.no) (Ac K f H Q) := o
  refine ⟨f0, H0, f, en, m, ?_⟩
  cases e : en[i]? with
  | none => rw [e] at o'; exact o'.elim
  | some s =>
    rw [e] at o'
    cases s with
    | er c =>
      have o' : Out L.cls W σ f H (if ks.contains c then v1 (.bool (ts.any (erTy c))) else .no) (Ac K f H Q) := o'
      by_cases hk : ks.contains c = true
      · rw [if_pos hk] at o'
        exact .inr ⟨c, hk, rfl, o'⟩
      · rw [if_neg hk] at o'
        exact o'.elim
    | va d =>
      cases d with
      | none => exact .inl ⟨rfl, o'⟩
      | _ => exact o'.elim
    | un => exact o'.elim
    | ow d => exact o'.elim
    | rd d => exact o'.elim
theorem isE1_of (xc : XC L N sc W X) {f y x : Str} {p p1 p2 pos : Pos} {i : Nat} {ks : List Nat} {ts : List Te} (hf : (f == "isinstance") = true) (hg : glOk sc f = true) (hy : nmOk N sc i y = true) (hA : L.clsN.contains "AreaError" = true) (hk : ksOk L.clsN ks = true) (ht : tesOk L.clsN sc ts [.Name x p2] = true) :
    PE X (.Call (.Name f p) [.Name y p1, .Name x p2] [] pos) (dV L X.K W (.isE i ks ts)) := by
  have e := str_beq hf
  subst e
  obtain ⟨g1, g2, g3⟩ := gl_of xc hg
  obtain ⟨h1, h2, h3, h4⟩ := vis_of xc hy
  obtain ⟨t, rfl⟩ : ∃ t, ts = [t] := by
    cases ts with
    | nil => cases ht
    | cons t r => cases r with
      | nil => exact ⟨t, rfl⟩
      | cons _ _ =>
        obtain ⟨_, z⟩ := and2 ht
        cases z
  obtain ⟨t1, _⟩ := and2 (show (teOk L.clsN sc t (.Name x p2) && tesOk L.clsN sc [] []) = true from ht)
  refine PE.imp (pe_callB call_er1 g1 (blt_of xc (by decide +kernel)) (by decide +kernel) (pa_cons (pe_var h1 h2 h3 h4) (pa_cons (pe_te xc t1) pa_nil rfl) rfl) g3 g2 rfl rfl) fun σ H Q q => ?_
  obtain ⟨f0, H0, f, en, m, o⟩ := er_slot q
  rcases o with ⟨e, o⟩ | ⟨c, hc, e, o⟩
  · obtain ⟨v, e1, hv⟩ := m.va e
    cases hv
    obtain ⟨k1, k2⟩ := te_none (sc := sc) xc.lk hA t1
    exact ⟨_, e1, .inl ⟨_, _, .type "NoneType", _, false, rfl, k1, .base .non, k2, o _ f H (Po.refl m.po.sub) (.bl _)⟩⟩
  · obtain ⟨v, e1, hv⟩ := m.er e
    obtain ⟨n, n1, n2⟩ := ks_at hk hc
    obtain ⟨k1, k2, _⟩ := te_one (sc := sc) xc.lk hA n1 n2 t1
    obtain ⟨c1, _, _⟩ := cls_at xc.lk n1 n2
    obtain ⟨b1, _⟩ := erB_ne xc.lk.er hA (mem_of_at n1) n2
    have o : Ac X.K f H Q (.bool (erTy c t || false), false) := o
    rw [Bool.or_false] at o
    exact ⟨_, e1, .inr ⟨_, c, _, _, _, _, rfl, hv, c1, b1, k1, k2, o _ f H (Po.refl m.po.sub) (.bl _)⟩⟩
theorem isET_of (xc : XC L N sc W X) {f y : Str} {xs : List Expr} {k : Nat} {p p1 p2 pos : Pos} {i : Nat} {ks : List Nat} {ts : List Te} (hf : (f == "isinstance") = true) (hlen : ts.length ≤ 100) (hg : glOk sc f = true) (hy : nmOk N sc i y = true) (hA : L.clsN.contains "AreaError" = true) (hk : ksOk L.clsN ks = true) (ht : tesOk L.clsN sc ts xs = true) :
    PE X (.Call (.Name f p) [.Name y p1, .Tuple xs k p2] [] pos) (dV L X.K W (.isE i ks ts)) := by
  have e := str_beq hf
  subst e
  obtain ⟨g1, g2, g3⟩ := gl_of xc hg
  obtain ⟨h1, h2, h3, h4⟩ := vis_of xc hy
  have pt : PE X (.Tuple xs k p2) (tTup fun σ H Q => Q (ts.map (teV X.K)) H) := pe_tup (pa_tes xc ht)
  refine PE.imp (pe_callB call_erT g1 (blt_of xc (by decide +kernel)) (by decide +kernel) (pa_cons (pe_var h1 h2 h3 h4) (pa_cons pt pa_nil rfl) rfl) g3 g2 rfl rfl) fun σ H Q q => ?_
  obtain ⟨f0, H0, f, en, m, o⟩ := er_slot q
  have lz : (ts.map (teV X.K)).length ≤ sizeLine := by
    rw [List.length_map]
    exact Nat.le_of_lt (small1000 (by omega))
  have go : ∀ tp, H tp = none → Po f H f (L2.upd H tp (.tup (ts.map (teV X.K)))) := fun tp htp => (Po.refl m.po.sub).newH htp
  rcases o with ⟨e, o⟩ | ⟨c, hc, e, o⟩
  · obtain ⟨v, e1, hv⟩ := m.va e
    cases hv
    obtain ⟨k1, k2⟩ := tes_none (sc := sc) xc.lk hA ht
    exact ⟨_, e1, lz, fun tp htp => .inl ⟨_, tp, _, .type "NoneType", _, false, rfl, upd_same, k1, .base .non, k2, o _ f _ (go tp htp) (.bl _)⟩⟩
  · obtain ⟨v, e1, hv⟩ := m.er e
    obtain ⟨n, n1, n2⟩ := ks_at hk hc
    obtain ⟨k1, k2⟩ := tes_any (sc := sc) xc.lk hA n1 n2 ht
    obtain ⟨c1, _, _⟩ := cls_at xc.lk n1 n2
    obtain ⟨b1, _⟩ := erB_ne xc.lk.er hA (mem_of_at n1) n2
    exact ⟨_, e1, lz, fun tp htp => .inr ⟨_, c, _, tp, _, _, _, rfl, (go tp htp).sH _ _ hv, c1, b1, upd_same, k1, k2, o _ f _ (go tp htp) (.bl _)⟩⟩
/-! ### is None -/
theorem isN_slot {i : Nat} {g : Bool} {σ H Q} (h : dV L K W (.isN i g) σ H Q) : ∃ v, σ[i]? = some (some v) ∧ Q (.bl (decide (v = .non) != g)) H := by
  obtain ⟨f0, H0, f, en, m, o⟩ := h
  have o' : Out L.cls W σ f H (match en[i]? with | some (.va d) => (isD d .none).bind fun b => v1 (.bool (b != g)) | some (.er _) => v1 (.bool g) | _ => R.no) (Ac K f H Q) := o
  cases e : en[i]? with
  | none => rw [e] at o'; exact o'.elim
  | some s =>
    rw [e] at o'
    cases s with
    | er c =>
      obtain ⟨p, e1, _⟩ := m.er e
      refine ⟨_, e1, ?_⟩
      have z := (show Ac K f H Q (.bool g, false) from o') (.bl g) f H (Po.refl m.po.sub) (.bl g)
      have : (decide (V.ref p = V.non) != g) = g := by simp
      rw [this]
      exact z
    | va d =>
      obtain ⟨v, e1, hv⟩ := m.va e
      have e2 : isD d .none = .ok (decide (v = .non)) := by
        rw [(show Vr K f H v d from .inl hv).isN]
        cases d <;> rfl
      have o' : Out L.cls W σ f H ((isD d .none).bind fun b => v1 (.bool (b != g))) (Ac K f H Q) := o'
      rw [e2] at o'
      exact ⟨v, e1, (show Ac K f H Q (.bool (decide (v = .non) != g), false) from o') _ f H (Po.refl m.po.sub) (.bl _)⟩
    | un => exact o'.elim
    | ow d => exact o'.elim
    | rd d => exact o'.elim
theorem isN_of (xc : XC L N sc W X) {y : Str} {op : CmpOp} {i k : Nat} {g : Bool} {p p1 pos : Pos} (hop : (match op with | .Is => !g | .IsNot => g | _ => false) = true) (hy : nmOk N sc i y = true) :
    PE X (.Compare (.Name y p) [op] [.Constant .none k p1] pos) (dV L X.K W (.isN i g)) := by
  obtain ⟨h1, h2, h3, h4⟩ := vis_of xc hy
  cases op <;> first
    | (cases hop; done)
    | skip
  · cases g with
    | true => cases hop
    | false =>
      refine PE.imp (pe_cmpR op_isN (pe_var h1 h2 h3 h4) pe_non rfl) fun σ H Q q => ?_
      obtain ⟨v, e1, z⟩ := isN_slot q
      rw [Bool.bne_false] at z
      exact ⟨v, e1, rfl, z⟩
  · cases g with
    | false => cases hop
    | true =>
      refine PE.imp (pe_cmpR op_notN (pe_var h1 h2 h3 h4) pe_non rfl) fun σ H Q q => ?_
      obtain ⟨v, e1, z⟩ := isN_slot q
      rw [Bool.bne_true] at z
      exact ⟨v, e1, rfl, z⟩
theorem isN_b {i : Nat} {g : Bool} {en : En} {p : D × Bool} (h : L.ev (.isN i g) en = .ok p) : ∃ k, p = (.bool k, false) := by
  have h : (match en[i]? with | some (.va d) => (isD d .none).bind fun b => v1 (.bool (b != g)) | some (.er _) => v1 (.bool g) | _ => R.no) = .ok p := h
  split at h
  · obtain ⟨b, _, h2⟩ := R.of_bind h
    cases h2
    exact ⟨_, rfl⟩
  · cases h
    exact ⟨_, rfl⟩
  · cases h
theorem isN_t (xc : XC L N sc W X) {y : Str} {op : CmpOp} {i k : Nat} {g : Bool} {p p1 pos : Pos} (hop : (match op with | .Is => !g | .IsNot => g | _ => false) = true) (hy : nmOk N sc i y = true) :
    PT X (.Compare (.Name y p) [op] [.Constant .none k p1] pos) (dT L X.K W (.isN i g)) := by
  obtain ⟨h1, h2, h3, h4⟩ := vis_of xc hy
  cases op <;> first
    | (cases hop; done)
    | skip
  · cases g with
    | true => cases hop
    | false =>
      refine PT.imp (pt_cmpR op_isN (pe_var h1 h2 h3 h4) pe_non rfl) fun σ H Q q => ?_
      obtain ⟨v, e1, z⟩ := isN_slot (dT_dV (fun _ z => by cases z) (fun en p ep => isN_b ep) q)
      rw [Bool.bne_false] at z
      exact ⟨v, e1, rfl, z⟩
  · cases g with
    | false => cases hop
    | true =>
      refine PT.imp (pt_cmpR op_notN (pe_var h1 h2 h3 h4) pe_non rfl) fun σ H Q q => ?_
      obtain ⟨v, e1, z⟩ := isN_slot (dT_dV (fun _ z => by cases z) (fun en p ep => isN_b ep) q)
      rw [Bool.bne_true] at z
      exact ⟨v, e1, rfl, z⟩
end
end AW

/-! AwAll: every expression that the check lets by. -/
namespace AW
open PySem PySem.Spec PyProof.Rows L2

theorem not_false {a : Bool} (h : (!a) = true) : a = false := by cases a <;> simp_all
theorem pw_of {X : Cx} {op : BoolOp} {es : List Expr} {p : Pos} {t : TT} (h : PT X (.BoolOp op es p) t) : PW X (.BoolOp op es p) t := ⟨fun _ pins s σ H Q I z => h.run pins s σ H Q I z⟩
section
variable {L : Lk}
mutual
theorem sE : ∀ (x : E) {N : List Str} {sc : Nms} {W : WX} {X : Cx} (_ : XC L N sc W X) (e : Expr), ckE L.T L.cons L.clsN N sc x e = true → PE X e (dV L X.K W x)
  | .var i, N, sc, W, X, xc, e, h => by
    unfold ckE at h
    split at h
    · obtain ⟨h1, h2, h3, h4⟩ := vis_of xc h
      exact PE.imp (pe_var h1 h2 h3 h4) fun σ H Q q => imp_var q
    · cases h
  | .peek i, N, sc, W, X, xc, e, h => by
    unfold ckE at h
    split at h
    · obtain ⟨h1, h2, h3, h4⟩ := vis_of xc h
      exact PE.imp (pe_var h1 h2 h3 h4) fun σ H Q ⟨f0, H0, f, en, m, ot⟩ => (show False from ot).elim
    · cases h
  | .con d, N, sc, W, X, xc, e, h => by
    unfold ckE at h
    split at h
    · exact con_of h
    · cases h
  | .glb j, N, sc, W, X, xc, e, h => by
    unfold ckE at h
    split at h
    · obtain ⟨h1, h2⟩ := and2 h
      exact glb_of xc h1 h2
    · cases h
  | .tup es, N, sc, W, X, xc, e, h => by
    unfold ckE at h
    split at h
    · exact PE.imp (pe_tup (sEs es xc _ h)) fun σ H Q q => imp_tup q
    · cases h
  | .lst es, N, sc, W, X, xc, e, h => by
    unfold ckE at h
    split at h
    · exact PE.imp (pe_lst (sEs es xc _ h)) fun σ H Q q => imp_lst q
    · cases h
  | .rep es n, N, sc, W, X, xc, e, h => by
    unfold ckE at h
    split at h
    · obtain ⟨h1, h2⟩ := and2 h
      exact PE.imp (pe_op op_rep (pe_lst (sEs es xc _ h1)) (sE n xc _ h2)) fun σ H Q q => imp_rep q
    · cases h
  | .op1 o a, N, sc, W, X, xc, e, h => by
    unfold ckE at h
    split at h
    · obtain ⟨h1, h2⟩ := and2 h
      cases o <;> first
        | (cases h1; done)
        | exact PE.imp (pe_un un_A (sR_of xc h2 (sE a xc _ h2))) fun σ H Q q => imp_op1 q
    · obtain ⟨h1, h2⟩ := and2 h
      obtain ⟨h3, h4⟩ := and2 h1
      exact call1_blt xc h3 h4 h2 (sE a xc _ h2)
    · cases h
  | .op2 o a b, N, sc, W, X, xc, e, h => by
    unfold ckE at h
    split at h
    · obtain ⟨h1, h2⟩ := and2 h
      obtain ⟨h3, h4⟩ := and2 h1
      exact PE.imp (pe_op (op_bin xc.py h3) (sR_of xc h4 (sE a xc _ h4)) (sR_of xc h2 (sE b xc _ h2))) fun σ H Q q => imp_op2 q
    · obtain ⟨h1, h2⟩ := and2 h
      obtain ⟨h3, h4⟩ := and2 h1
      obtain ⟨h5, h6⟩ := and2 h3
      exact PE.imp (pe_cmpR (op_cmp xc.units h5) (sR_of xc h4 (sE a xc _ h4)) (sR_of xc h2 (sE b xc _ h2)) (not_false h6)) fun σ H Q q => imp_op2 q
    · obtain ⟨h1, h2⟩ := and2 h
      obtain ⟨h3, h4⟩ := and2 h1
      obtain ⟨h5, h6⟩ := and2 h3
      cases o <;> first
        | (cases h5; done)
        | exact PE.imp (pe_ix ix_A (sR_of xc h6 (sE a xc _ h6)) (sR_of xc h4 (sE b xc _ h4)) (plain_ix h2)) fun σ H Q q => imp_op2 q
    · obtain ⟨h1, h2⟩ := and2 h
      obtain ⟨h3, h4⟩ := and2 h1
      obtain ⟨h5, h6⟩ := and2 h3
      exact call2_blt xc h5 h6 h4 h2 (sE a xc _ h4) (sE b xc _ h2)
    · cases h
  | .chn o p a b c, N, sc, W, X, xc, e, h => by
    unfold ckE at h
    split at h
    · obtain ⟨h, c3⟩ := and2 h
      obtain ⟨h, c2⟩ := and2 h
      obtain ⟨h, c1⟩ := and2 h
      obtain ⟨h, hm⟩ := and2 h
      obtain ⟨h1, h2⟩ := and2 h
      exact PE.imp (pe_chain (op_cmp xc.units h1) (op_cmp xc.units h2) (sR_of xc c1 (sE a xc _ c1)) (sR_of xc c2 (sE b xc _ c2)) (sR_of xc c3 (sE c xc _ c3)) (not_false hm)) fun σ H Q q => imp_chn h1 q
    · cases h
  | .and a b, N, sc, W, X, xc, e, h => by
    unfold ckE at h
    split at h
    · obtain ⟨h1, h2⟩ := and2 h
      exact PE.imp (pe_andT (sE a xc _ h1) (pe_one (sE b xc _ h2))) fun σ H Q q => imp_and q
    · obtain ⟨h1, h2⟩ := and2 h
      exact PE.imp (pe_andT (sE a xc _ h1) (sE b xc _ h2)) fun σ H Q q => imp_and q
    · cases h
  | .or a b, N, sc, W, X, xc, e, h => by
    unfold ckE at h
    split at h
    · obtain ⟨h1, h2⟩ := and2 h
      exact PE.imp (pe_orT (sE a xc _ h1) (pe_one (sE b xc _ h2))) fun σ H Q q => imp_or q
    · obtain ⟨h1, h2⟩ := and2 h
      exact PE.imp (pe_orT (sE a xc _ h1) (sE b xc _ h2)) fun σ H Q q => imp_or q
    · cases h
  | .not a, N, sc, W, X, xc, e, h => by
    unfold ckE at h
    split at h
    · exact PE.imp (pe_notT (sR_of xc h (sE a xc _ h))) fun σ H Q q => imp_not q
    · cases h
  | .ife t a b, N, sc, W, X, xc, e, h => by
    unfold ckE at h
    split at h
    · obtain ⟨h, h3⟩ := and2 h
      obtain ⟨h1, h2⟩ := and2 h
      exact PE.imp (pe_ifExp (sT t xc _ h1) (sE a xc _ h2) (sE b xc _ h3)) fun σ H Q q => imp_ife q
    · cases h
  | .slc a lo hi, N, sc, W, X, xc, e, h => by
    unfold ckE at h
    split at h
    · obtain ⟨h, h3⟩ := and2 h
      obtain ⟨h1, h2⟩ := and2 h
      exact PE.imp (pe_slice sl_A (sR_of xc h1 (sE a xc _ h1)) (sO lo xc _ h2) (sO hi xc _ h3)) fun σ H Q q => imp_slc q
    · cases h
  | .revs a, N, sc, W, X, xc, e, h => by
    unfold ckE at h
    split at h
    · exact PE.imp (pe_revA (sR_of xc h (sE a xc _ h))) fun σ H Q q => imp_revs q
    · cases h
  | .repE a n, N, sc, W, X, xc, e, h => by
    unfold ckE at h
    split at h
    · obtain ⟨h1, h2⟩ := and2 h
      exact PE.imp (pe_op op_rep (sE a xc _ h1) (sE n xc _ h2)) fun σ H Q q => imp_repE q
    · cases h
  | .call j es m, N, sc, W, X, xc, e, h => by
    unfold ckE at h
    split at h
    · obtain ⟨h, h3⟩ := and2 h
      obtain ⟨h1, h2⟩ := and2 h
      exact call_of xc h1 h2 h3 (sAs es xc _ h3)
    · cases h
  | .callv j es m, N, sc, W, X, xc, e, h => by
    unfold ckE at h
    split at h
    · obtain ⟨h, h3⟩ := and2 h
      obtain ⟨h1, h2⟩ := and2 h
      exact callv_of xc h1 h2 h3 (sAs es xc _ h3)
    · cases h
  | .erv i, N, sc, W, X, xc, e, h => by
    unfold ckE at h
    split at h
    · obtain ⟨h1, h2, h3, h4⟩ := vis_of xc h
      exact PE.imp (pe_var h1 h2 h3 h4) fun σ H Q ⟨f0, H0, f, en, m, ot⟩ => (show False from ot).elim
    · cases h
  | .isE i ks ts, N, sc, W, X, xc, e, h => by
    unfold ckE at h
    split at h
    · obtain ⟨h, h6⟩ := and2 h
      obtain ⟨h, h5⟩ := and2 h
      obtain ⟨h, h4⟩ := and2 h
      obtain ⟨h, h3⟩ := and2 h
      obtain ⟨h, h2⟩ := and2 h
      obtain ⟨h1, hl⟩ := and2 h
      exact isET_of xc h1 (of_decide_eq_true hl) h2 h3 h4 h5 h6
    · obtain ⟨h, h6⟩ := and2 h
      obtain ⟨h, h5⟩ := and2 h
      obtain ⟨h, h4⟩ := and2 h
      obtain ⟨h, h3⟩ := and2 h
      obtain ⟨h1, h2⟩ := and2 h
      exact isE1_of xc h1 h2 h3 h4 h5 h6
    · cases h
  | .isN i g, N, sc, W, X, xc, e, h => by
    unfold ckE at h
    split at h
    · obtain ⟨h1, h2⟩ := and2 h
      exact isN_of xc h1 h2
    · cases h
  | .isi a ts, N, sc, W, X, xc, e, h => by
    unfold ckE at h
    split at h
    · obtain ⟨h, h4⟩ := and2 h
      obtain ⟨h, h3⟩ := and2 h
      obtain ⟨h, h2⟩ := and2 h
      obtain ⟨h1, hl⟩ := and2 h
      exact isi_of xc h1 (of_decide_eq_true hl) h2 h3 h4 (sE a xc _ h3)
    · obtain ⟨h, h4⟩ := and2 h
      obtain ⟨h, h3⟩ := and2 h
      obtain ⟨h1, h2⟩ := and2 h
      exact isi1_of xc h1 h2 h3 h4 (sE a xc _ h3)
    · cases h
  | .cmp elt tg it ifs own, N, sc, W, X, xc, e, h => by
    unfold ckE at h
    split at h
    · obtain ⟨h, h6⟩ := and2 h
      obtain ⟨h, h5⟩ := and2 h
      obtain ⟨h, h4⟩ := and2 h
      obtain ⟨h, h3⟩ := and2 h
      obtain ⟨h1, h2⟩ := and2 h
      rename_i elt' tg' it' ifs' scope pos
      have ht : ∀ i ∈ tgSlots tg, i ∈ own.map (·.2) := fun i hi => List.contains_iff_mem.mp (List.all_eq_true.mp h4 i hi)
      exact PE.imp (pe_lc xc.calm xc.nd (sI it xc _ _ h1) (blk_ok xc h2) (fun s H C cl fp => sTg (xc.blk h2 s H C cl fp) tg _ h3) (fun s H C cl fp => sIf ifs (xc.blk h2 s H C cl fp) _ h5) (fun s H C cl fp => sE elt (xc.blk h2 s H C cl fp) _ h6) (sFold it _ _ h1)) fun σ H Q q => imp_cmp ht q
    · cases h
theorem sT : ∀ (x : E) {N : List Str} {sc : Nms} {W : WX} {X : Cx} (_ : XC L N sc W X) (e : Expr), ckE L.T L.cons L.clsN N sc x e = true → PT X e (dT L X.K W x)
  | .var i, N, sc, W, X, xc, e, h => by
    have ih := sE (.var i) xc e h
    cases e <;> first
      | (cases h; done)
      | exact pt_plain xc h ih fun _ => rfl
  | .peek i, N, sc, W, X, xc, e, h => by
    have ih := sE (.peek i) xc e h
    cases e <;> first
      | (cases h; done)
      | exact pt_plain xc h ih fun _ => rfl
  | .con d, N, sc, W, X, xc, e, h => by
    have ih := sE (.con d) xc e h
    cases e <;> first
      | (cases h; done)
      | exact pt_plain xc h ih fun _ => rfl
  | .glb j, N, sc, W, X, xc, e, h => by
    have ih := sE (.glb j) xc e h
    cases e <;> first
      | (cases h; done)
      | exact pt_plain xc h ih fun _ => rfl
  | .tup es, N, sc, W, X, xc, e, h => by
    have ih := sE (.tup es) xc e h
    cases e <;> first
      | (cases h; done)
      | exact pt_plain xc h ih fun _ => rfl
  | .lst es, N, sc, W, X, xc, e, h => by
    have ih := sE (.lst es) xc e h
    cases e <;> first
      | (cases h; done)
      | exact pt_plain xc h ih fun _ => rfl
  | .rep es n, N, sc, W, X, xc, e, h => by
    have ih := sE (.rep es n) xc e h
    cases e <;> first
      | (cases h; done)
      | exact pt_plain xc h ih fun _ => rfl
  | .op1 o a, N, sc, W, X, xc, e, h => by
    have ih := sE (.op1 o a) xc e h
    have h0 := h
    unfold ckE at h
    split at h
    · exact pt_plain xc h0 ih fun _ => rfl
    · exact pt_plain xc h0 ih fun _ => rfl
    · cases h
  | .op2 o a b, N, sc, W, X, xc, e, h => by
    have ih := sE (.op2 o a b) xc e h
    have h0 := h
    unfold ckE at h
    split at h
    · exact pt_plain xc h0 ih fun _ => rfl
    · obtain ⟨h1, h2⟩ := and2 h
      obtain ⟨h3, h4⟩ := and2 h1
      obtain ⟨h5, h6⟩ := and2 h3
      refine PT.imp (pt_cmpR (op_cmp xc.units h5) (sR_of xc h4 (sE a xc _ h4)) (sR_of xc h2 (sE b xc _ h2)) (not_false h6)) fun σ H Q q => imp_op2 (dT_dV (fun _ z => by cases z) (fun en p ep => ?_) q)
      have ep' : (rd1 a en (L.ev a en)).bind (fun x => (rd1 b en (L.ev b en)).bind fun y => sem2 o x y) = .ok p := ep
      obtain ⟨x, _, e2⟩ := R.of_bind ep'
      obtain ⟨y, _, e3⟩ := R.of_bind e2
      exact cmp_bool h5 e3
    · exact pt_plain xc h0 ih fun _ => rfl
    · exact pt_plain xc h0 ih fun _ => rfl
    · cases h
  | .chn o p a b c, N, sc, W, X, xc, e, h => by
    unfold ckE at h
    split at h
    · obtain ⟨h, c3⟩ := and2 h
      obtain ⟨h, c2⟩ := and2 h
      obtain ⟨h, c1⟩ := and2 h
      obtain ⟨h, hm⟩ := and2 h
      obtain ⟨h1, h2⟩ := and2 h
      refine PT.imp (pt_chain (op_cmp xc.units h1) (op_cmp xc.units h2) (sR_of xc c1 (sE a xc _ c1)) (sR_of xc c2 (sE b xc _ c2)) (sR_of xc c3 (sE c xc _ c3)) (not_false hm)) fun σ H Q q => imp_chn h1 (dT_dV (fun _ z => by cases z) (fun en q eq => ?_) q)
      have eq' : (rd1 a en (L.ev a en)).bind (fun x => (rd1 b en (L.ev b en)).bind fun y => (sem2 o x y).bind fun r => (match r.1 with
        | .bool true => (rd1 c en (L.ev c en)).bind fun w => sem2 p y w
        | .bool false => v1 (.bool false)
        | _ => .no)) = .ok q := eq
      obtain ⟨x, _, e2⟩ := R.of_bind eq'
      obtain ⟨y, _, e3⟩ := R.of_bind e2
      obtain ⟨r, e4, e5⟩ := R.of_bind e3
      obtain ⟨k, rfl⟩ := cmp_bool h1 e4
      cases k with
      | true =>
        obtain ⟨w, _, e6⟩ := R.of_bind (show (rd1 c en (L.ev c en)).bind (fun w => sem2 p y w) = .ok q from e5)
        exact cmp_bool h2 e6
      | false =>
        cases e5
        exact ⟨false, rfl⟩
    · cases h
  | .and a b, N, sc, W, X, xc, e, h => by
    unfold ckE at h
    split at h
    · obtain ⟨h1, h2⟩ := and2 h
      exact PT.imp (pw_and (sT a xc _ h1) (pw_and1 (sT b xc _ h2))).pt fun σ H Q q => impT_and q
    · obtain ⟨h1, h2⟩ := and2 h
      exact PT.imp (pw_and (sT a xc _ h1) (pw_of (sT b xc _ h2))).pt fun σ H Q q => impT_and q
    · cases h
  | .or a b, N, sc, W, X, xc, e, h => by
    unfold ckE at h
    split at h
    · obtain ⟨h1, h2⟩ := and2 h
      exact PT.imp (pw_or (sT a xc _ h1) (pw_or1 (sT b xc _ h2))).pt fun σ H Q q => impT_or q
    · obtain ⟨h1, h2⟩ := and2 h
      exact PT.imp (pw_or (sT a xc _ h1) (pw_of (sT b xc _ h2))).pt fun σ H Q q => impT_or q
    · cases h
  | .not a, N, sc, W, X, xc, e, h => by
    unfold ckE at h
    split at h
    · exact PT.imp (pt_not (sT a xc _ h)) fun σ H Q q => impT_not q
    · cases h
  | .ife t a b, N, sc, W, X, xc, e, h => by
    unfold ckE at h
    split at h
    · obtain ⟨h, h3⟩ := and2 h
      obtain ⟨h1, h2⟩ := and2 h
      have i1 := sT t xc _ h1
      have i2 := sT a xc _ h2
      have i3 := sT b xc _ h3
      refine ⟨fun pins s σ H Q I q => ?_⟩
      have z := impT_ife q
      show wpAny _ _ (do if ← PySem.isTrue _ X.env (eval _ X.env) then PySem.isTrue _ X.env (eval _ X.env) else PySem.isTrue _ X.env (eval _ X.env)) _ _ s
      refine wpAny_bind (thn (i1.run pins s σ H _ I z) fun c s1 hc => ?_)
      obtain ⟨H1, I1, q1⟩ := hc
      cases c with
      | true => exact i2.run pins s1 σ H1 Q I1 q1
      | false => exact i3.run pins s1 σ H1 Q I1 q1
    · cases h
  | .slc a lo hi, N, sc, W, X, xc, e, h => by
    have ih := sE (.slc a lo hi) xc e h
    cases e <;> first
      | (cases h; done)
      | exact pt_plain xc h ih fun _ => rfl
  | .revs a, N, sc, W, X, xc, e, h => by
    have ih := sE (.revs a) xc e h
    cases e <;> first
      | (cases h; done)
      | exact pt_plain xc h ih fun _ => rfl
  | .repE a n, N, sc, W, X, xc, e, h => by
    have ih := sE (.repE a n) xc e h
    cases e <;> first
      | (cases h; done)
      | exact pt_plain xc h ih fun _ => rfl
  | .call j es m, N, sc, W, X, xc, e, h => by
    have ih := sE (.call j es m) xc e h
    cases e <;> first
      | (cases h; done)
      | exact pt_plain xc h ih fun _ => rfl
  | .callv j es m, N, sc, W, X, xc, e, h => by
    have ih := sE (.callv j es m) xc e h
    cases e <;> first
      | (cases h; done)
      | exact pt_plain xc h ih fun _ => rfl
  | .erv i, N, sc, W, X, xc, e, h => by
    have ih := sE (.erv i) xc e h
    cases e <;> first
      | (cases h; done)
      | exact pt_plain xc h ih fun _ => rfl
  | .isE i ks ts, N, sc, W, X, xc, e, h => by
    have ih := sE (.isE i ks ts) xc e h
    cases e <;> first
      | (cases h; done)
      | exact pt_plain xc h ih fun _ => rfl
  | .isN i g, N, sc, W, X, xc, e, h => by
    unfold ckE at h
    split at h
    · obtain ⟨h1, h2⟩ := and2 h
      exact isN_t xc h1 h2
    · cases h
  | .isi a ts, N, sc, W, X, xc, e, h => by
    have ih := sE (.isi a ts) xc e h
    cases e <;> first
      | (cases h; done)
      | exact pt_plain xc h ih fun _ => rfl
  | .cmp elt tg it ifs own, N, sc, W, X, xc, e, h => by
    have ih := sE (.cmp elt tg it ifs own) xc e h
    cases e <;> first
      | (cases h; done)
      | exact pt_plain xc h ih fun _ => rfl
theorem sEs : ∀ (es : Es) {N : List Str} {sc : Nms} {W : WX} {X : Cx} (_ : XC L N sc W X) (xs : List Expr), ckEs L.T L.cons L.clsN N sc es xs = true → PA X xs (dVs L X.K W es)
  | .nil, N, sc, W, X, xc, xs, h => by
    cases xs with
    | nil => exact PA.imp pa_nil fun σ H Q q => evs_nil q
    | cons x xs => cases h
  | .cons e r, N, sc, W, X, xc, xs, h => by
    cases xs with
    | nil => cases h
    | cons x xs =>
      obtain ⟨h1, h2⟩ := and2 (show (ckE L.T L.cons L.clsN N sc e x && ckEs L.T L.cons L.clsN N sc r xs) = true from h)
      exact PA.imp (pa_cons (sE e xc _ h1) (sEs r xc _ h2) (star_of h1 xs)) fun σ H Q q => evs_cons q
theorem sAs : ∀ (es : Es) {N : List Str} {sc : Nms} {W : WX} {X : Cx} (_ : XC L N sc W X) (xs : List Expr), ckEs L.T L.cons L.clsN N sc es xs = true → PA X xs (dAs L X.K W es)
  | .nil, N, sc, W, X, xc, xs, h => by
    cases xs with
    | nil => exact PA.imp pa_nil fun σ H Q q => evAs_nil q
    | cons x xs => cases h
  | .cons e r, N, sc, W, X, xc, xs, h => by
    cases xs with
    | nil => cases h
    | cons x xs =>
      obtain ⟨h1, h2⟩ := and2 (show (ckE L.T L.cons L.clsN N sc e x && ckEs L.T L.cons L.clsN N sc r xs) = true from h)
      exact PA.imp (pa_cons (sA_of xc h1 (sE e xc _ h1)) (sAs r xc _ h2) (star_of h1 xs)) fun σ H Q q => evAs_cons q
theorem sO : ∀ (x : Eo) {N : List Str} {sc : Nms} {W : WX} {X : Cx} (_ : XC L N sc W X) (e : Option Expr), ckO L.T L.cons L.clsN N sc x e = true → PO X e (dO L X.K W x)
  | .none, N, sc, W, X, xc, e, h => by
    cases e with
    | none => exact PO.imp po_none fun σ H Q q => impO_none q
    | some e => cases h
  | .some x, N, sc, W, X, xc, e, h => by
    cases e with
    | none => cases h
    | some e => exact PO.imp (po_some (sE x xc e h)) fun σ H Q q => impO_some q
theorem sIf : ∀ (x : Eo) {N : List Str} {sc : Nms} {W : WX} {X : Cx} (_ : XC L N sc W X) (es : List Expr), ckIf L.T L.cons L.clsN N sc x es = true → PTs X es (dB L X.K W x)
  | .none, N, sc, W, X, xc, es, h => by
    cases es with
    | nil => exact pts_nil
    | cons e es => cases h
  | .some x, N, sc, W, X, xc, es, h => by
    unfold ckIf at h
    split at h
    · exact pts_one (sT x xc _ h)
    · cases h
theorem sI : ∀ (x : It) {N : List Str} {sc : Nms} {W : WX} {X : Cx} (_ : XC L N sc W X) (e tg : Expr), ckI L.T L.cons L.clsN N sc x e (isTup tg) = true → PI X tg e (dI L X.K W x)
  | .seq a, N, sc, W, X, xc, e, tg, h => PI.imp (PI.or (pi_list (sE a xc e h)) (pi_tup (sE a xc e h))) fun σ H Q q => impI_seq q
  | .rng1 a, N, sc, W, X, xc, e, tg, h => by
    unfold ckI at h
    split at h
    · obtain ⟨h1, h2⟩ := and2 h
      obtain ⟨h3, h4⟩ := and2 h1
      have en := str_beq h3
      subst en
      exact PI.imp (pi_range1 (gl_of xc h4).1 (blt_of xc (by decide +kernel)) (pa_cons (sE a xc _ h2) pa_nil (star_of h2 [])) (star_of h2 [])) fun σ H Q q => impI_rng1 q
    · cases h
  | .rng2 a b, N, sc, W, X, xc, e, tg, h => by
    unfold ckI at h
    split at h
    · obtain ⟨h, h5⟩ := and2 h
      obtain ⟨h1, h2⟩ := and2 h
      obtain ⟨h3, h4⟩ := and2 h1
      have en := str_beq h3
      subst en
      exact PI.imp (pi_range2 (gl_of xc h4).1 (blt_of xc (by decide +kernel)) (pa_cons (sE a xc _ h2) (pa_cons (sE b xc _ h5) pa_nil (star_of h5 [])) (star_of h2 _)) (by rw [star_of h2 _, star_of h5 []]; rfl) (star_of h5 [])) fun σ H Q q => impI_rng2 q
    · cases h
  | .rng3 a b c, N, sc, W, X, xc, e, tg, h => by
    unfold ckI at h
    split at h
    · obtain ⟨h, h6⟩ := and2 h
      obtain ⟨h, h5⟩ := and2 h
      obtain ⟨h1, h2⟩ := and2 h
      obtain ⟨h3, h4⟩ := and2 h1
      have en := str_beq h3
      subst en
      exact PI.imp (pi_range3 (gl_of xc h4).1 (blt_of xc (by decide +kernel)) (pa_cons (sE a xc _ h2) (pa_cons (sE b xc _ h5) (pa_cons (sE c xc _ h6) pa_nil (star_of h6 [])) (star_of h5 _)) (star_of h2 _)) (star_of h2 _) (by rw [star_of h5 _, star_of h6 []]; rfl)) fun σ H Q q => impI_rng3 q
    · cases h
  | .rev a, N, sc, W, X, xc, e, tg, h => by
    unfold ckI at h
    split at h
    · obtain ⟨h1, h2⟩ := and2 h
      obtain ⟨h3, h4⟩ := and2 h1
      have en := str_beq h3
      subst en
      exact PI.imp (RT.pi_revA (gl_of xc h4).1 (blt_of xc (by decide +kernel)) (sE a xc _ h2) (star_of h2 [])) fun σ H Q q => impI_rev q
    · cases h
  | .revr a, N, sc, W, X, xc, e, tg, h => by
    unfold ckI at h
    split at h
    · obtain ⟨h, h5⟩ := and2 h
      obtain ⟨h1, h2⟩ := and2 h
      obtain ⟨h3, h4⟩ := and2 h1
      obtain ⟨h6, h7⟩ := and2 h3
      have en := str_beq h6
      subst en
      have en := str_beq h7
      subst en
      exact PI.imp (pi_revR (gl_of xc h4).1 (blt_of xc (by decide +kernel)) (prg_1 (gl_of xc h2).1 (blt_of xc (by decide +kernel)) (sE a xc _ h5) (star_of h5 [])) rfl) fun σ H Q q => impI_revr q
    · cases h
  | .enum a, N, sc, W, X, xc, e, tg, h => by
    unfold ckI at h
    split at h
    · obtain ⟨h1, h2⟩ := and2 h
      obtain ⟨h3, h4⟩ := and2 h1
      obtain ⟨h5, h6⟩ := and2 h3
      have en := str_beq h6
      subst en
      cases tg with
      | Tuple elts k p =>
        have pa : PA X [_] (tCons (dV L X.K W a) tNil) := pa_cons (sE a xc _ h2) pa_nil (star_of h2 [])
        exact PI.imp (PI.or (pi_enum (gl_of xc h4).1 (blt_of xc (by decide +kernel)) pa (star_of h2 [])) (pi_enumT (gl_of xc h4).1 (blt_of xc (by decide +kernel)) pa (star_of h2 []))) fun σ H Q q => impI_enum q
      | _ => cases h5
    · cases h
  | .zip a b, N, sc, W, X, xc, e, tg, h => by
    unfold ckI at h
    split at h
    · obtain ⟨h, h7⟩ := and2 h
      obtain ⟨h1, h2⟩ := and2 h
      obtain ⟨h3, h4⟩ := and2 h1
      obtain ⟨h5, h6⟩ := and2 h3
      have en := str_beq h6
      subst en
      cases tg with
      | Tuple elts k p =>
        exact PI.imp (RZ.pi_zipA (gl_of xc h4).1 (blt_of xc (by decide +kernel)) (pa_cons (sE a xc _ h2) (pa_cons (sE b xc _ h7) pa_nil (star_of h7 [])) (star_of h2 _)) (star_of h2 _) (by rw [star_of h7 []]; rfl)) fun σ H Q q => impI_zip q
      | _ => cases h5
    · cases h
theorem sFold : ∀ (x : It) {N : List Str} {sc : Nms} {X : Cx} (e : Expr) (b : Bool), ckI L.T L.cons L.clsN N sc x e b = true → ∀ z, foldedSetIterable e X.env z = pure z
  | .seq a, N, sc, X, e, b, h, z => by
    have h' : ckE L.T L.cons L.clsN N sc a e = true := h
    cases e <;> first
      | rfl
      | (cases a <;> cases h')
  | .rng1 a, N, sc, X, e, b, h, z => by
    cases e <;> first
      | rfl
      | cases h
  | .rng2 a _, N, sc, X, e, b, h, z => by
    cases e <;> first
      | rfl
      | cases h
  | .rng3 a _ _, N, sc, X, e, b, h, z => by
    cases e <;> first
      | rfl
      | cases h
  | .rev a, N, sc, X, e, b, h, z => by
    cases e <;> first
      | rfl
      | cases h
  | .revr a, N, sc, X, e, b, h, z => by
    cases e <;> first
      | rfl
      | cases h
  | .enum a, N, sc, X, e, b, h, z => by
    cases e <;> first
      | rfl
      | cases h
  | .zip a _, N, sc, X, e, b, h, z => by
    cases e <;> first
      | rfl
      | cases h
end
end
end AW

/-! AwStmt: statements. -/
namespace AW
open PySem PySem.Spec PyProof.Rows L2

section
variable (L : Lk) (K : PySem.W.Frag) (W : WX)
/-- what is wanted of a statement's end: f0, H0 the entry's heaps, f what was settled -/
def EndOk (f0 H0 f : Hp) : Fl → Ends → Prop
  | .nx en', Dn => ∀ σ' f' H', Same f f' → Mt K f0 H0 f' H' σ' en' → Dn.nx σ' H'
  | .bk en', Dn => ∀ σ' f' H', Same f f' → Mt K f0 H0 f' H' σ' en' → Dn.bk σ' H'
  | .ct en', Dn => ∀ σ' f' H', Same f f' → Mt K f0 H0 f' H' σ' en' → Dn.ct σ' H'
  | .rt d fr, Dn => ∀ v f' H', Po f0 H0 f' H' → Vf K H0 f' H' v d fr → Dn.rt v H'
  | .ex k en', Dn => ∀ σ' f' H', Same f f' → Mt K f0 H0 f' H' σ' en' → W (L.cls k) none σ' H'
def OutS (f0 H0 f : Hp) (r : R Fl) (Dn : Ends) : Prop := match r with
  | .ok fl => EndOk L K W f0 H0 f fl Dn
  | _ => False
noncomputable abbrev Lk.es (s : S) (en : En) : R Fl := evS L.G L.c (dflT L.T) s en
noncomputable abbrev Lk.ess (s : Ss) (en : En) : R Fl := evSs L.G L.c (dflT L.T) s en
def dS (s : S) : TS := fun Dn σ H => ∃ f0 H0 f en, Mt K f0 H0 f H σ en ∧ OutS L K W f0 H0 f (L.es s en) Dn
def dSs (s : Ss) : TS := fun Dn σ H => ∃ f0 H0 f en, Mt K f0 H0 f H σ en ∧ OutS L K W f0 H0 f (L.ess s en) Dn
end
section
variable {L : Lk} {K : PySem.W.Frag} {W : WX} {f0 H0 f H f1 H1 : Hp} {σ : L2.St} {en : En} {Dn : Ends} {α : Type}
theorem EndOk.mono {fl : Fl} (s : Same f f1) (h : EndOk L K W f0 H0 f fl Dn) : EndOk L K W f0 H0 f1 fl Dn := by
  cases fl with
  | nx e => exact fun σ' f' H' s' m => h σ' f' H' (s.trans s') m
  | bk e => exact fun σ' f' H' s' m => h σ' f' H' (s.trans s') m
  | ct e => exact fun σ' f' H' s' m => h σ' f' H' (s.trans s') m
  | rt d fr => exact h
  | ex k e => exact fun σ' f' H' s' m => h σ' f' H' (s.trans s') m
theorem OutS.mono {r : R Fl} (s : Same f f1) (h : OutS L K W f0 H0 f r Dn) : OutS L K W f0 H0 f1 r Dn := by
  cases r with
  | ok fl => exact EndOk.mono s h
  | ex k => exact h
  | no => exact h
/-- an expression ahead of a statement's rest -/
theorem OutS.lf {r : R α} {g : α → R Fl} (m : Mt K f0 H0 f H σ en) (h : OutS L K W f0 H0 f (lf en r g) Dn) : Out L.cls W σ f H r fun a => OutS L K W f0 H0 f (g a) Dn := by
  cases r with
  | ok a => exact h
  | ex k => exact fun f' H' q => (show EndOk L K W f0 H0 f (.ex k en) Dn from h) σ f' H' q.sf (m.mono q)
  | no => exact h
theorem OutS.bind {r : R α} {g : α → R Fl} (h : OutS L K W f0 H0 f (r.bind g) Dn) : ∃ a, r = .ok a ∧ OutS L K W f0 H0 f (g a) Dn := by
  cases r with
  | ok a => exact ⟨a, rfl, h⟩
  | ex k => exact h.elim
  | no => exact h.elim
end

/-! ### the text's statements against the small language's -/
def plainV : Expr → Bool
  | .ListComp .. => false
  | .SetComp .. => false
  | .DictComp .. => false
  | .Tuple .. => false
  | _ => true
def cellName (sc : Nms) : Expr → Bool
  | .Name id _ => sc.lookup id == some .cell
  | _ => true
def noSwap (sc : Nms) (ts : List Expr) (vs : List Expr) : Bool := !(ts.length == 2 || ts.length == 3) || ts.any (cellName sc)
/-- a plain store: neither a comprehension stored at once nor swapped stores -/
def stOk (sc : Nms) : Expr → Expr → Bool
  | .Name x p, .ListComp _ _ scope q => sc.lookup x == some .cell || p.line != q.line || scope.names.any fun (n, k) => n == x && (k == .local || k == .cell)
  | .Tuple _ _ _, .ListComp .. => true
  | .Name _ _, .Tuple .. => true
  | .Tuple ts _ _, .Tuple vs _ _ => noSwap sc ts vs
  | _, e => plainV e
def compNow (sc : Nms) (x : Str) (p : Pos) : Expr → Bool
  | .ListComp _ [_] scope q => sc.lookup x == some .local && p.line == q.line && !(scope.names.any fun (n, k) => n == x && (k == .local || k == .cell))
  | _ => false
def isCmp : E → Bool
  | .cmp .. => true
  | _ => false
def parOk (N : List Str) (sc : Nms) : List Nat → List Expr → Bool
  | [], [] => true
  | i :: is, .Name x _ :: es => N[i]? == some x && sc.lookup x == some .local && parOk N sc is es
  | _, _ => false
def sameLine : List Expr → Bool
  | [] => true
  | e :: es => es.all fun e' => e'.pos.line == e.pos.line
def augOf : O2 → Operator → Bool
  | .add, .Add => true
  | .sub, .Sub => true
  | .mul, .Mult => true
  | .fdiv, .FloorDiv => true
  | .mod, .Mod => true
  | _, _ => false
mutual
def ckS (T : List Fn) (cs : List (Str × D)) (cl : List Str) (N : List Str) (sc : Nms) : S → Stmt → Bool
  | .pass, s => (match s with
    | .Pass _ => true
    | _ => false)
  | .asg tg e, s => (match s with
    | .Assign [tg'] e' _ => ckT N sc tg tg' && ckE T cs cl N sc e e' && stOk sc tg' e'
    | _ => false)
  | .asgO i e, s => (match s with
    | .Assign [.Name x p] e' _ => locOk N sc i x && ckE T cs cl N sc e e' && stOk sc (.Name x p) e'
    | _ => false)
  | .asgC i o e, s => (match s with
    | .Assign [.Name x p] e' _ => N[i]? == some x && ckE T cs cl N sc e e' && compNow sc x p e' && isCmp e
    | _ => false)
  | .par is es, s => (match s with
    | .Assign [.Tuple ts _ _] (.Tuple vs _ _) _ => parOk N sc is ts && ckEs T cs cl N sc es vs && decide (is.length = 2 ∨ is.length = 3) && decide is.Nodup && vs.length == is.length && sameLine ts && !(vs.all (foldedForSure 8)) && !(vs.all (constantsAlone 8))
    | _ => false)
  | .setI i k e, s => (match s with
    | .Assign [.Subscript (.Name x _) k' _] e' _ => nmOk N sc i x && ckE T cs cl N sc k k' && ckE T cs cl N sc e e' && plainV e' && plainE k'
    | _ => false)
  | .aug i o e, s => (match s with
    | .AugAssign (.Name x _) op e' _ => locOk N sc i x && augOf o op && ckE T cs cl N sc e e'
    | _ => false)
  | .app i e, s => (match s with
    | .Expr (.Call (.Attribute (.Name x _) m ap) [e'] [] cp) _ => nmOk N sc i x && m == "append" && ckE T cs cl N sc e e' && ap.endLine == cp.line
    | _ => false)
  | .pop i, s => (match s with
    | .Expr (.Call (.Attribute (.Name x _) m ap) [] [] cp) _ => nmOk N sc i x && m == "pop" && ap.endLine == cp.line
    | _ => false)
  | .popA tg i, s => (match s with
    | .Assign [tg'] (.Call (.Attribute (.Name x _) m ap) [] [] cp) _ => ckT N sc tg tg' && nmOk N sc i x && m == "pop" && ap.endLine == cp.line
    | _ => false)
  | .rvs i, s => (match s with
    | .Expr (.Call (.Attribute (.Name x _) m ap) [] [] cp) _ => nmOk N sc i x && m == "reverse" && ap.endLine == cp.line
    | _ => false)
  | .frz i, s => false
  | .ite t a b, s => (match s with
    | .If t' a' b' _ => ckE T cs cl N sc t t' && ckSs T cs cl N sc a a' && ckSs T cs cl N sc b b'
    | _ => false)
  | .whl t b, s => (match s with
    | .While t' b' [] _ => ckE T cs cl N sc t t' && ckSs T cs cl N sc b b'
    | _ => false)
  | .for_ tg it b, s => (match s with
    | .For tg' it' b' [] _ => ckT N sc tg tg' && ckI T cs cl N sc it it' (isTup tg') && ckSs T cs cl N sc b b'
    | _ => false)
  | .ret e, s => (match s with
    | .Return (some e') _ => ckE T cs cl N sc e e'
    | _ => false)
  | .retO i, s => (match s with
    | .Return (some (.Name x _)) _ => nmOk N sc i x
    | _ => false)
  | .retN, s => (match s with
    | .Return none _ => true
    | _ => false)
  | .brk, s => (match s with
    | .Break _ => true
    | _ => false)
  | .cnt, s => (match s with
    | .Continue _ => true
    | _ => false)
  | .rai k, s => (match s with
    | .Raise (some (.Call (.Name x _) [.Constant (.str _) _ _] [] _)) none _ => cl[k]? == some x && x != "" && glOk sc x
    | _ => false)
  | .exp e, s => (match s with
    | .Expr e' _ => ckE T cs cl N sc e e' && plainV e'
    | _ => false)
  | .tryA h i ks b, s => (match s with
    | .Try b' [.ExceptHandler (some (.Name x _)) (some n) [.Assign [.Name m p] (.Name n' _) pa] _] [] [] _ => x == "AreaError" && cl[9]? == some x && glOk sc x && ksOk cl ks &&
        nmOk N sc h n && N[i]? == some m && sc.lookup n == some .local && sc.lookup m == some .local && n' == n && n != m && ckSs T cs cl N sc b b'
    | _ => false)
  | .dead, s => true
def ckSs (T : List Fn) (cs : List (Str × D)) (cl : List Str) (N : List Str) (sc : Nms) : Ss → List Stmt → Bool
  | .nil, sts => sts.isEmpty
  | .cons s r, sts => (match s with
    | .frz _ => ckSs T cs cl N sc r sts
    | _ => (match sts with
      | st :: rest => ckS T cs cl N sc s st && ckSs T cs cl N sc r rest
      | [] => false))
end
end AW

/-! AwStA: stores. -/
namespace AW
open PySem PySem.Spec PyProof.Rows L2

section
variable {L : Lk} {N : List Str} {sc : Nms} {W : WX} {X : Cx}
theorem block_fn (xc : XC L N sc W X) : X.env.blockKind = .function := by
  unfold Env.blockKind
  rw [xc.kind]
  rfl
theorem kind_cell (xc : XC L N sc W X) {x : Str} (h : (sc.lookup x == some .cell) = true) : X.env.kindOf x = some .cell := (xc.nm x _ (eq_of_beq h)).1
theorem filterMap_all {α β : Type} {f : α → Option β} : ∀ {l : List α}, (l.filterMap f).length = l.length → ∀ a ∈ l, (f a).isSome = true
  | [], _, a, h => by cases h
  | b :: l, h, a, ha => by
    have hle := List.length_filterMap_le f l
    rw [List.filterMap_cons] at h
    cases hb : f b with
    | none =>
      rw [hb] at h
      simp only [List.length_cons] at h
      omega
    | some c =>
      rw [hb] at h
      simp only [List.length_cons] at h
      rcases List.mem_cons.mp ha with rfl | ha
      · rw [hb]; rfl
      · exact filterMap_all (by omega) a ha
theorem noSwap_ok (xc : XC L N sc W X) {ts vs : List Expr} {k k2 : Nat} {p p2 : Pos} (h : noSwap sc ts vs = true) : swappedStores [.Tuple ts k p] (.Tuple vs k2 p2) X.env = pure none := by
  unfold swappedStores
  dsimp only
  split
  · rfl
  · rename_i h1
    split
    · rfl
    · split
      · rfl
      · rename_i h2
        exfalso
        have hl : (ts.length == 2 || ts.length == 3) = true := by
          cases q : (ts.length == 2 || ts.length == 3) with
          | true => rfl
          | false => rw [q] at h1; simp at h1
        have h3 : ts.any (cellName sc) = true := by
          unfold noSwap at h
          rw [hl] at h
          simpa using h
        obtain ⟨e, he, hb⟩ := List.any_eq_true.mp h3
        simp only [Bool.or_eq_true, not_or] at h2
        have z := h2.1
        rw [bne_iff_ne, Classical.not_not] at z
        have q := filterMap_all z e he
        cases e with
        | Name id pos =>
          have kc := kind_cell xc hb
          have kc' : (X.env.kindOf id == some NameKind.local) = false := by rw [kc]; rfl
          simp only [kc', Bool.false_and] at q
          cases q
        | _ => cases q
theorem stOk_ok (xc : XC L N sc W X) {tg e : Expr} {l : Nat} (h : stOk sc tg e = true) (ht : ∃ t, ckT N sc t tg = true) : swapsWithSole [tg] e l X.env = pure false ∧ swappedStores [tg] e X.env = pure none ∧ (assignEach [tg] X.env).map (·.2) = [assign tg X.env] := by
  obtain ⟨t, ht⟩ := ht
  have h3 : (assignEach [tg] X.env).map (·.2) = [assign tg X.env] := ck_assign1 ht []
  refine ⟨?_, ?_, h3⟩
  · cases e <;> first
      | rfl
      | (cases tg <;> first
          | (cases h; done)
          | rfl
          | skip)
    case ListComp.Name elt gs scope q x p =>
      show swapsWith (.ListComp elt gs scope q) (some (.Name x p)) l X.env = pure false
      unfold swapsWith
      simp only [stOk, Bool.or_eq_true] at h
      have e1 : (X.env.blockKind == .function && X.env.kindOf x == some .local && p.line == (Expr.ListComp elt gs scope q).pos.line && !(scope.names.any fun (n, k) => n == x && (k == .local || k == .cell))) = false := by
        rcases h with (h | h) | h
        · rw [kind_cell xc h]
          simp
        · have : (p.line == q.line) = false := by simpa [bne] using h
          show (_ && _ && (p.line == q.line) && _) = false
          rw [this]; simp
        · rw [h]; simp
      show (pure (X.env.blockKind == .function && X.env.kindOf x == some .local && p.line == (Expr.ListComp elt gs scope q).pos.line && !(scope.names.any fun (n, k) => n == x && (k == .local || k == .cell))) : Sem Bool) = pure false
      rw [e1]
  · cases tg <;> first
      | rfl
      | (cases e <;> first
          | rfl
          | exact noSwap_ok xc h
          | (cases t <;> cases ht))
theorem compNow_ok (xc : XC L N sc W X) {x : Str} {p : Pos} {e : Expr} {l : Nat} (h : compNow sc x p e = true) : ∃ elt g scope q, e = .ListComp elt [g] scope q ∧ X.env.scope.names.lookup x = some .local ∧ swapsWith e (some (.Name x p)) l X.env = pure true := by
  unfold compNow at h
  split at h
  · rename_i elt g scope q
    simp only [Bool.and_eq_true] at h
    have hl : X.env.scope.names.lookup x = some .local := xc.nm x _ (eq_of_beq h.1.1)
    exact ⟨elt, g, scope, q, rfl, hl, sw_true xc.kind hl h.1.2 (not_false h.2)⟩
  · cases h

/-! ### parallel stores -/
theorem stars_none {T : List Fn} {cs : List (Str × D)} {cl : List Str} : ∀ {es : Es} {vs : List Expr}, ckEs T cs cl N sc es vs = true → ∀ e ∈ vs, ∀ v p, e ≠ .Starred v p
  | .nil, [], _, e, he, _, _ => by cases he
  | .nil, _ :: _, h, _, _, _, _ => by cases h
  | .cons x r, [], h, _, _, _, _ => by cases h
  | .cons x r, e :: es, h, e', he, v, p => fun z => by
    obtain ⟨h1, h2⟩ := and2 (show (ckE T cs cl N sc x e && ckEs T cs cl N sc r es) = true from h)
    rcases List.mem_cons.mp he with q | he
    · rw [← q, z] at h1
      cases x <;> cases h1
    · exact stars_none h2 e' he v p z
theorem swap2 (xc : XC L N sc W X) {x y : Str} {px py pt p2 : Pos} {a b : Expr} {kt k2 : Nat} (hx : X.env.scope.names.lookup x = some .local) (hy : X.env.scope.names.lookup y = some .local) (hxy : x ≠ y) (hl : (py.line == px.line) = true)
    (hs : ∀ e ∈ [a, b], ∀ v p, e ≠ .Starred v p) (h1 : ([a, b].all (foldedForSure 8)) = false) (h2 : ([a, b].all (constantsAlone 8)) = false) :
    swappedStores [.Tuple [.Name x px, .Name y py] kt pt] (.Tuple [a, b] k2 p2) X.env = pure (some [x, y]) := by
  have kx : (X.env.kindOf x == some .local) = true := by rw [show X.env.kindOf x = some .local from hx]; rfl
  have ky : (X.env.kindOf y == some .local) = true := by rw [show X.env.kindOf y = some .local from hy]; rfl
  have hb := block_fn xc
  have hxx : (px.line == px.line) = true := beq_self_eq_true _
  have ed : [x, y].eraseDups.length = 2 := by
    simp [List.eraseDups_cons, List.filter_cons, hxy, Ne.symm hxy]
  unfold swappedStores
  dsimp only
  refine (if_neg ?_).trans ((if_neg ?_).trans ((if_neg ?_).trans ((if_neg ?_).trans ((if_neg ?_).trans ?_))))
  · rw [hb]; simp
  · intro z
    obtain ⟨e, he, q⟩ := List.any_eq_true.mp z
    cases e with
    | Starred v p => exact hs _ he v p rfl
    | _ => cases q
  · simp only [List.filterMap_cons, List.filterMap_nil, List.head?_cons, Option.map_some, Option.getD_some, Expr.pos, kx, ky, hl, hxx, Bool.and_self, if_true, ed]
    simp
  · rw [h1]; exact Bool.false_ne_true
  · rw [h2]; exact Bool.false_ne_true
  · simp only [List.filterMap_cons, List.filterMap_nil, List.head?_cons, Option.map_some, Option.getD_some, Expr.pos, kx, ky, hl, hxx, Bool.and_self, if_true]
theorem swap3 (xc : XC L N sc W X) {x y z : Str} {px py pz pt p2 : Pos} {a b c : Expr} {kt k2 : Nat} (hx : X.env.scope.names.lookup x = some .local) (hy : X.env.scope.names.lookup y = some .local) (hz : X.env.scope.names.lookup z = some .local) (hxy : x ≠ y) (hxz : x ≠ z) (hyz : y ≠ z) (hl : (py.line == px.line) = true) (hl2 : (pz.line == px.line) = true)
    (hs : ∀ e ∈ [a, b, c], ∀ v p, e ≠ .Starred v p) (h1 : ([a, b, c].all (foldedForSure 8)) = false) (h2 : ([a, b, c].all (constantsAlone 8)) = false) :
    swappedStores [.Tuple [.Name x px, .Name y py, .Name z pz] kt pt] (.Tuple [a, b, c] k2 p2) X.env = pure (some [x, y, z]) := by
  have kx : (X.env.kindOf x == some .local) = true := by rw [show X.env.kindOf x = some .local from hx]; rfl
  have ky : (X.env.kindOf y == some .local) = true := by rw [show X.env.kindOf y = some .local from hy]; rfl
  have kz : (X.env.kindOf z == some .local) = true := by rw [show X.env.kindOf z = some .local from hz]; rfl
  have hb := block_fn xc
  have hxx : (px.line == px.line) = true := beq_self_eq_true _
  have ed : [x, y, z].eraseDups.length = 3 := by
    simp [List.eraseDups_cons, List.filter_cons, hxy, Ne.symm hxy, hxz, Ne.symm hxz, hyz, Ne.symm hyz]
  unfold swappedStores
  dsimp only
  refine (if_neg ?_).trans ((if_neg ?_).trans ((if_neg ?_).trans ((if_neg ?_).trans ((if_neg ?_).trans ?_))))
  · rw [hb]; simp
  · intro z
    obtain ⟨e, he, q⟩ := List.any_eq_true.mp z
    cases e with
    | Starred v p => exact hs _ he v p rfl
    | _ => cases q
  · simp only [List.filterMap_cons, List.filterMap_nil, List.head?_cons, Option.map_some, Option.getD_some, Expr.pos, kx, ky, kz, hl, hl2, hxx, Bool.and_self, if_true, ed]
    simp
  · rw [h1]; exact Bool.false_ne_true
  · rw [h2]; exact Bool.false_ne_true
  · simp only [List.filterMap_cons, List.filterMap_nil, List.head?_cons, Option.map_some, Option.getD_some, Expr.pos, kx, ky, kz, hl, hl2, hxx, Bool.and_self, if_true]
end
end AW

/-! AwStS: every statement that the check lets by. -/
namespace AW
open PySem PySem.Spec PyProof.Rows L2

structure XS (L : Lk) (N : List Str) (sc : Nms) (W : WX) (X : Cx) : Prop where
  xc : XC L N sc W X
  hp : PassesOwn (model X.prog X.w) X.A X.env X.xe
  st : X.stack = X.env :: X.outer
  fr : X.env.frame = some X.env.locals
  ex : X.ex = []

section
variable {L : Lk} {N : List Str} {sc : Nms} {W : WX} {X : Cx} {K : PySem.W.Frag}
/-! ### readings -/
theorem imp_asg {tg : Tg} {e : E} {Dn σ H} (h : dS L K W (.asg tg e) Dn σ H) : tAsg (dV L K W e) (gD K tg) Dn σ H := by
  obtain ⟨f0, H0, f, en, m, o⟩ := h
  have o1 := OutS.lf m (show OutS L K W f0 H0 f (lf en (L.ev e en) fun x => (bindT tg x.1 en).bind fun en' => .ok (.nx en')) Dn from o)
  refine ⟨f0, H0, f, en, m, o1.imp (Po.refl m.po.sub) fun p _ h1 v f1 H1 q1 hv => ?_⟩
  obtain ⟨en', eb, h2⟩ := h1.bind
  obtain ⟨f2, q2, hv2⟩ := hv.settle q1
  exact ⟨f0, H0, f2, en, p.1, en', m.mono q2, hv2, eb, fun σ' m' _ => h2 σ' f2 H1 q2.sf m'⟩
theorem imp_asgO {i : Nat} {e : E} {Dn σ H} (h : dS L K W (.asgO i e) Dn σ H) : tAsg (dV L K W e) (gName i) Dn σ H := by
  obtain ⟨f0, H0, f, en, m, o⟩ := h
  have o1 := OutS.lf m (show OutS L K W f0 H0 f (lf en (L.ev e en) fun x => (match x with | (.list ds, true) => .ok (.nx (en.set i (.ow ds))) | _ => .no)) Dn from o)
  refine ⟨f0, H0, f, en, m, o1.imp (Po.refl m.po.sub) fun p _ h1 v f1 H1 q1 hv => ?_⟩
  obtain ⟨d, b⟩ := p
  cases b with
  | false => cases d <;> exact h1.elim
  | true =>
    obtain ⟨ds, a, vs, rfl, rfl, z1, z2, z3, z4⟩ := hv
    exact h1 _ f1 H1 q1.sf (m.setO q1 z1 z2 z3 z4)
theorem imp_asgC {i : Nat} {b : Bool} {e : E} {Dn σ H} (h : dS L K W (.asgC i b e) Dn σ H) : tAsg (dV L K W e) (gName i) Dn σ H := by
  obtain ⟨f0, H0, f, en, m, o⟩ := h
  have o1 := OutS.lf m (show OutS L K W f0 H0 f (lf en (L.ev e en) fun x => (match x with | (.list ds, true) => .ok (.nx (en.set i (if b then .ow ds else .va (.list ds)))) | _ => .no)) Dn from o)
  refine ⟨f0, H0, f, en, m, o1.imp (Po.refl m.po.sub) fun p _ h1 v f1 H1 q1 hv => ?_⟩
  obtain ⟨d, c⟩ := p
  cases c with
  | false => cases d <;> exact h1.elim
  | true =>
    cases b with
    | true =>
      obtain ⟨ds, a, vs, rfl, rfl, z1, z2, z3, z4⟩ := hv
      exact h1 _ f1 H1 q1.sf (m.setO q1 z1 z2 z3 z4)
    | false =>
      obtain ⟨f2, q2, hv2⟩ := hv.settle q1
      obtain ⟨ds, a, vs, rfl, rfl, z1, z2, z3, z4⟩ := hv
      exact h1 _ f2 H1 q2.sf ((m.mono q2).setV hv2)
theorem imp_par2 {i j : Nat} {es : Es} {Dn σ H} (h : dS L K W (.par [i, j] es) Dn σ H) : tPar i j (dVs L K W es) Dn σ H := by
  obtain ⟨f0, H0, f, en, m, o⟩ := h
  have o1 := OutS.lf m (show OutS L K W f0 H0 f (lf en (evs L.G L.c (dflT L.T) es en) fun ds => if ds.length = [i, j].length then .ok (.nx (([i, j].zip ds).foldl (fun e p => e.set p.1 (.va p.2)) en)) else .no) Dn from o)
  refine ⟨f0, H0, f, en, m, o1.imp (Po.refl m.po.sub) fun ds _ h1 vs f1 H1 q1 hv => ?_⟩
  cases hv with
  | nil => exact h1.elim
  | cons a t => cases t with
    | nil => exact h1.elim
    | cons b t => cases t with
      | cons c t => exact absurd h1 (by rw [if_neg (by simp)]; exact fun z => z)
      | nil => exact ⟨_, _, rfl, h1 _ f1 H1 q1.sf (((m.mono q1).setV a).setV b)⟩
theorem imp_par3 {i j k : Nat} {es : Es} {Dn σ H} (h : dS L K W (.par [i, j, k] es) Dn σ H) : tPar3 i j k (dVs L K W es) Dn σ H := by
  obtain ⟨f0, H0, f, en, m, o⟩ := h
  have o1 := OutS.lf m (show OutS L K W f0 H0 f (lf en (evs L.G L.c (dflT L.T) es en) fun ds => if ds.length = [i, j, k].length then .ok (.nx (([i, j, k].zip ds).foldl (fun e p => e.set p.1 (.va p.2)) en)) else .no) Dn from o)
  refine ⟨f0, H0, f, en, m, o1.imp (Po.refl m.po.sub) fun ds _ h1 vs f1 H1 q1 hv => ?_⟩
  cases hv with
  | nil => exact h1.elim
  | cons a t => cases t with
    | nil => exact h1.elim
    | cons b t => cases t with
      | nil => exact h1.elim
      | cons c t => cases t with
        | cons d t => exact absurd h1 (by rw [if_neg (by simp)]; exact fun z => z)
        | nil => exact ⟨_, _, _, rfl, h1 _ f1 H1 q1.sf ((((m.mono q1).setV a).setV b).setV c)⟩
theorem imp_setI {i : Nat} {k e : E} {Dn σ H} (h : dS L K W (.setI i k e) Dn σ H) : tAsg (dV L K W e) (gSub (tVar i) (dV L K W k) rSetL) Dn σ H := by
  obtain ⟨f0, H0, f, en, m, o⟩ := h
  have o1 := OutS.lf m (show OutS L K W f0 H0 f (lf en (L.ev e en) fun x => (match en[i]? with
    | some (.ow ds) => lf en (L.ev k en) fun kv => (intR kv.1).bind fun j => (setD ds j x.1).bind fun ds' => .ok (.nx (en.set i (.ow ds')))
    | _ => .no)) Dn from o)
  refine ⟨f0, H0, f, en, m, o1.imp (Po.refl m.po.sub) fun p _ h1 v f1 H1 q1 hv => ?_⟩
  obtain ⟨f2, q2, hv2⟩ := hv.settle q1
  have m2 := m.mono q2
  cases ei : en[i]? with
  | none => rw [ei] at h1; exact h1.elim
  | some s =>
    rw [ei] at h1
    cases s with
    | ow ds =>
      obtain ⟨a, vs, e1, _, _, hH, ha⟩ := m2.ow ei
      refine ⟨_, e1, f0, H0, f2, en, m2, (OutS.lf m2 (h1.mono q2.sf)).imp (Po.refl q2.sub) fun kv _ h2 kw f3 H3 q3 hkw => ?_⟩
      obtain ⟨j, ej, h3⟩ := OutS.bind h2
      have hr := hkw.read
      rw [intR_cases ej] at hr
      obtain ⟨ds', ed, h4⟩ := OutS.bind h3
      have m3 := m2.mono q3
      obtain ⟨a', vs', e1', _, _, hH', ha'⟩ := m3.ow ei
      rw [e1] at e1'
      cases e1'
      unfold setD at ed
      cases ex : ixN ds.length j with
      | none => rw [ex] at ed; cases ed
      | some n =>
        rw [ex] at ed
        cases ed
        refine ⟨a, vs', j, n, rfl, hr.int, hH', by rw [ha'.length]; exact ex, ?_⟩
        exact h4 σ f3 _ q3.sf (m3.upO ei e1 (ha'.set n (dp_same q3.sf hv2)))
    | un => exact h1.elim
    | va d => exact h1.elim
    | rd d => exact h1.elim
    | er d => exact h1.elim
theorem app_core {H' : Hp} {p : Addr} {vs : List V} (hH : H' p = some (.lst vs)) : tyV K "list" (.ref p) H' := .inl ⟨rfl, vs, .inl (.inl hH)⟩
theorem imp_app {i : Nat} {e : E} {Dn σ H} (h : dS L K W (.app i e) Dn σ H) : tDrop (tBM K "list" rAppend (tVar i) (tCons (dV L K W e) tNil)) Dn σ H := by
  obtain ⟨f0, H0, f, en, m, o⟩ := h
  have o' : OutS L K W f0 H0 f (match en[i]? with
    | some (.ow ds) => lf en (L.ev e en) fun x => if ds.length < line then .ok (.nx (en.set i (.ow (ds ++ [x.1])))) else .no
    | _ => .no) Dn := o
  cases ei : en[i]? with
  | none => rw [ei] at o'; exact o'.elim
  | some s =>
    rw [ei] at o'
    cases s with
    | ow ds =>
      obtain ⟨a, vs, e1, _, _, hH, ha⟩ := m.ow ei
      refine ⟨_, e1, app_core hH, f0, H0, f, en, m, (OutS.lf m o').imp (Po.refl m.po.sub) fun p _ h1 v f1 H1 q1 hv => ?_⟩
      by_cases hz : ds.length < line
      · rw [if_pos hz] at h1
        obtain ⟨f2, q2, hv2⟩ := hv.settle q1
        have m2 := m.mono q2
        obtain ⟨a', vs', e1', _, _, hH', ha'⟩ := m2.ow ei
        rw [e1] at e1'
        cases e1'
        refine ⟨a, vs', v, rfl, rfl, hH', by rw [ha'.length, ← line_eq]; exact hz, ?_⟩
        exact h1 σ f2 _ q2.sf (m2.upO ei e1 (ha'.append (.cons hv2 .nil)))
      · rw [if_neg hz] at h1
        exact h1.elim
    | un => exact o'.elim
    | va d => exact o'.elim
    | rd d => exact o'.elim
    | er d => exact o'.elim
theorem imp_pop {i : Nat} {Dn σ H} (h : dS L K W (.pop i) Dn σ H) : tDrop (tBM0 K "list" rPop (tVar i)) Dn σ H := by
  obtain ⟨f0, H0, f, en, m, o⟩ := h
  have o' : OutS L K W f0 H0 f (match en[i]? with
    | some (.ow ds) => if ds = [] then .no else .ok (.nx (en.set i (.ow ds.dropLast)))
    | _ => .no) Dn := o
  cases ei : en[i]? with
  | none => rw [ei] at o'; exact o'.elim
  | some s =>
    rw [ei] at o'
    cases s with
    | ow ds =>
      obtain ⟨a, vs, e1, _, _, hH, ha⟩ := m.ow ei
      by_cases hz : ds = []
      · have : OutS L K W f0 H0 f (if ds = [] then .no else .ok (.nx (en.set i (.ow ds.dropLast)))) Dn := o'
        rw [if_pos hz] at this
        exact this.elim
      · have h1 : OutS L K W f0 H0 f (if ds = [] then .no else .ok (.nx (en.set i (.ow ds.dropLast)))) Dn := o'
        rw [if_neg hz] at h1
        have hl := ha.length
        have hlt : vs.length - 1 < vs.length := by
          cases ds with
          | nil => exact absurd rfl hz
          | cons d r => rw [hl, List.length_cons]; omega
        exact ⟨_, e1, app_core hH, a, vs, _, rfl, rfl, hH, List.getElem?_eq_getElem hlt, h1 σ f _ (Same.refl f) (m.upO ei e1 ha.dropLast)⟩
    | un => exact o'.elim
    | va d => exact o'.elim
    | rd d => exact o'.elim
    | er d => exact o'.elim
theorem imp_popA {tg : Tg} {i : Nat} {Dn σ H} (h : dS L K W (.popA tg i) Dn σ H) : tAsg (tBM0 K "list" rPop (tVar i)) (gD K tg) Dn σ H := by
  obtain ⟨f0, H0, f, en, m, o⟩ := h
  have o' : OutS L K W f0 H0 f (match en[i]? with
    | some (.ow ds) => (match ds.getLast? with
      | some d => (bindT tg d (en.set i (.ow ds.dropLast))).bind fun en' => .ok (.nx en')
      | none => .no)
    | _ => .no) Dn := o
  cases ei : en[i]? with
  | none => rw [ei] at o'; exact o'.elim
  | some s =>
    rw [ei] at o'
    cases s with
    | ow ds =>
      obtain ⟨a, vs, e1, _, _, hH, ha⟩ := m.ow ei
      have h1 : OutS L K W f0 H0 f (match ds.getLast? with
        | some d => (bindT tg d (en.set i (.ow ds.dropLast))).bind fun en' => .ok (.nx en')
        | none => .no) Dn := o'
      cases el : ds.getLast? with
      | none => rw [el] at h1; exact h1.elim
      | some d =>
        rw [el] at h1
        obtain ⟨en', eb, h2⟩ := OutS.bind h1
        rw [List.getLast?_eq_getElem?, ← ha.length] at el
        obtain ⟨v, hv, hd⟩ := ha.get el
        exact ⟨_, e1, app_core hH, a, vs, v, rfl, rfl, hH, hv, f0, H0, f, _, d, en', m.upO ei e1 ha.dropLast, hd, eb, fun σ' m' _ => h2 σ' f _ (Same.refl f) m'⟩
    | un => exact o'.elim
    | va d => exact o'.elim
    | rd d => exact o'.elim
    | er d => exact o'.elim
theorem imp_rvs {i : Nat} {Dn σ H} (h : dS L K W (.rvs i) Dn σ H) : tDrop (tBM0 K "list" rReverse (tVar i)) Dn σ H := by
  obtain ⟨f0, H0, f, en, m, o⟩ := h
  have o' : OutS L K W f0 H0 f (match en[i]? with
    | some (.ow ds) => .ok (.nx (en.set i (.ow ds.reverse)))
    | _ => .no) Dn := o
  cases ei : en[i]? with
  | none => rw [ei] at o'; exact o'.elim
  | some s =>
    rw [ei] at o'
    cases s with
    | ow ds =>
      obtain ⟨a, vs, e1, _, _, hH, ha⟩ := m.ow ei
      exact ⟨_, e1, app_core hH, a, vs, rfl, rfl, hH, (show EndOk L K W f0 H0 f (.nx (en.set i (.ow ds.reverse))) Dn from o') σ f _ (Same.refl f) (m.upO ei e1 ha.reverse)⟩
    | un => exact o'.elim
    | va d => exact o'.elim
    | rd d => exact o'.elim
    | er d => exact o'.elim
theorem imp_ite {t : E} {a b : Ss} {Dn σ H} (h : dS L K W (.ite t a b) Dn σ H) : tIfS (dT L K W t) (dSs L K W a) (dSs L K W b) Dn σ H := by
  obtain ⟨f0, H0, f, en, m, o⟩ := h
  have o1 := OutS.lf m (show OutS L K W f0 H0 f (lf en (evT L.G L.c (dflT L.T) t en) fun k => if k then L.ess a en else L.ess b en) Dn from o)
  refine ⟨f0, H0, f, en, m, o1.imp (Po.refl m.po.sub) fun k _ h1 f1 H1 q1 => ?_⟩
  cases k with
  | true => exact ⟨f0, H0, f1, en, m.mono q1, OutS.mono q1.sf h1⟩
  | false => exact ⟨f0, H0, f1, en, m.mono q1, OutS.mono q1.sf h1⟩
theorem imp_ret {e : E} {Dn σ H} (h : dS L K W (.ret e) Dn σ H) : tRet (dV L K W e) Dn σ H := by
  obtain ⟨f0, H0, f, en, m, o⟩ := h
  have o1 := OutS.lf m (show OutS L K W f0 H0 f (lf en (L.ev e en) fun x => .ok (.rt x.1 x.2)) Dn from o)
  exact ⟨f0, H0, f, en, m, o1.imp (Po.refl m.po.sub) fun p _ h1 v f1 H1 q1 hv => h1 v f1 H1 (m.po.trans q1) (hv.back m.po.sH)⟩
theorem imp_retO {i : Nat} {Dn σ H} (h : dS L K W (.retO i) Dn σ H) : tRet (tVar i) Dn σ H := by
  obtain ⟨f0, H0, f, en, m, o⟩ := h
  have o' : OutS L K W f0 H0 f (match en[i]? with
    | some (.ow ds) => .ok (.rt (.list ds) true)
    | _ => .no) Dn := o
  cases ei : en[i]? with
  | none => rw [ei] at o'; exact o'.elim
  | some s =>
    rw [ei] at o'
    cases s with
    | ow ds =>
      obtain ⟨a, vs, e1, h0, hf, hH, ha⟩ := m.ow ei
      exact ⟨_, e1, (show EndOk L K W f0 H0 f (.rt (.list ds) true) Dn from o') _ f H m.po ⟨ds, a, vs, rfl, rfl, h0, hf, hH, ha⟩⟩
    | un => exact o'.elim
    | va d => exact o'.elim
    | rd d => exact o'.elim
    | er d => exact o'.elim
theorem imp_exp {e : E} {Dn σ H} (h : dS L K W (.exp e) Dn σ H) : tDrop (dV L K W e) Dn σ H := by
  obtain ⟨f0, H0, f, en, m, o⟩ := h
  have o1 := OutS.lf m (show OutS L K W f0 H0 f (lf en (L.ev e en) fun _ => .ok (.nx en)) Dn from o)
  exact ⟨f0, H0, f, en, m, o1.imp (Po.refl m.po.sub) fun p _ h1 v f1 H1 q1 hv => h1 σ f1 H1 q1.sf (m.mono q1)⟩
/-! ### loops -/
theorem whileN_no0 {t : En → R Bool} {b : En → R Fl} {n : Nat} {en : En} (h : whileN t b n en ≠ .no) : ∃ k, n = k + 1 := by
  cases n with
  | zero => exact absurd rfl h
  | succ k => exact ⟨k, rfl⟩
theorem imp_whl {t : E} {b : Ss} {Dn σ H} (h : dS L K W (.whl t b) Dn σ H) : tWhile (dT L K W t) (dSs L K W b) Dn σ H := by
  obtain ⟨f0, H0, f, en, m, o⟩ := h
  have o' : OutS L K W f0 H0 f (whileR (evT L.G L.c (dflT L.T) t) (L.ess b) en) Dn := o
  unfold whileR at o'
  by_cases hh : ∃ n, whileN (evT L.G L.c (dflT L.T) t) (L.ess b) n en ≠ .no
  · rw [dif_pos hh] at o'
    generalize hr : whileN (evT L.G L.c (dflT L.T) t) (L.ess b) hh.choose en = r at o'
    have rno : r ≠ .no := fun z => by rw [z] at o'; exact o'
    refine ⟨fun n σ' H' => ∃ fi ei, Same f fi ∧ Mt K f0 H0 fi H' σ' ei ∧ whileN (evT L.G L.c (dflT L.T) t) (L.ess b) n ei = r, ⟨_, f, en, Same.refl f, m, hr⟩, ?_⟩
    rintro n σ' H' ⟨fi, ei, sf, mi, hw⟩
    obtain ⟨k, rfl⟩ := whileN_no0 (by rw [hw]; exact rno)
    have hw' : lf ei (evT L.G L.c (dflT L.T) t ei) (fun k' => if k' then (L.ess b ei).bind (nextFl (whileN (evT L.G L.c (dflT L.T) t) (L.ess b) k)) else .ok (.nx ei)) = r := hw
    have o2 := OutS.mono sf o'
    rw [← hw'] at o2
    have ol := OutS.lf mi o2
    cases et : evT L.G L.c (dflT L.T) t ei with
    | no => rw [et] at ol; exact ol.elim
    | ex c =>
      rw [et] at ol
      exact ⟨f0, H0, fi, ei, mi, by rw [et]; exact ol⟩
    | ok c =>
      rw [et] at ol hw'
      refine ⟨f0, H0, fi, ei, mi, ?_⟩
      rw [et]
      intro f' H'' q
      cases c with
      | false => exact (show EndOk L K W f0 H0 fi (.nx ei) Dn from ol) σ' f' H'' q.sf (mi.mono q)
      | true =>
        rw [if_pos rfl]
        have ol' : OutS L K W f0 H0 fi ((L.ess b ei).bind (nextFl (whileN (evT L.G L.c (dflT L.T) t) (L.ess b) k))) Dn := ol
        obtain ⟨fl, ef, o3⟩ := OutS.bind ol'
        have hw2 : nextFl (whileN (evT L.G L.c (dflT L.T) t) (L.ess b) k) fl = r := by
          have z : (L.ess b ei).bind _ = r := hw'
          rw [ef] at z
          exact z
        refine ⟨fun σ2 H2 => ∃ f2 e2, Same f f2 ∧ Mt K f0 H0 f2 H2 σ2 e2 ∧ whileN (evT L.G L.c (dflT L.T) t) (L.ess b) k e2 = r, fun σ2 H2 ⟨f2, e2, s2, m2, w2⟩ => ⟨k, Nat.lt_succ_self k, f2, e2, s2, m2, w2⟩, f0, H0, f', ei, mi.mono q, ?_⟩
        rw [ef]
        cases fl with
        | nx e => exact fun σ2 f2 H2 s2 m2 => ⟨f2, e, (sf.trans q.sf).trans s2, m2, hw2⟩
        | ct e => exact fun σ2 f2 H2 s2 m2 => ⟨f2, e, (sf.trans q.sf).trans s2, m2, hw2⟩
        | bk e => exact fun σ2 f2 H2 s2 m2 => (show EndOk L K W f0 H0 fi (.nx e) Dn from o3) σ2 f2 H2 (q.sf.trans s2) m2
        | rt d fr => exact o3
        | ex c e => exact fun σ2 f2 H2 s2 m2 => (show EndOk L K W f0 H0 fi (.ex c e) Dn from o3) σ2 f2 H2 (q.sf.trans s2) m2
  · rw [dif_neg hh] at o'
    exact o'.elim
theorem imp_for {tg : Tg} {it : It} {b : Ss} {Dn σ H} (h : dS L K W (.for_ tg it b) Dn σ H) : tFor (dI L K W it) (gD K tg) (dSs L K W b) Dn σ H := by
  obtain ⟨f0, H0, f, en, m, o⟩ := h
  have o1 := OutS.lf m (show OutS L K W f0 H0 f (lf en (evI L.G L.c (dflT L.T) it en) fun ds => forR (bindT tg) (L.ess b) ds en) Dn from o)
  refine ⟨f0, H0, f, en, m, o1.imp (Po.refl m.po.sub) fun ds _ h1 J f1 H1 q1 wk => ?_⟩
  have h2 := OutS.mono q1.sf h1
  generalize hr : forR (bindT tg) (L.ess b) ds en = r at h2
  refine ⟨fun i mm σ' H' => mm = ds.length - i ∧ i ≤ ds.length ∧ ∃ fi ei, Same f1 fi ∧ Mt K f0 H0 fi H' σ' ei ∧ forR (bindT tg) (L.ess b) (ds.drop i) ei = r, ⟨_, rfl, Nat.zero_le _, f1, en, Same.refl f1, m.mono q1, hr⟩, ?_⟩
  rintro i mm σ' H' ⟨rfl, hi, fi, ei, sf, mi, hf⟩
  have sm1 : Same f1 H' := sf.trans mi.po.sub
  by_cases hlt : i < ds.length
  · refine .inr ⟨wk.go i H' sm1 hlt, fun σ2 H2 => ∃ f2 e2, Same f1 f2 ∧ Mt K f0 H0 f2 H2 σ2 e2 ∧ forR (bindT tg) (L.ess b) (ds.drop (i + 1)) e2 = r, fun σ2 H2 hn => ⟨_, by omega, rfl, hlt, hn⟩, fun x H2 hy => ?_⟩
    obtain ⟨d, hd, hw⟩ := wk.yld i H' x H2 hlt sm1 hy
    obtain ⟨f2, q3, hx⟩ := hw fi sf mi.po.sub
    have hdrop : ds.drop i = d :: ds.drop (i + 1) := by
      rw [List.drop_eq_getElem_cons hlt]
      have : ds[i] = d := by
        rw [List.getElem?_eq_getElem hlt] at hd
        exact Option.some.inj hd
      rw [this]
    rw [hdrop] at hf
    have hf' : (bindT tg d ei).bind (fun e1 => (L.ess b e1).bind (nextFl (forR (bindT tg) (L.ess b) (ds.drop (i + 1))))) = r := hf
    have rno : ∀ {α : Type} {x : R α} {g : α → R Fl}, x.bind g = r → ∃ a, x = .ok a ∧ g a = r := fun {α x g} z => by
      cases x with
      | ok a => exact ⟨a, rfl, z⟩
      | ex c => rw [← z] at h2; exact h2.elim
      | no => rw [← z] at h2; exact h2.elim
    obtain ⟨e1, eb, hf2⟩ := rno hf'
    obtain ⟨fl, ef, hf3⟩ := rno hf2
    refine ⟨f0, H0, f2, ei, d, e1, mi.mono q3, hx, eb, fun σ2 m2 _ => ⟨f0, H0, f2, e1, m2, ?_⟩⟩
    rw [ef]
    have sf2 : Same f1 f2 := sf.trans q3.sf
    cases fl with
    | nx e => exact fun σ3 f3 H3 s3 m3 => ⟨f3, e, sf2.trans s3, m3, hf3⟩
    | ct e => exact fun σ3 f3 H3 s3 m3 => ⟨f3, e, sf2.trans s3, m3, hf3⟩
    | bk e =>
      rw [← hf3] at h2
      exact fun σ3 f3 H3 s3 m3 => (show EndOk L K W f0 H0 f1 (.nx e) Dn from h2) σ3 f3 H3 (sf2.trans s3) m3
    | rt d fr =>
      rw [← hf3] at h2
      exact h2
    | ex c e =>
      rw [← hf3] at h2
      exact fun σ3 f3 H3 s3 m3 => (show EndOk L K W f0 H0 f1 (.ex c e) Dn from h2) σ3 f3 H3 (sf2.trans s3) m3
  · have e : i = ds.length := by omega
    subst e
    refine .inl ⟨wk.stop H' sm1, ?_⟩
    rw [List.drop_length] at hf
    have hf' : R.ok (Fl.nx ei) = r := hf
    rw [← hf'] at h2
    exact (show EndOk L K W f0 H0 f1 (.nx ei) Dn from h2) σ' fi H' sf mi

/-! ### all -/
theorem plainV_sw {e : Expr} (h : plainV e = true) {t : Option Expr} {l : Nat} : swapsWith e t l X.env = pure false := by
  cases e <;> first
    | rfl
    | cases h
theorem opI_aug {o : O2} {op : Operator} (hp : PyR X) (h : augOf o op = true) : OpR X (inplaceOp op) (fun x y H Q => ∃ f dx dy p, Same f H ∧ Vr X.K f H x dx ∧ Vr X.K f H y dy ∧ ((∃ i, dx = .int i) ∨ ∃ z, dx = .str z) ∧ sem2 o dx dy = .ok p ∧ Ac X.K f H Q p) := by
  intro pins s σ H x y v u Q I rx ry hh
  obtain ⟨f, dx, dy, p, sm, hx, hy, hd, e, q⟩ := hh
  rcases hd with ⟨i, rfl⟩ | ⟨z, rfl⟩
  · cases o <;> cases op <;> first
      | (cases h; done)
      | skip
    case add.Add =>
      cases dy <;> first
        | (cases e; done)
        | skip
      case int j =>
        cases e
        exact iop_add pins s σ H x y v u Q I rx ry ⟨i, j, hx.int, hy.int, q.here sm (.int _)⟩
    case sub.Sub =>
      cases dy <;> first
        | (cases e; done)
        | skip
      case int j =>
        cases e
        exact iop_sub pins s σ H x y v u Q I rx ry ⟨i, j, hx.int, hy.int, q.here sm (.int _)⟩
    case mul.Mult =>
      cases dy <;> first
        | (cases e; done)
        | skip
      case int j =>
        have e' : (if mulOk i j = true then v1 (.int (i * j)) else .no) = R.ok p := e
        by_cases hz : mulOk i j = true
        · rw [if_pos hz] at e'
          cases e'
          have hr : OpR X (inplaceOp .Mult) (rI (fun i j => mulOk i j = true) fun i j => .int (i * j)) := opI fun _ _ _ _ _ _ _ hc q => imul_int q (mulOk_ok hc)
          exact hr pins s σ H x y v u Q I rx ry ⟨i, j, hx.int, hy.int, hz, q.here sm (.int _)⟩
        · rw [if_neg hz] at e'
          cases e'
    case fdiv.FloorDiv =>
      cases dy <;> first
        | (cases e; done)
        | skip
      case int j =>
        have e' : (if j = 0 then R.no else v1 (.int (i.fdiv j))) = R.ok p := e
        by_cases h0 : j = 0
        · rw [if_pos h0] at e'
          cases e'
        · rw [if_neg h0] at e'
          cases e'
          obtain ⟨t, rfl⟩ : RelV (.int i) v := by rw [← hx.int]; exact rx
          obtain ⟨t', rfl⟩ : RelV (.int j) u := by rw [← hy.int]; exact ry
          exact ifloordiv_int h0 ⟨.int (i.fdiv j), H, I.tok _, ⟨_, rfl⟩, q.here sm (.int _)⟩ (.inr (hp.of I))
    case mod.Mod =>
      cases dy <;> first
        | (cases e; done)
        | skip
      case int j =>
        have e' : (if j = 0 then R.no else v1 (.int (i.fmod j))) = R.ok p := e
        by_cases h0 : j = 0
        · rw [if_pos h0] at e'
          cases e'
        · rw [if_neg h0] at e'
          cases e'
          have hr : OpR X (inplaceOp .Mod) (rI (fun i j => j ≠ 0) fun i j => .int (i.fmod j)) := opI fun _ _ _ _ _ _ _ hc q => imod_int hc q
          exact hr pins s σ H x y v u Q I rx ry ⟨i, j, hx.int, hy.int, h0, q.here sm (.int _)⟩
  · cases o <;> cases op <;> first
      | (cases h; done)
      | skip
    case add.Add =>
      cases dy <;> first
        | (cases e; done)
        | skip
      case str j =>
        have e' : (if z.length + j.length ≤ line then v1 (.str (z ++ j)) else .no) = R.ok p := e
        by_cases hz : z.length + j.length ≤ line
        · rw [if_pos hz] at e'
          cases e'
          exact iop_add_str pins s σ H x y v u Q I rx ry ⟨z, j, hx.str, hy.str, by rw [← line_eq]; exact hz, q.here sm (.str _)⟩
        · rw [if_neg hz] at e'
          cases e'
    all_goals (cases dy <;> cases e)
end
end AW

/-! AwTry: try: body, except AreaError as n: m = n; the error is kept. -/
namespace AW
open PySem PySem.Spec PyProof.Rows L2
section
variable {X : Cx} {pins : List (Addr × Obj)} {σ : L2.St} {H : Hp} {s : Shared}
/-- behind the suite, the error still pinned -/
theorem inv_unsuiteK {a : Addr} {q : Addr × Obj} (I : Inv (X.suite a (q :: (X.pn ++ pins))) [] σ H s) (ok : X.Ok) : Inv X (q :: pins) σ H s :=
  ⟨ok, I.os, I.bare, I.base, I.loc, I.cell, I.free, I.freeC, fun p hp => I.pin p (by
    rw [List.append_nil]
    rcases List.mem_append.mp hp with h | h
    · exact List.mem_cons_of_mem _ (List.mem_append_left _ h)
    · rcases List.mem_cons.mp h with h | h
      · rw [h]; exact List.mem_cons_self
      · exact List.mem_cons_of_mem _ (List.mem_append_right _ h)), I.hok, I.len⟩
/-- a pinned error is tracked -/
theorem inv_track {a : Addr} {oe : Obj} {vs : Array Value} {k : Nat} {K : PySem.W.Frag} (I : Inv X ((a, oe) :: pins) σ H s) (hz : Zc (erC K k) none oe) (hd : oe.data = .fields vs) (h0 : X.s_0.heap.get? a = none) (hp : ∀ p ∈ X.pn ++ pins, p.1 ≠ a) :
    Inv X pins σ (upd H a (erO K k a)) s := by
  obtain ⟨e, n, ne, nf, d⟩ := I.pin (a, oe) (List.mem_append_right _ List.mem_cons_self)
  have e : s.heap.get? a = some oe := e
  have n : H a = none := n
  have ne : a ≠ X.env.locals := ne
  have ne0 : ∀ b o, X.s_0.heap.get? b = some o → b ≠ a := fun b o e z => by
    rw [z, h0] at e
    cases e
  refine ⟨I.ok, I.os, I.bare, ⟨I.base.keep, I.base.slot, fun b o e n hx => ?_, I.base.there, fun b xs q => ?_, fun b o u q => ?_, fun b ps q => ?_⟩, I.loc, I.cell, ?_, fun x c ex => ?_, fun p hp' => ?_, I.hok.laidN (fun _ _ q => q) n (erO_ok e hz hd), I.len⟩
  · rw [upd_ne (ne0 b o e)]
    exact I.base.free b o e n hx
  · have z := I.base.tups b xs q
    rw [upd_ne (ne_of_none z n)]
    exact z
  · have z := I.base.frzs b o u q
    rw [upd_ne (ne_of_none z n)]
    exact z
  · obtain ⟨m, z⟩ := I.base.tbls b ps q
    exact ⟨m, by rw [upd_ne (ne_of_none z n)]; exact z⟩
  · rw [upd_ne (Ne.symm ne)]
    exact I.free
  · have hc : c ≠ a := fun z => by
      obtain ⟨v, o, ho, hdc⟩ := I.cell x c ex
      rw [z, e] at ho
      cases ho
      rw [hd] at hdc
      cases hdc
    rw [upd_ne hc]
    exact I.freeC x c ex
  · have hm : p ∈ X.pn ++ (a, oe) :: pins := by
      rcases List.mem_append.mp hp' with h | h
      · exact List.mem_append_left _ h
      · exact List.mem_append_right _ (List.mem_cons_of_mem _ h)
    obtain ⟨p1, p2, p3, p4, p5⟩ := I.pin p hm
    exact ⟨p1, by rw [upd_ne (hp p hp')]; exact p2, p3, p4, p5⟩
end
/-- what the clause wishes of an error of the body: slot h is its name's, slot i the kept one's -/
def wKeep (K : PySem.W.Frag) (c : Value) (h i : Nat) (D : Ends) : WX := fun cls d σ H =>
  PySem.W.exmOne K cls c = some true ∧ d = none ∧ ∃ k, cls = erC K k ∧ ∀ a, H a = none → D.nx (((σ.set h (some (.ref a))).set i (some (.ref a))).set h none) (upd H a (erO K k a))
section
variable {X : Cx} {x n m : Str} {c : Value} {h i : Nat} {body : List Stmt} {np pn pm pa pos pos' : Pos} {tb : WX → TS}
theorem ps_try_keep (hs : X.stack = X.env :: X.outer) (hf : X.env.frame = some X.env.locals) (hex : X.ex = []) (hN : X.N.Nodup) (hh : X.N[h]? = some n) (hi : X.N[i]? = some m) (hne : h ≠ i) (hln : X.env.kindOf n = some .local) (hlm : X.env.kindOf m = some .local)
    (hd1 : (n == ("__debug__" : Str)) = false) (hd2 : (n == ("__classdict__" : Str)) = false) (hc : Names X x c)
    (hb : ∀ (W : WX) (pn : List (Addr × Obj)) (xe : Value → Shared → Prop), Takes (X.tr pn xe) W → PassesOwn (model X.prog X.w) X.A X.env xe → PSs (X.tr pn xe) body (tb W)) :
    PS X (.Try body [.ExceptHandler (some (.Name x np)) (some n) [.Assign [.Name m pm] (.Name n pn) pa] pos'] [] [] pos) (fun D σ H => tb (wKeep X.K c h i D) D σ H) := by
  refine ⟨fun pins s σ H D I hh0 => ?_⟩
  have ok := I.ok
  have hfr : X.A.frames = some (X.env :: X.outer) := by rw [ok.frames, hs]
  have hloc : Loc X.env.scope n := .inl hln
  refine wpAny_Try_except ?_
  refine wpAny_mono ((hb (wKeep X.K c h i D) (X.pn ++ pins) (fun e s₁ => wpAny (model X.prog X.w) X.A (noteFrame e X.env) (fun _ s₂ => wpAny (model X.prog X.w) X.A (setFlight e none) (fun _ s₃ =>
    wpAny (model X.prog X.w) X.A (handleBy e X.env [.ExceptHandler (some (.Name x np)) (some n) [.Assign [.Name m pm] (.Name n pn) pa] pos']) (SP X pins D) X.xe s₃) X.xe s₂) X.xe s₁) (fun u s' xx => ?_) PassesOwn.looking).run [] s σ H D (I.toTry _) hh0) (fun f s1 hsp => ?_) (fun e s1 he => he)
  · obtain ⟨a, B, sI, pins', σ', H', cls, d, rfl, J', nb, up, sky, na, os, ag, hb1, rfl, k, hcls, hw⟩ := xx
    have J : Inv X pins σ' H' sI := J'.ofTry ok
    have sky' : Sky B (X.env :: X.outer) a (Zc cls none) X.env.locals s'.heap := by rw [← hs]; exact sky
    show wpAny (model X.prog X.w) X.A (noteFrame (.ref a) X.env) _ _ _
    refine Sky.land Zc.steady hfr hf sky' fun h3 fl3 up3 => ?_
    have J3 : Inv X pins σ' H' { s' with heap := h3 } := J.landed nb fl3.1 (up.trans up3) os ag
    obtain ⟨oe3, vs3, he3, hz3, hd3⟩ := fl3.there
    have notFr : ∀ {h : Heap} {o : Obj} {vs : Array Value}, h.FunFrames B (X.env :: X.outer) → h.get? a = some o → o.data = .fields vs → a ∉ frs (X.env :: X.outer) := fun {h o vs} ff e dd hm => by
      obtain ⟨_, o', e', hnf⟩ := ff.mem hm
      rw [e] at e'; cases e'
      exact hnf _ dd
    have nfr := notFr fl3.2.2.1 he3 hd3
    have nB : B.get? a = none := fl3.2.1
    have nI : ∀ o, sI.heap.get? a ≠ some o := fun o e => by
      have z := nb a o e (by rw [hs]; exact nfr)
      rw [nB] at z
      cases z
    have n0 : X.s_0.heap.get? a = none := by
      cases e : X.s_0.heap.get? a with
      | none => rfl
      | some o =>
        obtain ⟨o', e'⟩ := J.base.there a o e (by rw [hex]; exact fun z => nomatch z)
        exact absurd e' (nI o')
    have npin : ∀ p ∈ X.pn ++ pins, p.1 ≠ a := fun p hp z => by
      obtain ⟨p1, _⟩ := J.pin p hp
      rw [z] at p1
      exact nI _ p1
    have nL : a ≠ X.env.locals := fun z => nfr (List.mem_filterMap.mpr ⟨X.env, List.mem_cons_self, by rw [hf, z]⟩)
    have nF : a ∉ X.fs := fun hm => by
      obtain ⟨e, he, q⟩ := List.mem_filterMap.mp hm
      exact nfr (List.mem_filterMap.mpr ⟨e, List.mem_cons_of_mem _ he, q⟩)
    have S3 := J3.suite he3 hd3 na nL nF
    refine wpAny_handleBy_cons (codeAny_handlers_test ?_) (by intro q; cases q)
    have LT : PySem.W.Looks (model X.prog X.w) h3 (typeOf (.ref a)) cls := fun A Q E s k q => wpAny_typeOf_ref (k _ _ he3) (by rw [hz3.1]; exact q)
    have LM := PySem.W.exm_one (M := model X.prog X.w) (J3.kIn) LT hb1
    have test : ∀ {Q : Value → Shared → Prop} {E : Value → Shared → Prop}, Q c { s' with heap := h3 } → wpAny (model X.prog X.w) (X.A.mark (some (.ref a))) (eval (.Name x np) X.env) Q E { s' with heap := h3 } := fun {Q E} q => by
      obtain ⟨hg, hdbg, hm | ⟨hm, hv, hnn⟩⟩ := hc
      · exact ld_glob (X := X.suite a ((a, oe3) :: (X.pn ++ pins))) S3 hg hm q hdbg
      · exact ld_blt (X := X.suite a ((a, oe3) :: (X.pn ++ pins))) S3 hg hm hv q hnn hdbg
    refine test (LM.here ?_)
    refine codeAny_handlers_suite_as ?_
    refine HandSPX.lands_againZ fl3 fun h4 fl4 up4 => ?_
    have J4 : Inv X pins σ' H' { s' with heap := h4 } := J.landed nb fl4.1 ((up.trans up3).trans up4) os ag
    obtain ⟨oe4, vs4, he4, hz4, hd4⟩ := fl4.there
    have S4 := J4.suite he4 hd4 na nL nF
    refine store_ok (X := X.suite a ((a, oe4) :: (X.pn ++ pins))) (v := .ref a) S4 hN hh hloc rfl (fun s5 S5 => ?_) (.inr hln)
    have hlen : h < σ'.length := by
      rw [J.len]
      exact (List.getElem?_eq_some_iff.mp hh).1
    have suite : PSs (X.suite a ((a, oe4) :: (X.pn ++ pins))) [.Assign [.Name m pm] (.Name n pn) pa] (tAsg (tVar h) (gName i)) :=
      pss_one (ps_set (X := X.suite a ((a, oe4) :: (X.pn ++ pins))) hN hi (.inl hlm) (pe_var (X := X.suite a ((a, oe4) :: (X.pn ++ pins))) hh (.inl hln) hd1 hd2) rfl (.inr hlm))
    have q5 : tAsg (tVar h) (gName i) { nx := fun σ6 H6 => σ6 = (σ'.set h (some (.ref a))).set i (some (.ref a)) ∧ H6 = H', rt := fun _ _ => False, bk := fun _ _ => False, ct := fun _ _ => False } (σ'.set h (some (.ref a))) H' :=
      ⟨.ref a, List.getElem?_set_self hlen, rfl, rfl⟩
    refine wpAny_mono (suite.run [] s5 _ H' _ S5 q5) (fun f s6 hsp => ?_) (fun _ _ z => False.elim z)
    cases f with
    | next =>
      obtain ⟨σ6, H6, S6, rfl, rfl⟩ := hsp
      refine gone_ok (inv_unsuiteK S6 ok) hN hh hln fun s7 J7 => ?_
      rw [hcls] at hz4
      exact ⟨_, _, inv_track J7 hz4 hd4 n0 npin, hw a na⟩
    | brk =>
      obtain ⟨σ6, H6, S6, q6⟩ := hsp
      exact q6.elim
    | cont =>
      obtain ⟨σ6, H6, S6, q6⟩ := hsp
      exact q6.elim
    | ret u =>
      obtain ⟨v6, σ6, H6, S6, r6, q6⟩ := hsp
      exact q6.elim
  · cases f with
    | next =>
      obtain ⟨σ', H', J', q⟩ := hsp
      exact wpAny_execs_nil ⟨σ', H', J'.ofTry ok, q⟩
    | brk =>
      obtain ⟨σ', H', J', q⟩ := hsp
      exact ⟨σ', H', J'.ofTry ok, q⟩
    | cont =>
      obtain ⟨σ', H', J', q⟩ := hsp
      exact ⟨σ', H', J'.ofTry ok, q⟩
    | ret u =>
      obtain ⟨v, σ', H', J', r, q⟩ := hsp
      exact ⟨v, σ', H', J'.ofTry ok, r, q⟩
end
section
variable {L : Lk} {N : List Str} {sc : Nms} {W : WX} {X : Cx} {K : PySem.W.Frag}
theorem imp_try {h i : Nat} {ks : List Nat} {b : Ss} {Dn σ H} {AE : Value} (hk : ∀ k, ks.contains k = true → L.cls k = erC K k ∧ PySem.W.exmOne K (L.cls k) AE = some true) (hi : h ≠ i) (q : dS L K W (.tryA h i ks b) Dn σ H) : dSs L K (wKeep K AE h i Dn) b Dn σ H := by
  obtain ⟨f0, H0, f, en, m, o⟩ := q
  have o' : OutS L K W f0 H0 f ((L.ess b en).bind fun fl => (match fl with | .ex c e => if ks.contains c then .ok (.nx ((e.set h .un).set i (.er c))) else .no | fl => .ok fl)) Dn := o
  refine ⟨f0, H0, f, en, m, ?_⟩
  cases es0 : L.ess b en with
  | no => rw [es0] at o'; exact o'.elim
  | ex c => rw [es0] at o'; exact o'.elim
  | ok fl =>
    rw [es0] at o'
    show EndOk L K (wKeep K AE h i Dn) f0 H0 f fl Dn
    cases fl with
    | nx e => exact (show EndOk L K W f0 H0 f (.nx e) Dn from o')
    | bk e => exact (show EndOk L K W f0 H0 f (.bk e) Dn from o')
    | ct e => exact (show EndOk L K W f0 H0 f (.ct e) Dn from o')
    | rt d fr => exact (show EndOk L K W f0 H0 f (.rt d fr) Dn from o')
    | ex k e =>
      have o' : OutS L K W f0 H0 f (if ks.contains k then .ok (.nx ((e.set h .un).set i (.er k))) else .no) Dn := o'
      by_cases hc : ks.contains k = true
      · rw [if_pos hc] at o'
        obtain ⟨h1, h2⟩ := hk k hc
        intro σ' f' H' s' m'
        refine ⟨h2, rfl, k, h1, fun a ha => (show EndOk L K W f0 H0 f (.nx ((e.set h .un).set i (.er k))) Dn from o') _ f' (upd H' a (erO K k a)) s' ?_⟩
        have m2 := m'.mono ((Po.refl m'.po.sub).newH (o := erO K k a) ha)
        have m3 := (((m2.setU (i := h) (o := some (.ref a))).setE (i := i) (p := a) upd_same).setU (i := h) (o := none))
        have ee : (((e.set h .un).set i (.er k)).set h .un) = (e.set h .un).set i (.er k) := by
          rw [List.set_comm _ _ (Ne.symm hi), List.set_set]
        rw [ee] at m3
        exact m3
      · rw [if_neg hc] at o'
        exact o'.elim
theorem XS.tr (xs : XS L N sc W X) {W' : WX} {pn : List (Addr × Obj)} {xe : Value → Shared → Prop} (tk : Takes (X.tr pn xe) W') (hp : PassesOwn (model X.prog X.w) X.A X.env xe) : XS L N sc W' (X.tr pn xe) :=
  ⟨⟨xs.xc.lk, xs.xc.N, xs.xc.nd, xs.xc.kind, fun x k h => by
    have z := xs.xc.nm x k h
    cases k with
    | globalImplicit =>
      first
        | exact z
        | exact ⟨z.1, z.2⟩
    | _ => exact z, xs.xc.calm, xs.xc.room, tk, xs.xc.py⟩, hp, xs.st, xs.fr, xs.ex⟩
end
end AW

/-! AwFin: every statement that the check lets by. -/
namespace AW
open PySem PySem.Spec PyProof.Rows L2

section
variable {L : Lk}
theorem set_self {σ : L2.St} {i : Nat} {o : Option V} (h : σ[i]? = some o) : σ.set i o = σ := by
  refine List.ext_getElem? fun j => ?_
  by_cases hj : i = j
  · subst hj
    obtain ⟨hl, _⟩ := List.getElem?_eq_some_iff.mp h
    rw [List.getElem?_set_self hl, h]
  · rw [List.getElem?_set_ne hj]
/-- x op= e: the value's case, the list's -/
def ipV (K : PySem.W.Frag) (o : O2) : R2 := fun x y H Q => ∃ f dx dy p, Same f H ∧ Vr K f H x dx ∧ Vr K f H y dy ∧ ((∃ i, dx = .int i) ∨ ∃ z, dx = .str z) ∧ sem2 o dx dy = .ok p ∧ Ac K f H Q p
def isAdd : O2 → Prop
  | .add => True
  | _ => False
def ipA (K : PySem.W.Frag) (o : O2) : R2 := fun x y H Q => ipV K o x y H Q ∨ (isAdd o ∧ rExt2 x y H Q)
theorem ip_A {X : Cx} {o : O2} {op : Operator} (hp : PyR X) (h : augOf o op = true) : PIp X op (ipA X.K o) := by
  intro pins s σ H x y v u Q I rx ry q
  rcases q with q | ⟨ha, q⟩
  · exact opI_aug hp h pins s σ H x y v u Q I rx ry q
  · cases o <;> cases op <;> first
      | (cases h; done)
      | exact ha.elim
      | exact iop_ext pins s σ H x y v u Q I rx ry q
theorem sem2_flag {o : O2} {d : D} (hd : (∃ i, d = .int i) ∨ ∃ z, d = .str z) {op : Operator} (h : augOf o op = true) {b : D} {p : D × Bool} (e : sem2 o d b = .ok p) : p.2 = false := by
  have ite_f : ∀ {c : Prop} [Decidable c] {x : D}, (if c then v1 x else .no) = R.ok p → p.2 = false := fun {c} _ {x} z => by
    by_cases hc : c
    · rw [if_pos hc] at z; cases z; rfl
    · rw [if_neg hc] at z; cases z
  have ite_g : ∀ {c c' : Prop} [Decidable c] [Decidable c'] {x : D}, (if c then R.no else if c' then v1 x else .no) = R.ok p → p.2 = false := fun {c c'} _ _ {x} z => by
    by_cases hc : c
    · rw [if_pos hc] at z; cases z
    · rw [if_neg hc] at z; exact ite_f z
  have ite_h : ∀ {c : Prop} [Decidable c] {x : D}, (if c then R.no else v1 x) = R.ok p → p.2 = false := fun {c} _ {x} z => by
    by_cases hc : c
    · rw [if_pos hc] at z; cases z
    · rw [if_neg hc] at z; cases z; rfl
  rcases hd with ⟨i, rfl⟩ | ⟨z, rfl⟩ <;> cases o <;> cases op <;> first
    | (cases h; done)
    | (cases b <;> first
        | (cases e; done)
        | (cases e; rfl)
        | exact ite_f e
        | exact ite_g e
        | exact ite_h e)
theorem imp_aug {K : PySem.W.Frag} {W : WX} {i : Nat} {o : O2} {op : Operator} (hop : augOf o op = true) {e : E} {Dn σ H} (h : dS L K W (.aug i o e) Dn σ H) : tAug i (dV L K W e) (ipA K o) Dn σ H := by
  obtain ⟨f0, H0, f, en, m, ot⟩ := h
  have ot : OutS L K W f0 H0 f (match en[i]? with
    | some (.va (.int d)) => lf en (L.ev e en) fun x => (sem2 o (.int d) x.1).bind fun z => .ok (.nx (en.set i (.va z.1)))
    | some (.va (.str d)) => lf en (L.ev e en) fun x => (sem2 o (.str d) x.1).bind fun z => .ok (.nx (en.set i (.va z.1)))
    | some (.ow ds) => lf en (L.ev e en) fun x => (extL o ds x).bind fun ds' => .ok (.nx (en.set i (.ow ds')))
    | _ => .no) Dn := ot
  have scalar : ∀ d : D, ((∃ j, d = .int j) ∨ ∃ z, d = .str z) → en[i]? = some (.va d) → OutS L K W f0 H0 f (lf en (L.ev e en) fun x => (sem2 o d x.1).bind fun z => .ok (.nx (en.set i (.va z.1)))) Dn → tAug i (dV L K W e) (ipA K o) Dn σ H := fun d hd ei od => by
    obtain ⟨v, hv, hdv⟩ := m.va ei
    refine ⟨v, hv, f0, H0, f, en, m, (OutS.lf m od).imp (Po.refl m.po.sub) fun p _ h1 u f1 H1 q1 hu => .inl ?_⟩
    obtain ⟨z, ez, h2⟩ := OutS.bind h1
    refine ⟨f1, d, p.1, z, q1.sub, .inl (dp_same q1.sf hdv), hu.read, hd, ez, fun w f2 H2 q2 hw => ?_⟩
    rw [sem2_flag hd hop ez] at hw
    exact h2 _ f2 H2 (q1.sf.trans q2.sf) (((m.mono q1).mono q2).setV hw)
  cases ei : en[i]? with
  | none => rw [ei] at ot; exact ot.elim
  | some s =>
    rw [ei] at ot
    cases s with
    | un => exact ot.elim
    | rd d => exact ot.elim
    | er d => exact ot.elim
    | va d =>
      cases d with
      | int j => exact scalar _ (.inl ⟨j, rfl⟩) ei ot
      | str j => exact scalar _ (.inr ⟨j, rfl⟩) ei ot
      | _ => exact ot.elim
    | ow ds =>
      obtain ⟨a, vs, e1, _, _, hH, ha⟩ := m.ow ei
      refine ⟨_, e1, f0, H0, f, en, m, (OutS.lf m ot).imp (Po.refl m.po.sub) fun p _ h1 u f1 H1 q1 hu => .inr ?_⟩
      obtain ⟨ds', ed, h2⟩ := OutS.bind h1
      obtain ⟨d, b⟩ := p
      cases o <;> first
        | (cases ed; done)
        | skip
      cases b with
      | false => cases d <;> cases ed
      | true =>
        obtain ⟨xs, c, ws, rfl, rfl, z1, z2, z3, z4⟩ := hu
        have m1 := m.mono q1
        obtain ⟨a', vs', e1', _, _, hH', ha'⟩ := m1.ow ei
        rw [e1] at e1'
        cases e1'
        have ed' : (if ds.length + xs.length ≤ line then R.ok (ds ++ xs) else .no) = .ok ds' := ed
        by_cases hz : ds.length + xs.length ≤ line
        · rw [if_pos hz] at ed'
          cases ed'
          refine ⟨trivial, a, c, vs', ws, rfl, rfl, hH', z3, by rw [ha'.length, z4.length, ← line_eq]; exact hz, ?_⟩
          show Dn.nx (σ.set i (some (.ref a))) _
          rw [set_self e1]
          exact (show EndOk L K W f0 H0 f (.nx (en.set i (.ow (ds ++ xs)))) Dn from h2) σ f1 _ q1.sf (m1.upO ei e1 (ha'.append z4))
        · rw [if_neg hz] at ed'
          cases ed'
theorem par_ok {N : List Str} {sc : Nms} {W : WX} {X : Cx} (xc : XC L N sc W X) : ∀ {is : List Nat} {ts : List Expr}, parOk N sc is ts = true → ts.length = is.length ∧ ∀ (k i : Nat) (t : Expr), is[k]? = some i → ts[k]? = some t → ∃ x p, t = .Name x p ∧ X.N[i]? = some x ∧ X.env.scope.names.lookup x = some .local
  | [], [], _ => ⟨rfl, fun k i t h => by simp at h⟩
  | [], _ :: _, h => by cases h
  | _ :: _, [], h => by cases h
  | i :: is, e :: es, h => by
    cases e with
    | Name x p =>
      obtain ⟨h1, h2⟩ := and2 (show (N[i]? == some x && sc.lookup x == some .local && parOk N sc is es) = true from h)
      obtain ⟨h3, h4⟩ := and2 h1
      obtain ⟨i1, i2⟩ := par_ok xc h2
      refine ⟨by rw [List.length_cons, List.length_cons, i1], fun k j t e1 e2 => ?_⟩
      cases k with
      | zero =>
        have e1 := Option.some.inj e1
        have e2 := Option.some.inj e2
        subst e1 e2
        exact ⟨x, p, rfl, by rw [xc.N]; exact eq_of_beq h3, xc.nm x _ (eq_of_beq h4)⟩
      | succ k => exact i2 k j t e1 e2
    | _ => cases h
theorem len2 {α : Type} {l : List α} (h : l.length = 2) : ∃ a b, l = [a, b] := by
  cases l with
  | nil => cases h
  | cons a l => cases l with
    | nil => cases h
    | cons b l => cases l with
      | nil => exact ⟨a, b, rfl⟩
      | cons c l => simp at h
theorem len3 {α : Type} {l : List α} (h : l.length = 3) : ∃ a b c, l = [a, b, c] := by
  cases l with
  | nil => cases h
  | cons a l =>
    obtain ⟨b, c, rfl⟩ := len2 (l := l) (by simpa using h)
    exact ⟨a, b, c, rfl⟩
theorem nd_ne {N : List Str} (h : N.Nodup) {i j : Nat} {x y : Str} (hi : N[i]? = some x) (hj : N[j]? = some y) (hij : i ≠ j) : x ≠ y := fun e => by
  subst e
  obtain ⟨h1, e1⟩ := List.getElem?_eq_some_iff.mp hi
  obtain ⟨h2, e2⟩ := List.getElem?_eq_some_iff.mp hj
  have hp := List.pairwise_iff_getElem.mp h
  rcases Nat.lt_or_gt_of_ne hij with z | z
  · exact hp i j h1 h2 z (e1.trans e2.symm)
  · exact hp j i h2 h1 z (e2.trans e1.symm)
theorem par_of {N : List Str} {sc : Nms} {W : WX} {X : Cx} (xc : XC L N sc W X) {is : List Nat} {es : Es} {ts vs : List Expr} {k k2 : Nat} {p p2 pos : Pos} (h1 : parOk N sc is ts = true) (h2 : ckEs L.T L.cons L.clsN N sc es vs = true) (hl : is.length = 2 ∨ is.length = 3) (hn : is.Nodup) (hv : vs.length = is.length) (hs : sameLine ts = true)
    (hf : vs.all (foldedForSure 8) = false) (hc : vs.all (constantsAlone 8) = false) : PS X (.Assign [.Tuple ts k p] (.Tuple vs k2 p2) pos) (dS L X.K W (.par is es)) := by
  obtain ⟨el, hp⟩ := par_ok xc h1
  have st := stars_none h2
  rcases hl with hl | hl
  · obtain ⟨i, j, rfl⟩ := len2 hl
    obtain ⟨t, u, rfl⟩ := len2 (el.trans hl)
    obtain ⟨a, b, rfl⟩ := len2 (hv.trans hl)
    obtain ⟨x, px, rfl, nx, lx⟩ := hp 0 i t rfl rfl
    obtain ⟨y, py, rfl, ny, ly⟩ := hp 1 j u rfl rfl
    have hij : i ≠ j := fun z => by subst z; simp at hn
    have hxy := nd_ne xc.nd nx ny hij
    have hline : (py.line == px.line) = true := by
      simpa [sameLine, Expr.pos] using hs
    exact PS.imp (ps_par xc.calm xc.nd nx ny hij lx ly (sEs es xc _ h2) (swap2 xc lx ly hxy hline st hf hc)) fun Dn σ H q => imp_par2 q
  · obtain ⟨i, j, l, rfl⟩ := len3 hl
    obtain ⟨t, u, w, rfl⟩ := len3 (el.trans hl)
    obtain ⟨a, b, c, rfl⟩ := len3 (hv.trans hl)
    obtain ⟨x, px, rfl, nx, lx⟩ := hp 0 i t rfl rfl
    obtain ⟨y, py, rfl, ny, ly⟩ := hp 1 j u rfl rfl
    obtain ⟨z, pz, rfl, nz, lz⟩ := hp 2 l w rfl rfl
    have hij : i ≠ j := fun z => by subst z; simp at hn
    have hil : i ≠ l := fun z => by subst z; simp at hn
    have hjl : j ≠ l := fun z => by subst z; simp at hn
    have hline : (py.line == px.line) = true ∧ (pz.line == px.line) = true := by
      simpa [sameLine, Expr.pos] using hs
    exact PS.imp (ps_par3 xc.calm xc.nd nx ny nz hij hil hjl lx ly lz (sEs es xc _ h2) (swap3 xc lx ly lz (nd_ne xc.nd nx ny hij) (nd_ne xc.nd nx nz hil) (nd_ne xc.nd ny nz hjl) hline.1 hline.2 st hf hc)) fun Dn σ H q => imp_par3 q
theorem few_ok {N : List Str} {sc : Nms} {X : Cx} {T : List Fn} {cs : List (Str × D)} {cl : List Str} {x : E} {e : Expr} {cp : Pos} (h : ckE T cs cl N sc x e = true) : ((backTo cp (starEach (e :: []) X.env)).all (fun x => !x.1) && (backToKw cp (keywordEach [] X.env)).all (fun x => x.1.isSome)
      && decide ((e :: []).length + ([] : List Keyword).length + (if ([] : List Keyword).isEmpty then 0 else 1) < 30)) = true := by
  rw [star_of h []]
  rfl
theorem rai_of {N : List Str} {sc : Nms} {W : WX} {X : Cx} (xc : XC L N sc W X) {k : Nat} {x m : Str} {i : Nat} {p p2 p3 pos : Pos} (h : (L.clsN[k]? == some x) = true) (hx : (x != "") = true) (hg : glOk sc x = true) : PS X (.Raise (some (.Call (.Name x p) [.Constant (.str m) i p2] [] p3)) none pos) (dS L X.K W (.rai k)) := by
  obtain ⟨g1, g2, g3⟩ := gl_of xc hg
  obtain ⟨C, e1, e2, e3, e4, e5, e6⟩ := xc.lk.exc k x (eq_of_beq h) (bne_ne hx)
  refine PS.imp (ps_raise xc.calm xc.tk (pmk_own PySem.F.excBase_ValueError e3 e2 e4 (raises_own e5 e6) g1 g2)) fun Dn σ H q => ?_
  obtain ⟨f0, H0, f, en, mt, ot⟩ := q
  have ot' : EndOk L X.K W f0 H0 f (.ex k en) Dn := ot
  have z := ot' σ f H (Same.refl f) mt
  rw [e1] at z
  exact z
theorem inv_cmp {T : List Fn} {cs : List (Str × D)} {cl : List Str} {N : List Str} {sc : Nms} {elt : E} {tg : Tg} {it : It} {ifs : Eo} {own : List (Str × Nat)} {elt' : Expr} {gs : List Comprehension} {scope : Scope} {q : Pos} (h : ckE T cs cl N sc (.cmp elt tg it ifs own) (.ListComp elt' gs scope q) = true) : ∃ tg' it' ifs', gs = [⟨tg', it', ifs', 0⟩] ∧ ckI T cs cl N sc it it' (isTup tg') = true ∧ blkOkB N sc scope own = true ∧ ckT N scope.names tg tg' = true ∧ (tgSlots tg).all (fun i => (own.map (·.2)).contains i) = true ∧ ckIf T cs cl N scope.names ifs ifs' = true ∧ ckE T cs cl N scope.names elt elt' = true := by
  unfold ckE at h
  split at h
  · rename_i heq
    cases heq
    obtain ⟨h, h6⟩ := and2 h
    obtain ⟨h, h5⟩ := and2 h
    obtain ⟨h, h4⟩ := and2 h
    obtain ⟨h, h3⟩ := and2 h
    obtain ⟨h1, h2⟩ := and2 h
    exact ⟨_, _, _, rfl, h1, h2, h3, h4, h5, h6⟩
  · cases h
theorem isCmp_inv {e : E} (h : isCmp e = true) : ∃ elt tg it ifs own, e = .cmp elt tg it ifs own := by
  cases e <;> first
    | (cases h; done)
    | exact ⟨_, _, _, _, _, rfl⟩
theorem inv_asgC {T : List Fn} {cs : List (Str × D)} {cl N : List Str} {sc : Nms} {i : Nat} {o : Bool} {e : E} {st : Stmt} (h : ckS T cs cl N sc (.asgC i o e) st = true) : ∃ x p e' pos, st = .Assign [.Name x p] e' pos ∧ (N[i]? == some x && ckE T cs cl N sc e e' && compNow sc x p e' && isCmp e) = true := by
  unfold ckS at h
  split at h
  · exact ⟨_, _, _, _, rfl, h⟩
  · cases h
theorem inv_asgO {T : List Fn} {cs : List (Str × D)} {cl N : List Str} {sc : Nms} {i : Nat} {e : E} {st : Stmt} (h : ckS T cs cl N sc (.asgO i e) st = true) : ∃ x p e' pos, st = .Assign [.Name x p] e' pos ∧ (locOk N sc i x && ckE T cs cl N sc e e' && stOk sc (.Name x p) e') = true := by
  unfold ckS at h
  split at h
  · exact ⟨_, _, _, _, rfl, h⟩
  · cases h
theorem inv_setI {T : List Fn} {cs : List (Str × D)} {cl N : List Str} {sc : Nms} {i : Nat} {k e : E} {st : Stmt} (h : ckS T cs cl N sc (.setI i k e) st = true) : ∃ x px k' pk e' pos, st = .Assign [.Subscript (.Name x px) k' pk] e' pos ∧ (nmOk N sc i x && ckE T cs cl N sc k k' && ckE T cs cl N sc e e' && plainV e' && plainE k') = true := by
  unfold ckS at h
  split at h
  · exact ⟨_, _, _, _, _, _, rfl, h⟩
  · cases h
theorem inv_popA {T : List Fn} {cs : List (Str × D)} {cl N : List Str} {sc : Nms} {i : Nat} {tg : Tg} {st : Stmt} (h : ckS T cs cl N sc (.popA tg i) st = true) : ∃ tg' x px m ap cp pos, st = .Assign [tg'] (.Call (.Attribute (.Name x px) m ap) [] [] cp) pos ∧ (ckT N sc tg tg' && nmOk N sc i x && m == "pop" && ap.endLine == cp.line) = true := by
  unfold ckS at h
  split at h
  · exact ⟨_, _, _, _, _, _, _, rfl, h⟩
  · cases h
mutual
theorem sS : ∀ (s : S) {N : List Str} {sc : Nms} {W : WX} {X : Cx} (_ : XS L N sc W X) (st : Stmt), ckS L.T L.cons L.clsN N sc s st = true → PS X st (dS L X.K W s)
  | .pass, N, sc, W, X, xs, st, h => by
    unfold ckS at h
    split at h
    · refine PS.imp ps_pass fun Dn σ H q => ?_
      obtain ⟨f0, H0, f, en, m, o⟩ := q
      exact (show EndOk L X.K W f0 H0 f (.nx en) Dn from o) σ f H (Same.refl f) m
    · cases h
  | .asg tg e, N, sc, W, X, xs, st, h => by
    unfold ckS at h
    split at h
    · obtain ⟨h, h3⟩ := and2 h
      obtain ⟨h1, h2⟩ := and2 h
      obtain ⟨a1, a2, a3⟩ := stOk_ok xs.xc h3 ⟨tg, h1⟩
      exact PS.imp (ps_asg (sE e xs.xc _ h2) (sTg xs.xc tg _ h1) a1 a2 a3) fun Dn σ H q => imp_asg q
    · cases h
  | .asgO i e, N, sc, W, X, xs, st, h => by
    obtain ⟨x, p, e', pos, rfl, h⟩ := inv_asgO h
    obtain ⟨h, h3⟩ := and2 h
    obtain ⟨h1, h2⟩ := and2 h
    obtain ⟨b1, b2, b3⟩ := loc_of xs.xc h1
    obtain ⟨a1, a2, a3⟩ := stOk_ok (l := pos.line) xs.xc h3 ⟨.nm i, h1⟩
    exact PS.imp (ps_set xs.xc.nd b1 b2 (sE e xs.xc _ h2) a1 b3) fun Dn σ H q => imp_asgO q
  | .asgC i o e, N, sc, W, X, xs, st, h => by
    obtain ⟨x, p, e', pos, rfl, h⟩ := inv_asgC h
    obtain ⟨h, h4⟩ := and2 h
    obtain ⟨h, h3⟩ := and2 h
    obtain ⟨h1, h2⟩ := and2 h
    obtain ⟨elt', g, scope, q, rfl, hl, hsw⟩ := compNow_ok (l := pos.line) xs.xc h3
    obtain ⟨elt, tg, it, ifs, own, rfl⟩ := isCmp_inv h4
    obtain ⟨tg', it', ifs', hg, c1, c2, c3, c4, c5, c6⟩ := inv_cmp h2
    cases hg
    have ht : ∀ i ∈ tgSlots tg, i ∈ own.map (·.2) := fun i hi => List.contains_iff_mem.mp (List.all_eq_true.mp c4 i hi)
    have hi : X.N[i]? = some x := by rw [xs.xc.N]; exact eq_of_beq h1
    refine PS.imp (ps_setLc (te := dV L X.K W0 elt) (g := gD X.K tg) (tt := dB L X.K W0 ifs) xs.xc.calm xs.xc.nd hi hl hsw (sI it xs.xc _ _ c1) (blk_ok xs.xc c2) (fun s H C cl fp => sTg (xs.xc.blk c2 s H C cl fp) tg _ c3) (fun s H C cl fp => sIf ifs (xs.xc.blk c2 s H C cl fp) _ c5) (fun s H C cl fp => sE elt (xs.xc.blk c2 s H C cl fp) _ c6) (sFold it _ _ c1)) fun Dn σ H q => ?_
    exact imp_cmp ht (imp_asgC q)
  | .par is es, N, sc, W, X, xs, st, h => by
    unfold ckS at h
    split at h
    · obtain ⟨h, h8⟩ := and2 h
      obtain ⟨h, h7⟩ := and2 h
      obtain ⟨h, h6⟩ := and2 h
      obtain ⟨h, h5⟩ := and2 h
      obtain ⟨h, h4⟩ := and2 h
      obtain ⟨h, h3⟩ := and2 h
      obtain ⟨h1, h2⟩ := and2 h
      exact par_of xs.xc h1 h2 (of_decide_eq_true h3) (of_decide_eq_true h4) (eq_of_beq h5) h6 (not_false h7) (not_false h8)
    · cases h
  | .setI i k e, N, sc, W, X, xs, st, h => by
    obtain ⟨x, px, k', pk, e', pos, rfl, h⟩ := inv_setI h
    obtain ⟨h, h5⟩ := and2 h
    obtain ⟨h, h4⟩ := and2 h
    obtain ⟨h, h3⟩ := and2 h
    obtain ⟨h1, h2⟩ := and2 h
    obtain ⟨b1, b2, b3, b4⟩ := vis_of xs.xc h1
    have a1 : swapsWith e' (some (.Subscript (.Name x px) k' pk)) pos.line X.env = pure false := plainV_sw h4
    refine PS.imp (ps_asg (sE e xs.xc _ h3) (pg_sub (pe_var b1 b2 b3 b4) (sE k xs.xc _ h2) set_list ?_) a1 ?_ rfl) fun Dn σ H q => imp_setI q
    · intro v
      cases k' <;> first
        | rfl
        | cases h5
    · cases e' <;> first
        | rfl
        | cases h4
  | .aug i o e, N, sc, W, X, xs, st, h => by
    unfold ckS at h
    split at h
    · obtain ⟨h, h3⟩ := and2 h
      obtain ⟨h1, h2⟩ := and2 h
      obtain ⟨b1, b2, b3⟩ := loc_of xs.xc h1
      exact PS.imp (ps_aug xs.xc.nd b1 b2 (sE e xs.xc _ h3) (ip_A xs.xc.py h2) b3) fun Dn σ H q => imp_aug h2 q
    · cases h
  | .app i e, N, sc, W, X, xs, st, h => by
    unfold ckS at h
    split at h
    · obtain ⟨h, h4⟩ := and2 h
      obtain ⟨h, h3⟩ := and2 h
      obtain ⟨h1, h2⟩ := and2 h
      obtain ⟨b1, b2, b3, b4⟩ := vis_of xs.xc h1
      have em := str_beq h2
      subst em
      exact PS.imp (ps_expr (pe_bm PySem.F.plainAttrs_list PySem.F.slot_list_append PySem.F.type_list_append mt_append (pe_var b1 b2 b3 b4) (pa_cons (sE e xs.xc _ h3) pa_nil (star_of h3 [])) rfl (few_ok h3) h4 (star_of h3 []) rfl)) fun Dn σ H q => imp_app q
    · cases h
  | .pop i, N, sc, W, X, xs, st, h => by
    unfold ckS at h
    split at h
    · obtain ⟨h, h4⟩ := and2 h
      obtain ⟨h1, h2⟩ := and2 h
      obtain ⟨b1, b2, b3, b4⟩ := vis_of xs.xc h1
      have em := str_beq h2
      subst em
      exact PS.imp (ps_expr (pe_bm0 PySem.F.plainAttrs_list PySem.F.slot_list_pop PySem.F.type_list_pop mt_pop (pe_var b1 b2 b3 b4) rfl h4)) fun Dn σ H q => imp_pop q
    · cases h
  | .popA tg i, N, sc, W, X, xs, st, h => by
    obtain ⟨tg', x, px, m, ap, cp, pos, rfl, h⟩ := inv_popA h
    obtain ⟨h, h4⟩ := and2 h
    obtain ⟨h, h3⟩ := and2 h
    obtain ⟨h1, h2⟩ := and2 h
    obtain ⟨b1, b2, b3, b4⟩ := vis_of xs.xc h2
    have em := str_beq h3
    subst em
    refine PS.imp (ps_asg (pe_bm0 PySem.F.plainAttrs_list PySem.F.slot_list_pop PySem.F.type_list_pop mt_pop (pe_var b1 b2 b3 b4) rfl h4) (sTg xs.xc tg _ h1) rfl ?_ (ck_assign1 h1 [])) fun Dn σ H q => imp_popA q
    cases tg' <;> rfl
  | .rvs i, N, sc, W, X, xs, st, h => by
    unfold ckS at h
    split at h
    · obtain ⟨h, h4⟩ := and2 h
      obtain ⟨h1, h2⟩ := and2 h
      obtain ⟨b1, b2, b3, b4⟩ := vis_of xs.xc h1
      have em := str_beq h2
      subst em
      exact PS.imp (ps_expr (pe_bm0 PySem.F.plainAttrs_list PySem.F.slot_list_reverse PySem.F.type_list_reverse mt_reverse (pe_var b1 b2 b3 b4) rfl h4)) fun Dn σ H q => imp_rvs q
    · cases h
  | .frz i, N, sc, W, X, xs, st, h => by
    unfold ckS at h
    cases h
  | .ite t a b, N, sc, W, X, xs, st, h => by
    unfold ckS at h
    split at h
    · obtain ⟨h, h3⟩ := and2 h
      obtain ⟨h1, h2⟩ := and2 h
      exact PS.imp (ps_if (sT t xs.xc _ h1) (sSs a xs _ h2) (sSs b xs _ h3)) fun Dn σ H q => imp_ite q
    · cases h
  | .whl t b, N, sc, W, X, xs, st, h => by
    unfold ckS at h
    split at h
    · obtain ⟨h1, h2⟩ := and2 h
      exact PS.imp (ps_while xs.hp (sT t xs.xc _ h1) (sSs b xs _ h2)) fun Dn σ H q => imp_whl q
    · cases h
  | .for_ tg it b, N, sc, W, X, xs, st, h => by
    unfold ckS at h
    split at h
    · obtain ⟨h, h3⟩ := and2 h
      obtain ⟨h1, h2⟩ := and2 h
      exact PS.imp (ps_for xs.hp xs.xc.calm (sI it xs.xc _ _ h2) (sTg xs.xc tg _ h1) (sSs b xs _ h3) (sFold it _ _ h2)) fun Dn σ H q => imp_for q
    · cases h
  | .ret e, N, sc, W, X, xs, st, h => by
    unfold ckS at h
    split at h
    · exact PS.imp (ps_ret (sE e xs.xc _ h)) fun Dn σ H q => imp_ret q
    · cases h
  | .retO i, N, sc, W, X, xs, st, h => by
    unfold ckS at h
    split at h
    · obtain ⟨b1, b2, b3, b4⟩ := vis_of xs.xc h
      exact PS.imp (ps_ret (pe_var b1 b2 b3 b4)) fun Dn σ H q => imp_retO q
    · cases h
  | .retN, N, sc, W, X, xs, st, h => by
    unfold ckS at h
    split at h
    · refine PS.imp ps_retN fun Dn σ H q => ?_
      obtain ⟨f0, H0, f, en, m, o⟩ := q
      exact (show EndOk L X.K W f0 H0 f (.rt .none false) Dn from o) .non f H m.po .non
    · cases h
  | .brk, N, sc, W, X, xs, st, h => by
    unfold ckS at h
    split at h
    · refine PS.imp ps_break fun Dn σ H q => ?_
      obtain ⟨f0, H0, f, en, m, o⟩ := q
      exact (show EndOk L X.K W f0 H0 f (.bk en) Dn from o) σ f H (Same.refl f) m
    · cases h
  | .cnt, N, sc, W, X, xs, st, h => by
    unfold ckS at h
    split at h
    · refine PS.imp ps_continue fun Dn σ H q => ?_
      obtain ⟨f0, H0, f, en, m, o⟩ := q
      exact (show EndOk L X.K W f0 H0 f (.ct en) Dn from o) σ f H (Same.refl f) m
    · cases h
  | .rai k, N, sc, W, X, xs, st, h => by
    unfold ckS at h
    split at h
    · obtain ⟨h1, h2⟩ := and2 h
      obtain ⟨h1, h3⟩ := and2 h1
      exact rai_of xs.xc h1 h3 h2
    · cases h
  | .exp e, N, sc, W, X, xs, st, h => by
    unfold ckS at h
    split at h
    · obtain ⟨h1, h2⟩ := and2 h
      exact PS.imp (ps_expr (sE e xs.xc _ h1) (plainV_sw h2)) fun Dn σ H q => imp_exp q
    · cases h
  | .tryA h i ks b, N, sc, W, X, xs, st, hc => by
    unfold ckS at hc
    split at hc
    · obtain ⟨hc, h11⟩ := and2 hc
      obtain ⟨hc, h10⟩ := and2 hc
      obtain ⟨hc, h9⟩ := and2 hc
      obtain ⟨hc, h8⟩ := and2 hc
      obtain ⟨hc, h7⟩ := and2 hc
      obtain ⟨hc, h6⟩ := and2 hc
      obtain ⟨hc, h5⟩ := and2 hc
      obtain ⟨hc, h4⟩ := and2 hc
      obtain ⟨hc, h3⟩ := and2 hc
      obtain ⟨h1, h2⟩ := and2 hc
      have h1 := str_beq h1
      subst h1
      have h9 := str_beq h9
      subst h9
      have h2 := eq_of_beq h2
      obtain ⟨k1, k2, k3⟩ := cls_at xs.xc.lk h2 area_ne
      obtain ⟨g1, g2, g3⟩ := gl_of xs.xc h3
      obtain ⟨v1, v2, v3, v4⟩ := vis_of xs.xc h5
      have hi := eq_of_beq h6
      rw [← xs.xc.N] at hi
      have hA : L.clsN.contains "AreaError" = true := List.contains_iff_mem.mpr (mem_of_at h2)
      have hne : h ≠ i := fun z => by
        subst z
        rw [v1] at hi
        exact bne_ne h10 (Option.some.inj hi)
      have kn := xs.xc.nm _ _ (eq_of_beq h7)
      have km := xs.xc.nm _ _ (eq_of_beq h8)
      refine PS.imp (ps_try_keep (tb := fun W' => dSs L X.K W' b) xs.st xs.fr xs.ex xs.xc.nd v1 hi hne kn km v3 v4 ⟨g1, g2, .inl k3⟩ fun W' pn xe tk hp => sSs b (xs.tr tk hp) _ h11) fun Dn σ H q => ?_
      refine imp_try (fun k hk => ?_) hne q
      obtain ⟨n, n1, n2⟩ := ks_at h4 hk
      obtain ⟨c1, c2, _⟩ := cls_at xs.xc.lk n1 n2
      obtain ⟨_, _, _, b4, _⟩ := erB_ne xs.xc.lk.er hA (mem_of_at n1) n2
      exact ⟨c2.trans c1.symm, by rw [c2]; exact b4⟩
    · cases hc
  | .dead, N, sc, W, X, xs, st, h => PS.imp ps_never fun Dn σ H ⟨f0, H0, f, en, m, o⟩ => o
theorem sSs : ∀ (s : Ss) {N : List Str} {sc : Nms} {W : WX} {X : Cx} (_ : XS L N sc W X) (sts : List Stmt), ckSs L.T L.cons L.clsN N sc s sts = true → PSs X sts (dSs L X.K W s)
  | .nil, N, sc, W, X, xs, sts, h => by
    cases sts with
    | nil =>
      refine PSs.imp pss_nil fun Dn σ H q => ?_
      obtain ⟨f0, H0, f, en, m, o⟩ := q
      exact (show EndOk L X.K W f0 H0 f (.nx en) Dn from o) σ f H (Same.refl f) m
    | cons s sts => cases h
  | .cons s r, N, sc, W, X, xs, sts, h => by
    have seq : ∀ {Dn : Ends} {f0 H0 f : Hp} {en : En}, OutS L X.K W f0 H0 f (L.ess (.cons s r) en) Dn → OutS L X.K W f0 H0 f (L.es s en) { Dn with nx := fun σ' H' => dSs L X.K W r Dn σ' H' } := fun {Dn f0 H0 f en} o => by
      obtain ⟨fl, ef, o2⟩ := OutS.bind (show OutS L X.K W f0 H0 f ((L.es s en).bind fun fl => (match fl with | .nx e => L.ess r e | fl => .ok fl)) Dn from o)
      rw [ef]
      cases fl with
      | nx e => exact fun σ' f' H' s' m' => ⟨f0, H0, f', e, m', OutS.mono s' o2⟩
      | bk e => exact o2
      | ct e => exact o2
      | rt d fr => exact o2
      | ex c e => exact o2
    by_cases hf : ∃ i, s = .frz i
    · obtain ⟨i, rfl⟩ := hf
      have h' : ckSs L.T L.cons L.clsN N sc r sts = true := h
      refine PSs.imp (sSs r xs sts h') fun Dn σ H q => ?_
      obtain ⟨f0, H0, f, en, m, o⟩ := q
      have o1 := seq o
      have o2 : OutS L X.K W f0 H0 f (match en[i]? with
        | some (.ow ds) => .ok (.nx (en.set i (.va (.list ds))))
        | _ => .no) { Dn with nx := fun σ' H' => dSs L X.K W r Dn σ' H' } := o1
      cases ei : en[i]? with
      | none => rw [ei] at o2; exact o2.elim
      | some s =>
        rw [ei] at o2
        cases s with
        | ow ds =>
          obtain ⟨f', sm, m'⟩ := m.frz ei
          exact (show EndOk L X.K W f0 H0 f (.nx (en.set i (.va (.list ds)))) { Dn with nx := fun σ' H' => dSs L X.K W r Dn σ' H' } from o2) σ f' H sm m'
        | _ => exact o2.elim
    · cases sts with
      | nil =>
        exfalso
        cases s <;> first
          | cases h
          | exact hf ⟨_, rfl⟩
      | cons st rest =>
        have h' : (ckS L.T L.cons L.clsN N sc s st && ckSs L.T L.cons L.clsN N sc r rest) = true := by
          cases s <;> first
            | exact h
            | exact absurd ⟨_, rfl⟩ hf
        obtain ⟨h1, h2⟩ := and2 h'
        refine PSs.imp (pss_cons (sS s xs st h1) (sSs r xs rest h2)) fun Dn σ H q => ?_
        obtain ⟨f0, H0, f, en, m, o⟩ := q
        exact ⟨f0, H0, f, en, m, seq o⟩
end
end
end AW

/-! AwFn: defs: a checked table keeps its promises. -/
namespace AW
open PySem PySem.Spec PyProof.Rows L2

/-! ### the link at level n -/
noncomputable def lkN (T : List Fn) (cons : List (Str × D)) (cls : Nat → Value) (clsN : List Str) (n : Nat) : Lk where
  T := T
  cons := cons
  c := callN (fun x => ((cons[x]?).map (·.2)).getD .none) T n
  lev := n + 32
  cls := cls
  clsN := clsN

/-! ### checks -/
def dvB : He.Dv → D → Bool
  | .non, .none => true
  | .bl a, .bool b => a == b
  | .int i, .int j => i == j
  | .str x, .str y => x == y
  | _, _ => false
def dvsB : List He.Dv → List D → Bool
  | [], [] => true
  | v :: vs, d :: ds => dvB v d && dvsB vs ds
  | _, _ => false
theorem dvB_ok {K : PySem.W.Frag} {H : Hp} {v : He.Dv} {d : D} (h : dvB v d = true) : Dp K H (v.v K) d := by
  cases v <;> cases d <;> first
    | (cases h; done)
    | skip
  · exact .non
  · rw [← eq_of_beq (show (_ == _) = true from h)]; exact .bl _
  · rw [← eq_of_beq (show (_ == _) = true from h)]; exact .int _
  · rw [← str_beq (show (_ == _) = true from h)]; exact .str _
theorem dvsB_ok {K : PySem.W.Frag} {H : Hp} : ∀ {vs : List He.Dv} {ds : List D}, dvsB vs ds = true → DpAll K H (vs.map (He.Dv.v K)) ds
  | [], [], _ => .nil
  | [], _ :: _, h => by cases h
  | _ :: _, [], h => by cases h
  | v :: vs, d :: ds, h => by
    obtain ⟨h1, h2⟩ := and2 (show (dvB v d && dvsB vs ds) = true from h)
    exact .cons (dvB_ok h1) (dvsB_ok h2)
def scB (N ps : List Str) (sc : Scope) : Bool :=
  sc.kind == .function && !sc.isCoroutine && !sc.isGenerator && decide N.Nodup && N.take ps.length == ps &&
  ps.all (fun x => sc.names.lookup x == some .local || sc.names.lookup x == some .cell) && sc.names.all fun y => y.2 != .free
theorem scB_ok {N ps : List Str} {sc : Scope} (h : scB N ps sc = true) : FnScope N ps sc := by
  unfold scB at h
  obtain ⟨h, h7⟩ := and2 h
  obtain ⟨h, h6⟩ := and2 h
  obtain ⟨h, h5⟩ := and2 h
  obtain ⟨h, h4⟩ := and2 h
  obtain ⟨h, h3⟩ := and2 h
  obtain ⟨h1, h2⟩ := and2 h
  refine ⟨eq_of_beq h1, not_false h2, not_false h3, of_decide_eq_true h4, eq_of_beq h5, fun x hx => ?_, fun y hy e => ?_⟩
  · have z := List.all_eq_true.mp h6 x hx
    rcases Bool.or_eq_true_iff.mp z with z | z
    · exact .inl (eq_of_beq z)
    · exact .inr (eq_of_beq z)
  · have z := List.all_eq_true.mp h7 y hy
    rw [e] at z
    cases z
/-- one def of the table against the text's -/
def ckFn (T : List Fn) (cs : List (Str × D)) (cl : List Str) (g : Fn) (d : He.DefD) : Bool :=
  d.name == g.name && d.at_ == (g.name, none) && scB g.N g.ps d.scope && dvsB d.dfl g.dfl && d.kwd.isEmpty && ckSs T cs cl g.N d.scope.names g.body d.body
/-- how a def's arguments bind -/
structure BindF (g : Fn) (d : He.DefD) : Prop where
  no : g.dfl = [] → ∀ (kV doc pm : Value) (an : Option Addr) (cdv ct : Value) (us : List Value), us.length = g.ps.length → bindArgs (PySem.W.fnOf d.name d.qual d.params d.body d.scope .none kV doc pm an cdv ct) ⟨us, []⟩ = pure (g.ps.zip us)
  some_ : g.dfl ≠ [] → ∀ m, m ≤ g.dfl.length → m ≤ g.ps.length ∧ ∀ (T : Addr) (kV doc pm : Value) (an : Option Addr) (cdv ct : Value) (us its : List Value), us.length = g.ps.length - m → its.length = g.dfl.length →
    ∃ k, bindArgs (PySem.W.fnOf d.name d.qual d.params d.body d.scope (.ref T) kV doc pm an cdv ct) ⟨us, []⟩ = seqItems? (.ref T) >>= k ∧ k (some its.toArray) = pure (g.ps.zip (us ++ its.drop (g.dfl.length - m)))
theorem dvsB_len : ∀ {vs : List He.Dv} {ds : List D}, dvsB vs ds = true → vs.length = ds.length
  | [], [], _ => rfl
  | [], _ :: _, h => by cases h
  | _ :: _, [], h => by cases h
  | v :: vs, d :: ds, h => congrArg Nat.succ (dvsB_len (and2 (show (dvB v d && dvsB vs ds) = true from h)).2)
theorem binds_of {K : PySem.W.Frag} {g : Fn} {d : He.DefD} {fd : FuncData} {f : Addr} (F : FunD K d.name d.qual d.params d.body d.scope (d.dvs K) (d.kws K) f fd) (b : BindF g d) (hk : d.kwd = []) (hd : dvsB d.dfl g.dfl = true) {m : Nat} (hm : m ≤ g.dfl.length) :
    ∃ (dvs : List V) (ds : List Value), Vals dvs ds ∧ (∀ H, DpAll K H dvs (g.dv m)) ∧ Binds K fd g.ps ds := by
  have hl := dvsB_len hd
  by_cases h0 : g.dfl = []
  · have e1 : d.dvs K = [] := by
      unfold He.DefD.dvs
      rw [h0] at hl
      rw [List.eq_nil_of_length_eq_zero hl]
      rfl
    have e2 : d.kws K = [] := by unfold He.DefD.kws; rw [hk]; rfl
    rw [e1, e2] at F
    refine ⟨[], [], .nil, fun H => ?_, F.bindsN (b.no h0)⟩
    unfold Fn.dv
    rw [h0, List.drop_nil]
    exact .nil
  · obtain ⟨b1, b2⟩ := b.some_ h0 m hm
    have hne : d.dvs K ≠ [] := fun z => h0 (List.eq_nil_of_length_eq_zero (by rw [← hl]; unfold He.DefD.dvs at z; simpa using congrArg List.length z))
    have hlen : (d.dvs K).length = g.dfl.length := by unfold He.DefD.dvs; rw [List.length_map, hl]
    obtain ⟨ds, hv, hb⟩ := F.binds1 (ps := g.ps) (g.ps.length - m) (g.dfl.length - m) hne (by rw [hlen]; omega) fun T kV doc pm an cdv ct us its h1 h2 => b2 T kV doc pm an cdv ct us its h1 (h2.trans hlen)
    refine ⟨_, ds, hv, fun H => ?_, hb⟩
    unfold Fn.dv
    exact (dvsB_ok hd).drop _

/-! ### a def's entry -/
theorem args_at {K : PySem.W.Frag} {f H : Hp} : ∀ {vs : List V} {ss : List Sl} {i : Nat} {s : Sl}, ArgsOk K f H vs ss → ss[i]? = some s → ∃ v, vs[i]? = some v ∧ ArgOk K f H v s
  | _, _, _, _, .nil, h => by simp at h
  | _, _, 0, _, .cons a _, h => by
    have e := Option.some.inj h
    subst e
    exact ⟨_, rfl, a⟩
  | _, _, i + 1, _, .cons _ t, h => args_at (i := i) t h
theorem mt_start {K : PySem.W.Frag} {f H : Hp} {N : List Str} {vs : List V} {ss : List Sl} (sm : Same f H) (h : ArgsOk K f H vs ss) : Mt K f H f H (L2.start N vs) (ss ++ List.replicate (N.length - ss.length) .un) := by
  have hl := h.length
  have now : ∀ i xs, (ss ++ List.replicate (N.length - ss.length) Sl.un)[i]? = some (Sl.ow xs) → False := fun i xs e => by
    by_cases hi : i < ss.length
    · rw [List.getElem?_append_left hi] at e
      obtain ⟨v, _, a⟩ := args_at h e
      cases a
    · rw [List.getElem?_append_right (by omega), List.getElem?_replicate] at e
      split at e
      · cases e
      · cases e
  refine ⟨Po.refl sm, ?_, fun i s e => ?_, fun i j p xs ys e _ _ _ => (now i xs e).elim⟩
  · unfold L2.start
    simp [hl]
  · unfold L2.start
    by_cases hi : i < ss.length
    · rw [List.getElem?_append_left hi] at e
      obtain ⟨v, hv, a⟩ := args_at h e
      refine ⟨some v, ?_, ?_⟩
      · rw [List.getElem?_append_left (by rw [List.length_map]; omega), List.getElem?_map, hv]
        rfl
      · cases a with
        | va h => exact .va h
        | rd h1 h2 => exact .rd h1 h2
        | er h => exact .er h
    · rw [List.getElem?_append_right (by omega), List.getElem?_replicate] at e
      split at e
      · rename_i hlt
        cases e
        refine ⟨none, ?_, .un none⟩
        rw [List.getElem?_append_right (by rw [List.length_map]; omega), List.getElem?_replicate, List.length_map, if_pos (by omega)]
      · cases e

section
variable {T : List Fn} {cons : List (Str × D)} {cls : Nat → Value} {clsN : List Str} {P : Program} {w : World} {K : PySem.W.Frag} {mg : Str → Option Value} {base : Heap}
/-- what the end knows of the text -/
structure TbOk (T : List Fn) (cons : List (Str × D)) (cls : Nat → Value) (clsN : List Str) (ds : List He.DefD) (K : PySem.W.Frag) (mg : Str → Option Value) : Prop where
  fn : ∀ (j : Nat) (g : Fn), T[j]? = some g → ∃ d, ds[j]? = some d ∧ ckFn T cons clsN g d = true ∧ BindF g d
  df : ∀ (j : Nat) (d : He.DefD), ds[j]? = some d → (∃ fd, FunD K d.name d.qual d.params d.body d.scope (d.dvs K) (d.kws K) (He.fAd K d.at_) fd) ∧ mg d.at_.1 = some (.ref (He.ga K d.at_.1))
  con : ∀ (x : Nat) (n : Str) (d : D), cons[x]? = some (n, d) → ∃ (v : V) (u : Value), mg n = some u ∧ RelV v u ∧ ∀ H, Dp K H v d
  blt : ∀ n ∈ blts, mg n = none
  see : seeB K = true
  ga : ∀ (k : Nat) (n : Str), clsN[k]? = some n → n ≠ "" → cls k = .ref (He.ga K n) ∧ errN[k]? = some n
  er : erB K clsN = true
  exc : ∀ (k : Nat) (n : Str), clsN[k]? = some n → n ≠ "" → ∃ C : Addr, cls k = .ref C ∧ mg n = some (.ref C) ∧ PySem.W.excIn K C [.type "ValueError", .type "Exception", .type "BaseException", .type "object"] "ValueError.__new__" = true ∧
    PySem.W.keepIn K (.ref C) = true ∧ PySem.W.subIn K (.ref C) (.type "BaseException") = some true ∧ PySem.W.typeIn K (.ref C) = some (.type "type")
theorem nm_body {CX' : CXT} {N : List Str} {qual : Str} {scope : Scope} {f : Addr} {cd : Value} {A : Around} {outer : List Env} {s : Shared} {H : Hp} {E : XK} : ∀ x k, scope.names.lookup x = some k → NmOk (cxOf CX' P w K mg base N qual scope f cd A outer s H E) x k := by
  intro x k h
  cases k with
  | «local» => exact h
  | cell => exact ⟨h, rfl⟩
  | free => exact .inr h
  | globalImplicit => exact h
  | globalExplicit => trivial
theorem pyr_body {CX' : CXT} {N ps : List Str} {qual : Str} {scope : Scope} {f : Addr} {cd : Value} {A : Around} {outer : List Env} {s : Shared} {H : Hp} {E : XK} {n : Nat} (hk : seeB K = true) (ht : P.given.tree = none) (S : FnScope N ps scope)
    (hr : Room (n + 32) (A.deeper (envOfC qual scope s.heap.objs.size f cd))) : PyR (cxOf CX' P w K mg base N qual scope f cd A outer s H E) := by
  intro hfr M s' hk'
  have hN : s'.heap.NoSeer := (seeB_ok hk M).keeps hk'
  refine PylongRoom.of (M.nolimit.keeps hk') ?_ (SeerAt.of hN ht hfr S.gen S.co rfl rfl)
  have z := hr.dp
  show (A.deeper (envOfC qual scope s.heap.objs.size f cd)).depth + 100 < recursionLimit
  omega
theorem fn_step {j : Nat} {g : Fn} {d : He.DefD} {f : Addr} {fd : FuncData} (hg : T[j]? = some g) (hc : ckFn T cons clsN g d = true) (F : FunD K d.name d.qual d.params d.body d.scope (d.dvs K) (d.kws K) f fd) (ih : LkOk (lkN T cons cls clsN j) P w K mg base) :
    FnOk P w K mg base (L2.CX P w) (j + 32 + 1) f fd g.ps ((lkN T cons cls clsN (j + 1)).sp K j) := by
  unfold ckFn at hc
  obtain ⟨hc, c6⟩ := and2 hc
  obtain ⟨hc, c5⟩ := and2 hc
  obtain ⟨hc, c4⟩ := and2 hc
  obtain ⟨hc, c3⟩ := and2 hc
  have S := scB_ok c3
  have spE : ∀ {f H : Hp} {ss : List Sl} {Q : VK} {E : XK} {vs : List V}, (match (lkN T cons cls clsN (j + 1)).c j ss with
    | .ok p => Ac K f H Q p
    | .ex k => ∀ f' H', Po f H f' H' → E (cls k) none H'
    | .no => False) → ss.length = g.ps.length ∧ (match (match evSs (lkN T cons cls clsN j).G (lkN T cons cls clsN j).c (dflT T) g.body (ss ++ List.replicate (g.N.length - ss.length) .un) with
        | .ok (.rt d fr) => R.ok (d, fr)
        | .ok (.nx _) => .ok (.none, false)
        | .ok (.ex c _) => .ex c
        | _ => .no) with
    | .ok p => Ac K f H Q p
    | .ex k => ∀ f' H', Po f H f' H' → E (cls k) none H'
    | .no => False) := fun {f H ss Q E vs} h => by
    change (match callN (lkN T cons cls clsN j).G T (j + 1) j ss with
      | .ok p => Ac K f H Q p
      | .ex k => ∀ f' H', Po f H f' H' → E (cls k) none H'
      | .no => False) at h
    unfold callN at h
    rw [if_pos rfl, hg] at h
    by_cases hl : ss.length = g.ps.length
    · refine ⟨hl, ?_⟩
      simp only [if_pos hl] at h
      exact h
    · simp only [if_neg hl] at h
  refine F.ok (CX := L2.CX P w) (k := j + 32) S (fun vs H Q E hsp => ?_) fun cdv A outer s H vs Q E hr hsp => ?_
  · obtain ⟨f, ss, sm, ha, hm⟩ := hsp
    rw [ha.length]
    exact (spE (vs := vs) hm).1
  · obtain ⟨f, ss, sm, ha, hm⟩ := hsp
    have hm := (spE (vs := vs) hm).2
    refine ⟨dSs (lkN T cons cls clsN j) K (fun c dd _ H' => E c dd H') g.body, ?_, ?_⟩
    · refine sSs (L := lkN T cons cls clsN j) g.body (N := g.N) (sc := d.scope.names) (W := fun c dd _ H' => E c dd H') ⟨⟨ih, rfl, S.nd, S.kind, nm_body, rfl, hr, takes_of rfl rfl rfl rfl, pyr_body ih.see.1 ih.see.2 S hr⟩, passes_of rfl, rfl, rfl, rfl⟩ d.body c6
    · refine ⟨f, H, f, _, mt_start sm ha, ?_⟩
      change OutS _ K _ f H f (evSs (lkN T cons cls clsN j).G (lkN T cons cls clsN j).c (dflT T) g.body (ss ++ List.replicate (g.N.length - ss.length) .un)) _
      cases ev : evSs (lkN T cons cls clsN j).G (lkN T cons cls clsN j).c (dflT T) g.body (ss ++ List.replicate (g.N.length - ss.length) .un) with
      | no => rw [ev] at hm; exact hm.elim
      | ex k => rw [ev] at hm; exact hm.elim
      | ok fl =>
        rw [ev] at hm
        cases fl with
        | nx en => exact fun σ' f' H' _ m' => hm .non f' H' m'.po .non
        | bk en => exact hm.elim
        | ct en => exact hm.elim
        | rt dd fr => exact fun v f' H' q hv => hm v f' H' q hv
        | ex k en => exact fun σ' f' H' _ m' => hm f' H' m'.po
theorem lk_step {ds : List He.DefD} (t : TbOk T cons cls clsN ds K mg) {n : Nat} (ih : LkOk (lkN T cons cls clsN n) P w K mg base) : LkOk (lkN T cons cls clsN (n + 1)) P w K mg base := by
  refine ⟨fun j g hg m hm => ?_, t.con, t.blt, ih.see, t.ga, t.er, t.exc⟩
  obtain ⟨fa, fd0, dvs, vs0, h1, h2, h3, h4, h5, h6⟩ := ih.fn j g hg m hm
  by_cases hj : j = n
  · subst hj
    obtain ⟨d, hd, hc, hb⟩ := t.fn _ g hg
    have hcc := hc
    unfold ckFn at hc
    obtain ⟨hc, c6⟩ := and2 hc
    obtain ⟨hc, c5⟩ := and2 hc
    obtain ⟨hc, c4⟩ := and2 hc
    obtain ⟨hc, c3⟩ := and2 hc
    obtain ⟨c1, c2⟩ := and2 hc
    obtain ⟨⟨fd, F⟩, hmg⟩ := t.df _ d hd
    have c2 := eq_of_beq c2
    have hk : d.kwd = [] := List.isEmpty_iff.mp c5
    obtain ⟨dvs, vs, hv, hdp, hbn⟩ := binds_of F hb hk c4 hm
    have ea : He.fAd K d.at_ = He.ga K g.name := by rw [c2]; rfl
    rw [c2] at hmg
    rw [ea] at F
    exact ⟨_, fd, dvs, vs, hmg, F.kp, (fn_step hg hcc F ih).mono (show j + 32 + 1 ≤ j + 1 + 32 by omega), hv, hdp, hbn⟩
  · have ec : ∀ ss, (lkN T cons cls clsN (n + 1)).c j ss = (lkN T cons cls clsN n).c j ss := fun ss => by
      show callN _ T (n + 1) j ss = callN _ T n j ss
      conv => lhs; unfold callN
      rw [if_neg hj]
    refine ⟨fa, fd0, dvs, vs0, h1, h2, (h3.mono (show n + 32 ≤ n + 1 + 32 by omega)).imp fun vs H Q E ⟨f, ss, sm, ha, hm⟩ => ⟨f, ss, sm, ha, ?_⟩, h4, h5, h6⟩
    rw [← ec ss]
    exact hm
theorem lk_all {ds : List He.DefD} (ht : P.given.tree = none) (t : TbOk T cons cls clsN ds K mg) : ∀ n, LkOk (lkN T cons cls clsN n) P w K mg base
  | 0 => by
    refine ⟨fun j g hg m hm => ?_, t.con, t.blt, ⟨t.see, ht⟩, t.ga, t.er, t.exc⟩
    obtain ⟨d, hd, hc, hb⟩ := t.fn _ g hg
    unfold ckFn at hc
    obtain ⟨hc, c6⟩ := and2 hc
    obtain ⟨hc, c5⟩ := and2 hc
    obtain ⟨hc, c4⟩ := and2 hc
    obtain ⟨hc, c3⟩ := and2 hc
    obtain ⟨c1, c2⟩ := and2 hc
    obtain ⟨⟨fd, F⟩, hmg⟩ := t.df _ d hd
    have c2 := eq_of_beq c2
    obtain ⟨dvs, vs, hv, hdp, hbn⟩ := binds_of F hb (List.isEmpty_iff.mp c5) c4 hm
    have ea : He.fAd K d.at_ = He.ga K g.name := by rw [c2]; rfl
    rw [c2] at hmg
    rw [ea] at F
    have no : ∀ vs H Q E, ¬ (lkN T cons cls clsN 0).sp K j vs H Q E := fun vs H Q E ⟨f, ss, sm, ha, hm⟩ => hm
    exact ⟨_, fd, dvs, vs, hmg, F.kp, ⟨fun vs H Q E h => (no _ _ _ _ h).elim, fun _ _ _ _ _ _ _ _ _ _ _ _ _ h => (no _ _ _ _ h).elim⟩, hv, hdp, hbn⟩
  | n + 1 => lk_step t (lk_all ht t n)
end
end AW

/-! AwHead: what the top leaves, by names; a law over a checked table. -/
namespace AW
open PySem PySem.Spec PyProof.Rows L2

/-! ### constants -/
mutual
def kB (K : PySem.W.Frag) : D → Value → Bool
  | .none, u => (match u with
    | .none => true
    | _ => false)
  | .bool b, u => (match u with
    | .bool c => b == c
    | _ => false)
  | .int i, u => (match u with
    | .int j _ => decide (i = j)
    | _ => false)
  | .str x, u => (match u with
    | .str y _ => decide (x = y)
    | _ => false)
  | .tuple ds, u => (match u with
    | .ref a => (match K.lookup a with
      | some ⟨.type c, _, .seq its _, _⟩ => decide (c = "tuple") && (decide (its.size ≤ sizeLine) && ksB K ds its.toList)
      | _ => false)
    | _ => false)
  | _, _ => false
def ksB (K : PySem.W.Frag) : List D → List Value → Bool
  | [], us => us.isEmpty
  | d :: ds, us => (match us with
    | u :: us => kB K d u && ksB K ds us
    | [] => false)
end
mutual
theorem kB_ok {K : PySem.W.Frag} : ∀ (d : D) (u : Value), kB K d u = true → ∃ v, RelV v u ∧ ∀ H, Dp K H v d
  | .none, u, h => by
    cases u <;> first
      | (cases h; done)
      | exact ⟨.non, rfl, fun H => .non⟩
  | .bool b, u, h => by
    cases u <;> first
      | (cases h; done)
      | skip
    case bool c =>
      have e : b = c := eq_of_beq (show (b == c) = true from h)
      subst e
      exact ⟨.bl b, rfl, fun H => .bl b⟩
  | .int i, u, h => by
    cases u <;> first
      | (cases h; done)
      | skip
    case int j t =>
      have e : i = j := of_decide_eq_true h
      subst e
      exact ⟨.int i, ⟨t, rfl⟩, fun H => .int i⟩
  | .str x, u, h => by
    cases u <;> first
      | (cases h; done)
      | skip
    case str y t =>
      have e : x = y := of_decide_eq_true h
      subst e
      exact ⟨.str x, ⟨t, rfl⟩, fun H => .str x⟩
  | .tuple ds, u, h => by
    cases u <;> first
      | (cases h; done)
      | skip
    case ref a =>
      have h : (match K.lookup a with
        | some ⟨.type c, _, .seq its _, _⟩ => decide (c = "tuple") && (decide (its.size ≤ sizeLine) && ksB K ds its.toList)
        | _ => false) = true := by
        unfold kB at h
        exact h
      cases q : K.lookup a with
      | none =>
        rw [q] at h
        cases h
      | some o =>
        obtain ⟨oc, od, dt, osl⟩ := o
        rw [q] at h
        cases oc with
        | type c =>
          cases dt with
          | seq its n =>
            obtain ⟨h1, h2⟩ := and2 (show (decide (c = "tuple") && (decide (its.size ≤ sizeLine) && ksB K ds its.toList)) = true from h)
            obtain ⟨h3, h4⟩ := and2 h2
            obtain ⟨vs, hv, hd⟩ := ksB_ok ds its.toList h4
            exact ⟨.ref a, rfl, fun H => .tup (.inr ⟨_, its, n, q, congrArg Value.type (of_decide_eq_true h1), rfl, of_decide_eq_true h3, hv⟩) (hd H)⟩
          | _ => cases h
        | _ => cases dt <;> cases h
  | .list _, u, h => by unfold kB at h; cases h
  | .dict _, u, h => by unfold kB at h; cases h
theorem ksB_ok {K : PySem.W.Frag} : ∀ (ds : List D) (us : List Value), ksB K ds us = true → ∃ vs, Vals vs us ∧ ∀ H, DpAll K H vs ds
  | [], us, h => by
    unfold ksB at h
    rw [List.isEmpty_iff.mp h]
    exact ⟨[], .nil, fun H => .nil⟩
  | d :: ds, us, h => by
    cases us with
    | nil => unfold ksB at h; cases h
    | cons u us =>
      obtain ⟨h1, h2⟩ := and2 (show (kB K d u && ksB K ds us) = true by unfold ksB at h; exact h)
      obtain ⟨v, r, hv⟩ := kB_ok d u h1
      obtain ⟨vs, rs, hvs⟩ := ksB_ok ds us h2
      exact ⟨v :: vs, .cons r rs, fun H => .cons (hv H) (hvs H)⟩
end
def conB (K : PySem.W.Frag) (c : Str × D) : Bool := match PySem.W.nsIn K mainGlobals c.1 with
  | some (some u) => kB K c.2 u
  | _ => false
/-! ### the Hook -/
structure Fx where
  fa : List He.Fa
  cons : List (Str × D)
  er : List Str
  fn : List He.DefD
def obsA (x : Fx) (K : PySem.W.Frag) : He.AlD := (((seeB K && erB K x.er) && x.fa.all fun f => f.ok K) && ((x.cons.all fun c => conB K c) && x.fn.all fun d => d.ok K), x.fn.map fun d => He.fnW K d.at_)
/-- the names' objects, and the interpreter's own two tables -/
def asA (g : Addr → Option Obj) : Nat → List Addr
  | 0 => [mainGlobals, cStatics, sysModules]
  | n + 1 => He.growD g (asA g n)
def SaysA (x : Fx) (K : PySem.W.Frag) : Prop := obsA x K = He.valD x.fn
def obsAG (n : Nat) (x : Fx) (g : Addr → Option Obj) : He.AlD := obsA x (He.frG g (asA g n))
def hookA (n : Nat) (x : Fx) : PySem.W.Hook where
  α := He.AlD
  obs := fun s => obsAG n x s.heap.get?
  val := fun _ => He.valD x.fn
  says := fun _ h => ∃ K : PySem.W.Frag, K.In h ∧ SaysA x K
  of := fun _ _ e => ⟨_, He.frG_in, e⟩
  keeps := fun _ _ _ ⟨K, hK, c⟩ k => ⟨K, PySem.W.Frag.In.keeps hK k, c⟩
theorem obsAG_eq {n : Nat} {x : Fx} {g : Addr → Option Obj} {s : Shared} (h : ∀ a, g a = s.heap.get? a) : obsAG n x g = (hookA n x).obs s := by
  have e : g = s.heap.get? := funext h
  rw [e] <;> rfl
section
variable {x : Fx} {K : PySem.W.Frag}
theorem SaysA.all (c : SaysA x K) : (seeB K = true ∧ erB K x.er = true) ∧ (∀ f ∈ x.fa, f.ok K = true) ∧ (∀ q ∈ x.cons, conB K q = true) ∧ ∀ d ∈ x.fn, d.ok K = true := by
  have c1 : (((seeB K && erB K x.er) && x.fa.all fun f => f.ok K) && ((x.cons.all fun c => conB K c) && x.fn.all fun d => d.ok K)) = true := congrArg (fun z : He.AlD => z.1) c
  obtain ⟨h1, h2⟩ := and2 c1
  obtain ⟨h2, h3⟩ := and2 h2
  obtain ⟨h0, h1⟩ := and2 h1
  exact ⟨and2 h0, List.all_eq_true.mp h1, List.all_eq_true.mp h2, List.all_eq_true.mp h3⟩
theorem SaysA.def_ (c : SaysA x K) {i : Nat} {d : He.DefD} (h : x.fn[i]? = some d) : ∃ fd, FunD K d.name d.qual d.params d.body d.scope (d.dvs K) (d.kws K) (He.fAd K d.at_) fd := by
  have e : x.fn.map (fun d => He.fnW K d.at_) = x.fn.map He.DefD.val := congrArg (fun z : He.AlD => z.2) c
  have e2 : (x.fn.map fun d => He.fnW K d.at_)[i]? = (x.fn.map He.DefD.val)[i]? := by rw [e]
  rw [List.getElem?_map, List.getElem?_map, h] at e2
  exact He.DefD.funD (Option.some.inj e2) (c.all.2.2.2 d (List.mem_of_getElem? h))
end

/-! ### the table -/
/-- a law's table: the link's parts and the text's defs -/
structure Tb where
  T : List Fn
  cons : List (Str × D)
  clsN : List Str
  ds : List He.DefD
def Tb.fx (t : Tb) : Fx := ⟨blts.map He.Fa.free ++ ((t.clsN.filter fun (n : Str) => n != "").flatMap fun n => [He.Fa.glo n, He.Fa.exc n]) ++ t.ds.map fun d => He.Fa.glo d.at_.1, t.cons, t.clsN, t.ds⟩
def Tb.cls (t : Tb) (K : PySem.W.Frag) (k : Nat) : Value := match t.clsN[k]? with
  | some n => .ref (He.ga K n)
  | none => .none
def ckAll (T : List Fn) (cs : List (Str × D)) (cl : List Str) : List Fn → List He.DefD → Bool
  | [], [] => true
  | g :: gs, d :: ds => ckFn T cs cl g d && ckAll T cs cl gs ds
  | _, _ => false
def BindAll : List Fn → List He.DefD → Prop
  | g :: gs, d :: ds => BindF g d ∧ BindAll gs ds
  | _, _ => True
theorem ckAll_at {T : List Fn} {cs : List (Str × D)} {cl : List Str} : ∀ {gs : List Fn} {ds : List He.DefD} {j : Nat} {g : Fn}, ckAll T cs cl gs ds = true → BindAll gs ds → gs[j]? = some g → ∃ d, ds[j]? = some d ∧ ckFn T cs cl g d = true ∧ BindF g d
  | [], _, _, _, _, _, h => by simp at h
  | _ :: _, [], _, _, h, _, _ => by cases h
  | g :: gs, d :: ds, 0, _, h, b, e => by
    have e := Option.some.inj e
    subst e
    exact ⟨d, rfl, (and2 (show (ckFn T cs cl g d && ckAll T cs cl gs ds) = true from h)).1, b.1⟩
  | g :: gs, d :: ds, j + 1, _, h, b, e => ckAll_at (j := j) (and2 (show (ckFn T cs cl g d && ckAll T cs cl gs ds) = true from h)).2 b.2 e
def clsB (ns : List Str) : Bool := (List.range ns.length).all fun k => ns[k]? == some "" || ns[k]? == errN[k]?
structure TbSays (t : Tb) : Prop where
  cl : clsB t.clsN = true
  ck : ckAll t.T t.cons t.clsN t.T t.ds = true
  bd : BindAll t.T t.ds
section
variable {t : Tb} {K : PySem.W.Frag} {h : Heap} {mg : Str → Option Value}
theorem tb_ok (y : TbSays t) (X : K.In h) (G : h.Ns mainGlobals mg) (c : SaysA t.fx K) : TbOk t.T t.cons (t.cls K) t.clsN t.ds K mg := by
  obtain ⟨⟨c0, c4⟩, c1, c2, c3⟩ := c.all
  have hglo : ∀ n, He.Fa.glo n ∈ t.fx.fa → mg n = some (.ref (He.ga K n)) := fun n hn => He.glo_ok X G (c1 _ hn)
  refine ⟨fun j g hg => ckAll_at y.ck y.bd hg, fun j d hd => ⟨c.def_ hd, hglo _ ?_⟩, fun x n d hx => ?_, fun n hn => He.free_ok X G (c1 _ ?_), c0, fun k n hk hn => ⟨?_, ?_⟩, c4, fun k n hk hn => ?_⟩
  · exact List.mem_append_right _ (List.mem_map.mpr ⟨d, List.mem_of_getElem? hd, rfl⟩)
  · have z : (match PySem.W.nsIn K mainGlobals n with
      | some (some u) => kB K d u
      | _ => false) = true := c2 _ (List.mem_of_getElem? hx)
    cases e : PySem.W.nsIn K mainGlobals n with
    | none => rw [e] at z; cases z
    | some o =>
      rw [e] at z
      cases o with
      | none => cases z
      | some u =>
        obtain ⟨v, r, hv⟩ := kB_ok d u z
        exact ⟨v, u, PySem.W.mg_of X G e, r, hv⟩
  · exact List.mem_append_left _ (List.mem_append_left _ (List.mem_map.mpr ⟨n, hn, rfl⟩))
  · unfold Tb.cls
    rw [hk]
  · have z := List.all_eq_true.mp (show (List.range t.clsN.length).all _ = true from y.cl) k (List.mem_range.mpr (List.getElem?_eq_some_iff.mp hk).1)
    rw [hk] at z
    rcases Bool.or_eq_true_iff.mp z with z | z
    · exact absurd (Option.some.inj (eq_of_beq z)) hn
    · exact (eq_of_beq z).symm
  · have hm : n ∈ t.clsN.filter fun (n : Str) => n != "" := List.mem_filter.mpr ⟨List.mem_of_getElem? hk, bne_iff_ne.mpr hn⟩
    have m1 : He.Fa.glo n ∈ t.fx.fa := List.mem_append_left _ (List.mem_append_right _ (List.mem_flatMap.mpr ⟨n, hm, List.mem_cons_self⟩))
    have m2 : He.Fa.exc n ∈ t.fx.fa := List.mem_append_left _ (List.mem_append_right _ (List.mem_flatMap.mpr ⟨n, hm, List.mem_cons_of_mem _ List.mem_cons_self⟩))
    obtain ⟨e1, e2, e3, e4⟩ := He.exc_ok (c1 _ m2)
    refine ⟨He.ga K n, ?_, hglo n m1, e1, e2, e3, e4⟩
    unfold Tb.cls
    rw [hk]
/-- a law: the last def of the table; what it reckons on every list of ints -/
theorem law_ok {P : Program} {w : World} {fa : Addr} {j : Nat} {g : Fn} {d : He.DefD} {x : Str} (ht : P.given.tree = none) (y : TbSays t) (hj : t.T[j]? = some g) (hd : t.ds[j]? = some d) (hps : g.ps = [x]) (h0 : g.dfl = []) (X : K.In h) (G : h.Ns mainGlobals mg) (c : SaysA t.fx K) (hmg : mg g.name = some (.ref fa))
    {lim : Nat} (run : ∀ ns : List Int, ns.length ≤ lim → callN (fun x => ((t.cons[x]?).map (·.2)).getD .none) t.T (j + 1) j [.va (.list (ns.map .int))] = .ok (.bool true, false)) :
    ∃ (fd : FuncData) (sp : Sp), (∀ (s : Shared) (u : Value), BindsTo s fd ⟨[u], []⟩ [(x, u)]) ∧
        (∀ (H : Hp) (a : Addr) (ns : List Int), ns.length ≤ lim → Only H → SqL K H a (ns.map V.int) → sp [.ref a] H (fun v _ => v = .bl true) fun _ _ _ => False) ∧
        ∀ base : Heap, K.In base → base.Ns mainGlobals mg → FnOk P w K mg base (L2.CX P w) (j + 32 + 1) fa fd [x] sp := by
  have tb := tb_ok y X G c
  obtain ⟨d', hd', hc, hb⟩ := tb.fn j g hj
  rw [hd] at hd'
  cases hd'
  obtain ⟨⟨fd, F⟩, hm⟩ := tb.df j d hd
  have hcc := hc
  unfold ckFn at hc
  obtain ⟨hc, _⟩ := and2 hc
  obtain ⟨hc, k5⟩ := and2 hc
  obtain ⟨hc, k4⟩ := and2 hc
  obtain ⟨hc, _⟩ := and2 hc
  obtain ⟨_, k2⟩ := and2 hc
  have k2 := eq_of_beq k2
  rw [k2] at hm
  have ea : He.fAd K d.at_ = He.ga K g.name := by rw [k2]; rfl
  rw [ea] at F
  rw [hmg] at hm
  cases hm
  have e1 : d.dvs K = [] := by
    have hl := dvsB_len k4
    unfold He.DefD.dvs
    rw [h0] at hl
    rw [List.eq_nil_of_length_eq_zero hl]
    rfl
  have e2 : d.kws K = [] := by unfold He.DefD.kws; rw [List.isEmpty_iff.mp k5]; rfl
  have F0 := F
  rw [e1, e2] at F0
  refine ⟨fd, (lkN t.T t.cons (t.cls K) t.clsN (j + 1)).sp K j, fun s u => ?_, fun H a ns hn ho hS => ?_, fun base kb gb => ?_⟩
  · have z := FunD.bindsA (ps := g.ps) F0 (hb.no h0) s [u] (by rw [hps]; rfl)
    rw [hps] at z
    exact z
  · refine ⟨H, [.va (.list (ns.map .int))], Same.refl H, .cons (.va (.lst hS (DpAll.ints ns))) .nil, ?_⟩
    change (match callN (fun x => ((t.cons[x]?).map (·.2)).getD .none) t.T (j + 1) j [.va (.list (ns.map .int))] with
      | .ok p => Ac K H H (fun v _ => v = .bl true) p
      | .ex k => ∀ f' H', Po H H f' H' → False
      | .no => False)
    rw [run ns hn]
    intro v f' H' q hv
    cases (show Dp K f' v (.bool true) from hv)
    rfl
  · have z := fn_step (P := P) (w := w) (base := base) hj hcc F (lk_all ht (tb_ok y kb gb c) j)
    rw [hps] at z
    exact z
end
/-! ### what is let out, over every world -/
def cxA (P : Program) : CXT := fun outer H s E u s' => ∃ w : World, L2.CX P w outer H s E u s'
theorem cxA_none {P : Program} {H : Hp} {s : Shared} {e : Value} {s' : Shared} (h : cxA P [] H s (fun _ _ _ => False) e s') : False := by
  obtain ⟨w, a, B, H', cls, d, _, _, _, _, _, _, _, z⟩ := h
  exact z
theorem fn_cxA {P : Program} {w : World} {K : PySem.W.Frag} {mg : Str → Option Value} {base : Heap} {k : Nat} {f : Addr} {fd : FuncData} {ps : List Str} {sp : Sp} (F : FnOk P w K mg base (L2.CX P w) k f fd ps sp) : FnOk P w K mg base (cxA P) k f fd ps sp :=
  ⟨F.len, fun A outer s H args us vs Q E hr he hb hv hs => codeAny_mono (F.run A outer s H args us vs Q E hr he hb hv hs) fun r s' q => by
    cases r with
    | error e => exact ⟨w, q⟩
    | ok fl => cases fl <;> exact q⟩
end AW

/-! AwEv: how the small language is reckoned by rewriting. -/
namespace AW
open PySem PySem.Spec PyProof.Rows

section
variable {G : Nat → D} {c : Nat → List Sl → R (D × Bool)} {dfl : Nat → Nat → List D} {en : En}
@[simp] theorem ev_var (i : Nat) : evF G c dfl (.var i) en = (val en i).bind v1 := rfl
@[simp] theorem ev_con (d : D) : evF G c dfl (.con d) en = v1 d := rfl
@[simp] theorem ev_glb (x : Nat) : evF G c dfl (.glb x) en = v1 (G x) := rfl
@[simp] theorem ev_tup (es : Es) : evF G c dfl (.tup es) en = (evs G c dfl es en).bind fun ds => if ds.length ≤ line then v1 (.tuple ds) else .no := rfl
@[simp] theorem ev_lst (es : Es) : evF G c dfl (.lst es) en = (evs G c dfl es en).bind fun ds => if ds.length ≤ line then .ok (.list ds, true) else .no := rfl
@[simp] theorem ev_rep (es : Es) (n : E) : evF G c dfl (.rep es n) en = (evs G c dfl es en).bind fun ds => if ds.length ≤ line then (evF G c dfl n en).bind fun x => (intR x.1).bind fun k => if -1000000 ≤ k ∧ k ≤ 1000000 ∧ ds.length * k.toNat ≤ line then .ok (.list (List.replicate k.toNat ds).flatten, true) else .no else .no := rfl
@[simp] theorem ev_op1 (o : O1) (a : E) : evF G c dfl (.op1 o a) en = (rd1 a en (evF G c dfl a en)).bind (sem1 o) := rfl
@[simp] theorem ev_op2 (o : O2) (a b : E) : evF G c dfl (.op2 o a b) en = (rd1 a en (evF G c dfl a en)).bind fun x => (rd1 b en (evF G c dfl b en)).bind fun y => sem2 o x y := rfl
@[simp] theorem ev_chn (o p : O2) (a b z : E) : evF G c dfl (.chn o p a b z) en = (rd1 a en (evF G c dfl a en)).bind fun x => (rd1 b en (evF G c dfl b en)).bind fun y => (sem2 o x y).bind fun r => (match r.1 with
    | .bool true => (rd1 z en (evF G c dfl z en)).bind fun w => sem2 p y w
    | .bool false => v1 (.bool false)
    | _ => .no) := rfl
@[simp] theorem ev_and (a b : E) : evF G c dfl (.and a b) en = (evF G c dfl a en).bind fun x => (truR x.1).bind fun t => if t then evF G c dfl b en else v1 x.1 := rfl
@[simp] theorem ev_or (a b : E) : evF G c dfl (.or a b) en = (evF G c dfl a en).bind fun x => (truR x.1).bind fun t => if t then .ok x else evF G c dfl b en := rfl
@[simp] theorem ev_not (a : E) : evF G c dfl (.not a) en = (rd1 a en (evF G c dfl a en)).bind fun x => (truR x).bind fun t => v1 (.bool (!t)) := rfl
@[simp] theorem ev_ife (t a b : E) : evF G c dfl (.ife t a b) en = (rd1 t en (evF G c dfl t en)).bind fun x => (truR x).bind fun t => if t then evF G c dfl a en else evF G c dfl b en := rfl
@[simp] theorem ev_slc (a : E) (lo hi : Eo) : evF G c dfl (.slc a lo hi) en = (rd1 a en (evF G c dfl a en)).bind fun x => (evO G c dfl lo en).bind fun l => (evO G c dfl hi en).bind fun h => semSl x l h := rfl
@[simp] theorem ev_revs (a : E) : evF G c dfl (.revs a) en = (rd1 a en (evF G c dfl a en)).bind semRev := rfl
@[simp] theorem ev_repE (a n : E) : evF G c dfl (.repE a n) en = (evF G c dfl a en).bind fun x => (evF G c dfl n en).bind fun y => (intR y.1).bind fun k => semRep x k := rfl
@[simp] theorem ev_call (j : Nat) (es : Es) (m : Nat) : evF G c dfl (.call j es m) en = (evAs G c dfl es en).bind fun ss => c j (ss ++ (dfl j m).map .va) := rfl
@[simp] theorem ev_callv (j : Nat) (es : Es) (m : Nat) : evF G c dfl (.callv j es m) en = (evAs G c dfl es en).bind fun ss => (c j (asV ss ++ (dfl j m).map .va)).bind fun p => if p.2 = false ∧ noL p.1 = true then .ok p else .no := rfl
@[simp] theorem ev_isE (i : Nat) (ks : List Nat) (ts : List Te) : evF G c dfl (.isE i ks ts) en = (match en[i]? with
    | some (.va .none) => v1 (.bool false)
    | some (.er c) => if ks.contains c then v1 (.bool (ts.any (erTy c))) else .no
    | _ => .no) := rfl
@[simp] theorem ev_isN (i : Nat) (g : Bool) : evF G c dfl (.isN i g) en = (match en[i]? with
    | some (.va d) => (isD d .none).bind fun b => v1 (.bool (b != g))
    | some (.er _) => v1 (.bool g)
    | _ => .no) := rfl
@[simp] theorem ev_isi (a : E) (ts : List Ty) : evF G c dfl (.isi a ts) en = (rd1 a en (evF G c dfl a en)).bind fun x => v1 (.bool (ts.any fun t => isTy x t)) := rfl
theorem ev_cmp (elt : E) (tg : Tg) (it : It) (ifs : Eo) (own : List (Str × Nat)) : evF G c dfl (.cmp elt tg it ifs own) en = (evI G c dfl it en).bind fun ds => (compL (fun d => (bindT tg d (wipe en (own.map (·.2)))).bind fun en' => (evB G c dfl ifs en').nox.bind fun b =>
      if b then (evF G c dfl elt en').nox.bind fun y => .ok (some y.1) else .ok none) ds).bind fun ys => if ds.length ≤ line then .ok (.list ys, true) else .no := rfl
@[simp] theorem evs_nl : evs G c dfl .nil en = .ok [] := rfl
@[simp] theorem evs_cs (e : E) (r : Es) : evs G c dfl (.cons e r) en = (evF G c dfl e en).bind fun x => (evs G c dfl r en).bind fun xs => .ok (x.1 :: xs) := rfl
@[simp] theorem evAs_nl : evAs G c dfl .nil en = .ok [] := rfl
@[simp] theorem evAs_cs (e : E) (r : Es) : evAs G c dfl (.cons e r) en = (arg1 e en (evF G c dfl e en)).bind fun x => (evAs G c dfl r en).bind fun xs => .ok (x :: xs) := rfl
@[simp] theorem evO_none : evO G c dfl .none en = .ok none := rfl
@[simp] theorem evO_some (e : E) : evO G c dfl (.some e) en = (evF G c dfl e en).bind fun x => (intR x.1).bind fun i => .ok (some i) := rfl
@[simp] theorem evB_none : evB G c dfl .none en = .ok true := rfl
@[simp] theorem evB_some (e : E) : evB G c dfl (.some e) en = (rd1 e en (evF G c dfl e en)).bind fun x => truR x := rfl
@[simp] theorem evI_seq (a : E) : evI G c dfl (.seq a) en = (evF G c dfl a en).bind fun x => seqR x.1 := rfl
@[simp] theorem evI_rng1 (a : E) : evI G c dfl (.rng1 a) en = (evF G c dfl a en).bind fun x => (intR x.1).bind fun j => rngR 0 j := rfl
@[simp] theorem evI_rng2 (a b : E) : evI G c dfl (.rng2 a b) en = (evF G c dfl a en).bind fun x => (evF G c dfl b en).bind fun y => (intR x.1).bind fun i => (intR y.1).bind fun j => rngR i j := rfl
@[simp] theorem evI_rng3 (a b z : E) : evI G c dfl (.rng3 a b z) en = (evF G c dfl a en).bind fun x => (evF G c dfl b en).bind fun y => (evF G c dfl z en).bind fun w => (intR x.1).bind fun i => (intR y.1).bind fun j => (intR w.1).bind fun k => rngR3 i j k := rfl
@[simp] theorem evI_rev (a : E) : evI G c dfl (.rev a) en = (evF G c dfl a en).bind fun x => (seqR x.1).bind fun xs => .ok xs.reverse := rfl
@[simp] theorem evI_revr (a : E) : evI G c dfl (.revr a) en = (evF G c dfl a en).bind fun x => (intR x.1).bind fun j => (rngR 0 j).bind fun xs => .ok xs.reverse := rfl
@[simp] theorem evI_enum (a : E) : evI G c dfl (.enum a) en = (evF G c dfl a en).bind fun x => (seqR x.1).bind fun xs => .ok (enumD xs) := rfl
@[simp] theorem evI_zip (a b : E) : evI G c dfl (.zip a b) en = (evF G c dfl a en).bind fun x => (evF G c dfl b en).bind fun y => zipR x.1 y.1 := rfl
@[simp] theorem evT_eq (x : E) : evT G c dfl x en = (rd1 x en (evF G c dfl x en)).bind truR := rfl
/-! reading -/
variable {r : R (D × Bool)}
@[simp] theorem rd1_var (i : Nat) : rd1 (.var i) en r = r.bind fun p => .ok p.1 := rfl
@[simp] theorem rd1_con (d : D) : rd1 (.con d) en r = r.bind fun p => .ok p.1 := rfl
@[simp] theorem rd1_glb (d : Nat) : rd1 (.glb d) en r = r.bind fun p => .ok p.1 := rfl
@[simp] theorem rd1_tup (d : Es) : rd1 (.tup d) en r = r.bind fun p => .ok p.1 := rfl
@[simp] theorem rd1_lst (d : Es) : rd1 (.lst d) en r = r.bind fun p => .ok p.1 := rfl
@[simp] theorem rd1_rep (d : Es) (n : E) : rd1 (.rep d n) en r = r.bind fun p => .ok p.1 := rfl
@[simp] theorem rd1_op1 (o : O1) (a : E) : rd1 (.op1 o a) en r = r.bind fun p => .ok p.1 := rfl
@[simp] theorem rd1_op2 (o : O2) (a b : E) : rd1 (.op2 o a b) en r = r.bind fun p => .ok p.1 := rfl
@[simp] theorem rd1_chn (o p : O2) (a b z : E) : rd1 (.chn o p a b z) en r = r.bind fun p => .ok p.1 := rfl
@[simp] theorem rd1_and (a b : E) : rd1 (.and a b) en r = r.bind fun p => .ok p.1 := rfl
@[simp] theorem rd1_or (a b : E) : rd1 (.or a b) en r = r.bind fun p => .ok p.1 := rfl
@[simp] theorem rd1_not (a : E) : rd1 (.not a) en r = r.bind fun p => .ok p.1 := rfl
@[simp] theorem rd1_ife (t a b : E) : rd1 (.ife t a b) en r = r.bind fun p => .ok p.1 := rfl
@[simp] theorem rd1_slc (a : E) (lo hi : Eo) : rd1 (.slc a lo hi) en r = r.bind fun p => .ok p.1 := rfl
@[simp] theorem rd1_revs (a : E) : rd1 (.revs a) en r = r.bind fun p => .ok p.1 := rfl
@[simp] theorem rd1_repE (a n : E) : rd1 (.repE a n) en r = r.bind fun p => .ok p.1 := rfl
@[simp] theorem rd1_call (j : Nat) (es : Es) (m : Nat) : rd1 (.call j es m) en r = r.bind fun p => .ok p.1 := rfl
@[simp] theorem rd1_callv (j : Nat) (es : Es) (m : Nat) : rd1 (.callv j es m) en r = r.bind fun p => .ok p.1 := rfl
@[simp] theorem rd1_isE (i : Nat) (ks : List Nat) (ts : List Te) : rd1 (.isE i ks ts) en r = r.bind fun p => .ok p.1 := rfl
@[simp] theorem rd1_isN (i : Nat) (g : Bool) : rd1 (.isN i g) en r = r.bind fun p => .ok p.1 := rfl
@[simp] theorem rd1_isi (a : E) (ts : List Ty) : rd1 (.isi a ts) en r = r.bind fun p => .ok p.1 := rfl
@[simp] theorem rd1_cmp (elt : E) (tg : Tg) (it : It) (ifs : Eo) (own : List (Str × Nat)) : rd1 (.cmp elt tg it ifs own) en r = r.bind fun p => .ok p.1 := rfl
@[simp] theorem rd1_peek (i : Nat) : rd1 (.peek i) en r = (match en[i]? with
    | some (.ow ds) => .ok (.list ds)
    | some (.rd ds) => .ok (.list ds)
    | _ => .no) := rfl
@[simp] theorem arg1_var (i : Nat) : arg1 (.var i) en r = r.bind fun p => .ok (.va p.1) := rfl
@[simp] theorem arg1_con (d : D) : arg1 (.con d) en r = r.bind fun p => .ok (.va p.1) := rfl
@[simp] theorem arg1_glb (d : Nat) : arg1 (.glb d) en r = r.bind fun p => .ok (.va p.1) := rfl
@[simp] theorem arg1_tup (d : Es) : arg1 (.tup d) en r = r.bind fun p => .ok (.va p.1) := rfl
@[simp] theorem arg1_lst (d : Es) : arg1 (.lst d) en r = r.bind fun p => .ok (.va p.1) := rfl
@[simp] theorem arg1_rep (d : Es) (n : E) : arg1 (.rep d n) en r = r.bind fun p => .ok (.va p.1) := rfl
@[simp] theorem arg1_op1 (o : O1) (a : E) : arg1 (.op1 o a) en r = r.bind fun p => .ok (.va p.1) := rfl
@[simp] theorem arg1_op2 (o : O2) (a b : E) : arg1 (.op2 o a b) en r = r.bind fun p => .ok (.va p.1) := rfl
@[simp] theorem arg1_chn (o p : O2) (a b z : E) : arg1 (.chn o p a b z) en r = r.bind fun p => .ok (.va p.1) := rfl
@[simp] theorem arg1_and (a b : E) : arg1 (.and a b) en r = r.bind fun p => .ok (.va p.1) := rfl
@[simp] theorem arg1_or (a b : E) : arg1 (.or a b) en r = r.bind fun p => .ok (.va p.1) := rfl
@[simp] theorem arg1_not (a : E) : arg1 (.not a) en r = r.bind fun p => .ok (.va p.1) := rfl
@[simp] theorem arg1_ife (t a b : E) : arg1 (.ife t a b) en r = r.bind fun p => .ok (.va p.1) := rfl
@[simp] theorem arg1_slc (a : E) (lo hi : Eo) : arg1 (.slc a lo hi) en r = r.bind fun p => .ok (.va p.1) := rfl
@[simp] theorem arg1_revs (a : E) : arg1 (.revs a) en r = r.bind fun p => .ok (.va p.1) := rfl
@[simp] theorem arg1_repE (a n : E) : arg1 (.repE a n) en r = r.bind fun p => .ok (.va p.1) := rfl
@[simp] theorem arg1_call (j : Nat) (es : Es) (m : Nat) : arg1 (.call j es m) en r = r.bind fun p => .ok (.va p.1) := rfl
@[simp] theorem arg1_callv (j : Nat) (es : Es) (m : Nat) : arg1 (.callv j es m) en r = r.bind fun p => .ok (.va p.1) := rfl
@[simp] theorem arg1_isE (i : Nat) (ks : List Nat) (ts : List Te) : arg1 (.isE i ks ts) en r = r.bind fun p => .ok (.va p.1) := rfl
@[simp] theorem arg1_isN (i : Nat) (g : Bool) : arg1 (.isN i g) en r = r.bind fun p => .ok (.va p.1) := rfl
@[simp] theorem arg1_erv (i : Nat) : arg1 (.erv i) en r = (match en[i]? with
    | some (.er c) => .ok (.er c)
    | some (.va .none) => .ok (.va .none)
    | _ => .no) := rfl
@[simp] theorem arg1_isi (a : E) (ts : List Ty) : arg1 (.isi a ts) en r = r.bind fun p => .ok (.va p.1) := rfl
@[simp] theorem arg1_cmp (elt : E) (tg : Tg) (it : It) (ifs : Eo) (own : List (Str × Nat)) : arg1 (.cmp elt tg it ifs own) en r = r.bind fun p => .ok (.va p.1) := rfl
@[simp] theorem arg1_peek (i : Nat) : arg1 (.peek i) en r = (match en[i]? with
    | some (.ow ds) => .ok (.rd ds)
    | some (.rd ds) => .ok (.rd ds)
    | _ => .no) := rfl
/-! statements -/
@[simp] theorem ess_nil : evSs G c dfl .nil en = .ok (.nx en) := rfl
@[simp] theorem ess_cons (s : S) (r : Ss) : evSs G c dfl (.cons s r) en = (evS G c dfl s en).bind fun fl => (match fl with
    | .nx e => evSs G c dfl r e
    | fl => .ok fl) := rfl
@[simp] theorem es_pass : evS G c dfl .pass en = .ok (.nx en) := rfl
@[simp] theorem es_asg (tg : Tg) (e : E) : evS G c dfl (.asg tg e) en = lf en (evF G c dfl e en) fun x => (bindT tg x.1 en).bind fun en' => .ok (.nx en') := rfl
@[simp] theorem es_asgO (i : Nat) (e : E) : evS G c dfl (.asgO i e) en = lf en (evF G c dfl e en) fun x => (match x with
    | (.list ds, true) => .ok (.nx (en.set i (.ow ds)))
    | _ => .no) := rfl
@[simp] theorem es_asgC (i : Nat) (o : Bool) (e : E) : evS G c dfl (.asgC i o e) en = lf en (evF G c dfl e en) fun x => (match x with
    | (.list ds, true) => .ok (.nx (en.set i (if o then .ow ds else .va (.list ds))))
    | _ => .no) := rfl
@[simp] theorem es_par (is : List Nat) (es : Es) : evS G c dfl (.par is es) en = lf en (evs G c dfl es en) fun ds => if ds.length = is.length then .ok (.nx ((is.zip ds).foldl (fun e p => e.set p.1 (.va p.2)) en)) else .no := rfl
@[simp] theorem es_setI (i : Nat) (k e : E) : evS G c dfl (.setI i k e) en = lf en (evF G c dfl e en) fun x => (match en[i]? with
    | some (.ow ds) => lf en (evF G c dfl k en) fun kv => (intR kv.1).bind fun j => (setD ds j x.1).bind fun ds' => .ok (.nx (en.set i (.ow ds')))
    | _ => .no) := rfl
@[simp] theorem es_aug (i : Nat) (o : O2) (e : E) : evS G c dfl (.aug i o e) en = (match en[i]? with
    | some (.va (.int d)) => lf en (evF G c dfl e en) fun x => (sem2 o (.int d) x.1).bind fun z => .ok (.nx (en.set i (.va z.1)))
    | some (.va (.str d)) => lf en (evF G c dfl e en) fun x => (sem2 o (.str d) x.1).bind fun z => .ok (.nx (en.set i (.va z.1)))
    | some (.ow ds) => lf en (evF G c dfl e en) fun x => (extL o ds x).bind fun ds' => .ok (.nx (en.set i (.ow ds')))
    | _ => .no) := rfl
@[simp] theorem es_app (i : Nat) (e : E) : evS G c dfl (.app i e) en = (match en[i]? with
    | some (.ow ds) => lf en (evF G c dfl e en) fun x => if ds.length < line then .ok (.nx (en.set i (.ow (ds ++ [x.1])))) else .no
    | _ => .no) := rfl
@[simp] theorem es_pop (i : Nat) : evS G c dfl (.pop i) en = (match en[i]? with
    | some (.ow ds) => if ds = [] then .no else .ok (.nx (en.set i (.ow ds.dropLast)))
    | _ => .no) := rfl
@[simp] theorem es_popA (tg : Tg) (i : Nat) : evS G c dfl (.popA tg i) en = (match en[i]? with
    | some (.ow ds) => (match ds.getLast? with
      | some d => (bindT tg d (en.set i (.ow ds.dropLast))).bind fun en' => .ok (.nx en')
      | none => .no)
    | _ => .no) := rfl
@[simp] theorem es_rvs (i : Nat) : evS G c dfl (.rvs i) en = (match en[i]? with
    | some (.ow ds) => .ok (.nx (en.set i (.ow ds.reverse)))
    | _ => .no) := rfl
@[simp] theorem es_frz (i : Nat) : evS G c dfl (.frz i) en = (match en[i]? with
    | some (.ow ds) => .ok (.nx (en.set i (.va (.list ds))))
    | _ => .no) := rfl
@[simp] theorem es_ite (t : E) (a b : Ss) : evS G c dfl (.ite t a b) en = lf en (evT G c dfl t en) fun k => if k then evSs G c dfl a en else evSs G c dfl b en := rfl
theorem es_whl (t : E) (b : Ss) : evS G c dfl (.whl t b) en = whileR (evT G c dfl t) (evSs G c dfl b) en := rfl
theorem es_for (tg : Tg) (it : It) (b : Ss) : evS G c dfl (.for_ tg it b) en = lf en (evI G c dfl it en) fun ds => forR (bindT tg) (evSs G c dfl b) ds en := rfl
@[simp] theorem es_ret (e : E) : evS G c dfl (.ret e) en = lf en (evF G c dfl e en) fun x => .ok (.rt x.1 x.2) := rfl
@[simp] theorem es_retO (i : Nat) : evS G c dfl (.retO i) en = (match en[i]? with
    | some (.ow ds) => .ok (.rt (.list ds) true)
    | _ => .no) := rfl
@[simp] theorem es_retN : evS G c dfl .retN en = .ok (.rt .none false) := rfl
@[simp] theorem es_brk : evS G c dfl .brk en = .ok (.bk en) := rfl
@[simp] theorem es_cnt : evS G c dfl .cnt en = .ok (.ct en) := rfl
@[simp] theorem es_rai (k : Nat) : evS G c dfl (.rai k) en = .ok (.ex k en) := rfl
@[simp] theorem es_try (h i : Nat) (ks : List Nat) (b : Ss) : evS G c dfl (.tryA h i ks b) en = (evSs G c dfl b en).bind fun fl => (match fl with
    | .ex c e => if ks.contains c then .ok (.nx ((e.set h .un).set i (.er c))) else .no
    | fl => .ok fl) := rfl
@[simp] theorem es_exp (e : E) : evS G c dfl (.exp e) en = lf en (evF G c dfl e en) fun _ => .ok (.nx en) := rfl
end
@[simp] theorem bindT_nm (i : Nat) (d : D) (en : En) : bindT (.nm i) d en = .ok (en.set i (.va d)) := rfl
@[simp] theorem bindT_tpt (ts : Tgs) (ds : List D) (en : En) : bindT (.tp ts) (.tuple ds) en = bindTs ts ds en := rfl
@[simp] theorem bindT_tpl (ts : Tgs) (ds : List D) (en : En) : bindT (.tp ts) (.list ds) en = bindTs ts ds en := rfl
@[simp] theorem bindTs_nil (en : En) : bindTs .nil [] en = .ok en := rfl
@[simp] theorem bindTs_cons (t : Tg) (r : Tgs) (d : D) (ds : List D) (en : En) : bindTs (.cons t r) (d :: ds) en = (bindT t d en).bind fun en' => bindTs r ds en' := rfl
@[simp] theorem v1_bind {α : Type} (d : D) (f : D × Bool → R α) : (v1 d).bind f = f (d, false) := rfl
@[simp] theorem lf_v1 (en : En) (d : D) (f : D × Bool → R Fl) : lf en (v1 d) f = f (d, false) := rfl
@[simp] theorem v1_nox (d : D) : (v1 d).nox = v1 d := rfl
@[simp] theorem intR_int (i : Int) : intR (.int i) = .ok i := rfl
@[simp] theorem seqR_list (xs : List D) : seqR (.list xs) = .ok xs := rfl
@[simp] theorem seqR_tuple (xs : List D) : seqR (.tuple xs) = .ok xs := rfl
@[simp] theorem truR_bool (b : Bool) : truR (.bool b) = .ok b := rfl
@[simp] theorem truR_int (i : Int) : truR (.int i) = .ok (i != 0) := rfl
@[simp] theorem truR_none : truR .none = .ok false := rfl
@[simp] theorem truR_list (xs : List D) : truR (.list xs) = .ok (!xs.isEmpty) := rfl
@[simp] theorem truR_tuple (xs : List D) : truR (.tuple xs) = .ok (!xs.isEmpty) := rfl
@[simp] theorem s1_neg (i : Int) : sem1 .neg (.int i) = v1 (.int (-i)) := rfl
theorem s1_abs0 (i : Int) : sem1 .abs (.int i) = v1 (.int (if i < 0 then -i else i)) := rfl
@[simp] theorem s1_abs (i : Int) : sem1 .abs (.int i) = v1 (.int (i.natAbs : Int)) := by
  rw [s1_abs0]
  by_cases h : i < 0
  · rw [if_pos h, show -i = (i.natAbs : Int) by omega]
  · rw [if_neg h, show (i.natAbs : Int) = i by omega]
@[simp] theorem s1_lenl (xs : List D) : sem1 .len (.list xs) = v1 (.int xs.length) := rfl
@[simp] theorem s1_lent (xs : List D) : sem1 .len (.tuple xs) = v1 (.int xs.length) := rfl
@[simp] theorem s1_listl (xs : List D) : sem1 .list (.list xs) = .ok (.list xs, true) := rfl
@[simp] theorem s1_listt (xs : List D) : sem1 .list (.tuple xs) = .ok (.list xs, true) := rfl
@[simp] theorem s1_tuplel (xs : List D) : sem1 .tuple (.list xs) = v1 (.tuple xs) := rfl
@[simp] theorem s1_tuplet (xs : List D) : sem1 .tuple (.tuple xs) = v1 (.tuple xs) := rfl
@[simp] theorem s1_intB (b : Bool) : sem1 .intB (.bool b) = v1 (.int (if b then 1 else 0)) := rfl
@[simp] theorem s1_intI (i : Int) : sem1 .intB (.int i) = v1 (.int i) := rfl
@[simp] theorem asV_nil : asV [] = [] := rfl
@[simp] theorem asV_rd (ds : List D) (ss : List Sl) : asV (.rd ds :: ss) = .va (.list ds) :: asV ss := rfl
@[simp] theorem asV_va (d : D) (ss : List Sl) : asV (.va d :: ss) = .va d :: asV ss := rfl
@[simp] theorem noL_b (b : Bool) : noL (.bool b) = true := rfl
@[simp] theorem noL_i (i : Int) : noL (.int i) = true := rfl
@[simp] theorem noL_n : noL .none = true := rfl
@[simp] theorem noL_s (x : Str) : noL (.str x) = true := rfl
@[simp] theorem noL_t (xs : List D) : noL (.tuple xs) = noLs xs := rfl
@[simp] theorem noLs_n : noLs [] = true := rfl
@[simp] theorem noLs_c (d : D) (ds : List D) : noLs (d :: ds) = (noL d && noLs ds) := rfl
@[simp] theorem semRev_l (xs : List D) : semRev (.list xs) = .ok (.list xs.reverse, true) := rfl
@[simp] theorem semRev_t (xs : List D) : semRev (.tuple xs) = v1 (.tuple xs.reverse) := rfl
@[simp] theorem semRep_l (ds : List D) (k : Int) : semRep (.list ds, true) k = if -1000000 ≤ k ∧ k ≤ 1000000 ∧ ds.length * k.toNat ≤ line then .ok (.list (List.replicate k.toNat ds).flatten, true) else .no := rfl
@[simp] theorem s2_mult (xs : List D) (n : Int) : sem2 .mul (.tuple xs) (.int n) = if -1000000 ≤ n ∧ n ≤ 1000000 ∧ xs.length * n.toNat ≤ line then v1 (.tuple (List.replicate n.toNat xs).flatten) else .no := rfl
@[simp] theorem s1_all (xs : List D) : sem1 .all (.list xs) = (allB xs).bind fun b => v1 (.bool b) := rfl
@[simp] theorem s2_addi (i j : Int) : sem2 .add (.int i) (.int j) = v1 (.int (i + j)) := rfl
@[simp] theorem s2_addl (xs ys : List D) : sem2 .add (.list xs) (.list ys) = if xs.length + ys.length ≤ line then .ok (.list (xs ++ ys), true) else .no := rfl
@[simp] theorem s2_addt (xs ys : List D) : sem2 .add (.tuple xs) (.tuple ys) = if xs.length + ys.length ≤ line then v1 (.tuple (xs ++ ys)) else .no := rfl
@[simp] theorem s2_sub (i j : Int) : sem2 .sub (.int i) (.int j) = v1 (.int (i - j)) := rfl
@[simp] theorem s2_mul (i j : Int) : sem2 .mul (.int i) (.int j) = if mulOk i j then v1 (.int (i * j)) else .no := rfl
@[simp] theorem s2_fdiv (i j : Int) : sem2 .fdiv (.int i) (.int j) = if j = 0 then .no else v1 (.int (i.fdiv j)) := rfl
@[simp] theorem s2_mod (i j : Int) : sem2 .mod (.int i) (.int j) = if j = 0 then .no else v1 (.int (i.fmod j)) := rfl
@[simp] theorem s2_pow (i j : Int) : sem2 .pow (.int i) (.int j) = if 0 ≤ j ∧ j ≤ 1000000 ∧ i.natAbs < 2 ^ 64 then v1 (.int (i ^ j.toNat)) else .no := rfl
@[simp] theorem s2_lt (i j : Int) : sem2 .lt (.int i) (.int j) = v1 (.bool (decide (i < j))) := rfl
@[simp] theorem s2_le (i j : Int) : sem2 .le (.int i) (.int j) = v1 (.bool (decide (i ≤ j))) := rfl
@[simp] theorem s2_gt (i j : Int) : sem2 .gt (.int i) (.int j) = v1 (.bool (decide (j < i))) := rfl
@[simp] theorem s2_ge (i j : Int) : sem2 .ge (.int i) (.int j) = v1 (.bool (decide (j ≤ i))) := rfl
@[simp] theorem s2_idxl (xs : List D) (i : Int) : sem2 .idx (.list xs) (.int i) = atD xs i := rfl
@[simp] theorem s2_idxt (xs : List D) (i : Int) : sem2 .idx (.tuple xs) (.int i) = atD xs i := rfl
@[simp] theorem s2_max (i j : Int) : sem2 .max2 (.int i) (.int j) = v1 (.int (max i j)) := by
  show v1 (.int (if j > i then j else i)) = _
  rw [Int.max_def]
  split <;> split <;> first | rfl | (congr 2; omega)
@[simp] theorem s2_min (i j : Int) : sem2 .min2 (.int i) (.int j) = v1 (.int (min i j)) := by
  show v1 (.int (if j < i then j else i)) = _
  rw [Int.min_def]
  split <;> split <;> first | rfl | (congr 2; omega)
theorem s2_eq (a b : D) : sem2 .eq a b = if SeqAt.shaped a = true ∧ SeqAt.shaped b = true then v1 (.bool (a.eqv b)) else .no := by cases a <;> cases b <;> rfl
theorem s2_ne (a b : D) : sem2 .ne a b = if SeqAt.shaped a = true ∧ SeqAt.shaped b = true then v1 (.bool (!a.eqv b)) else .no := by cases a <;> cases b <;> rfl
@[simp] theorem s2_eqi (i j : Int) : sem2 .eq (.int i) (.int j) = v1 (.bool (i == j)) := by rw [s2_eq]; rfl
@[simp] theorem s2_nei (i j : Int) : sem2 .ne (.int i) (.int j) = v1 (.bool (!(i == j))) := by rw [s2_ne]; rfl
/-! equality of data -/
mutual
theorem eqv_self : ∀ d : D, d.canLay0 = true → d.eqv d = true
  | .none, _ => rfl
  | .bool b, _ => by cases b <;> rfl
  | .int i, _ => by show (i == i) = true; simp
  | .str x, _ => by show (x == x) = true; simp
  | .list xs, h => eqvAll_self xs (by simpa [PyData.canLay0] using h)
  | .tuple xs, h => eqvAll_self xs (by simpa [PyData.canLay0] using h)
  | .dict kvs, h => by simp [PyData.canLay0] at h
theorem eqvAll_self : ∀ ds : List D, PyData.canLayAll0 ds = true → PyData.eqvAll ds ds = true
  | [], _ => rfl
  | d :: ds, h => by
    have h' : d.canLay0 = true ∧ PyData.canLayAll0 ds = true := by simpa [PyData.canLayAll0] using h
    show (d.eqv d && PyData.eqvAll ds ds) = true
    rw [eqv_self d h'.1, eqvAll_self ds h'.2]
    rfl
end

/-! ### loops -/
section
variable {t : En → R Bool} {b : En → R Fl}
theorem nextFl_mono {k k' : En → R Fl} (h : ∀ e, k e ≠ .no → k' e = k e) : ∀ fl, nextFl k fl ≠ .no → nextFl k' fl = nextFl k fl
  | .nx e, z => h e z
  | .ct e, z => h e z
  | .bk e, _ => rfl
  | .rt d f, _ => rfl
  | .ex c e, _ => rfl
theorem whileN_succ : ∀ n en, whileN t b n en ≠ .no → whileN t b (n + 1) en = whileN t b n en
  | 0, en, h => absurd rfl h
  | n + 1, en, h => by
    unfold whileN at h ⊢
    cases ht : t en with
    | no => rfl
    | ex c => rfl
    | ok k =>
      rw [ht] at h
      cases k with
      | false => rfl
      | true =>
        have h : (b en).bind (nextFl (whileN t b n)) ≠ .no := h
        show (b en).bind (nextFl (whileN t b (n + 1))) = (b en).bind (nextFl (whileN t b n))
        cases hb : b en with
        | no => rfl
        | ex c => rfl
        | ok fl =>
          rw [hb] at h
          exact nextFl_mono (fun e z => whileN_succ n e z) fl h
theorem whileN_le {n m : Nat} (h : n ≤ m) {en : En} (z : whileN t b n en ≠ .no) : whileN t b m en = whileN t b n en := by
  induction h with
  | refl => rfl
  | step h ih => rw [whileN_succ _ _ (by rw [ih]; exact z), ih]
theorem whileR_of {n : Nat} {en : En} (z : whileN t b n en ≠ .no) : whileR t b en = whileN t b n en := by
  have h : ∃ n, whileN t b n en ≠ .no := ⟨n, z⟩
  unfold whileR
  rw [dif_pos h]
  have e1 := whileN_le (Nat.le_max_left h.choose n) h.choose_spec
  have e2 := whileN_le (Nat.le_max_right h.choose n) z
  rw [← e1, e2]
theorem whileR_no {en : En} (z : ∀ n, whileN t b n en = .no) : whileR t b en = .no := by
  unfold whileR
  rw [dif_neg fun ⟨n, h⟩ => h (z n)]
theorem whileR_stop {en : En} (h : t en = .ok false) : whileR t b en = .ok (.nx en) := by
  have e : whileN t b 1 en = .ok (.nx en) := by unfold whileN; rw [h]; rfl
  rw [whileR_of (n := 1) (by rw [e]; exact fun z => by cases z), e]
theorem whileR_step {en : En} (h : t en = .ok true) : whileR t b en = (b en).bind (nextFl (whileR t b)) := by
  have e : ∀ n, whileN t b (n + 1) en = (b en).bind (nextFl (whileN t b n)) := fun n => by
    conv => lhs; unfold whileN
    rw [h]
    rfl
  by_cases z : ∃ n, whileN t b n en ≠ .no
  · obtain ⟨n, z⟩ := z
    cases n with
    | zero => exact absurd rfl z
    | succ n =>
      rw [whileR_of z, e n]
      rw [e n] at z
      cases hb : b en with
      | no => rfl
      | ex c => rfl
      | ok fl =>
        rw [hb] at z
        have z : nextFl (whileN t b n) fl ≠ .no := z
        show nextFl (whileN t b n) fl = nextFl (whileR t b) fl
        exact (nextFl_mono (fun e he => whileR_of he) fl z).symm
  · have z' : ∀ n, whileN t b n en = .no := fun n => Classical.byContradiction fun q => z ⟨n, q⟩
    rw [whileR_no z']
    cases hb : b en with
    | no => rfl
    | ex c => have q := z' 1; rw [e 0, hb] at q; cases q
    | ok fl =>
      have q : ∀ n, nextFl (whileN t b n) fl = .no := fun n => by have q := z' (n + 1); rw [e n, hb] at q; exact q
      cases fl with
      | nx e1 => exact (whileR_no q).symm
      | ct e1 => exact (whileR_no q).symm
      | bk e1 => have := q 0; cases this
      | rt d f => have := q 0; cases this
      | ex c e1 => have := q 0; cases this
@[simp] theorem forR_nil {g : D → En → R En} (en : En) : forR g b [] en = .ok (.nx en) := rfl
theorem forR_cons {g : D → En → R En} (d : D) (ds : List D) (en : En) : forR g b (d :: ds) en = (g d en).bind fun e1 => (b e1).bind (nextFl (forR g b ds)) := rfl
end
/-- a comprehension whose every turn gives a value -/
theorem compL_map {f : D → R (Option D)} {g : D → D} : ∀ {ds : List D}, (∀ d ∈ ds, f d = .ok (some (g d))) → compL f ds = .ok (ds.map g)
  | [], _ => rfl
  | d :: ds, h => by
    show (f d).bind _ = _
    rw [h d List.mem_cons_self]
    show (compL f ds).bind _ = _
    rw [compL_map fun x hx => h x (List.mem_cons_of_mem _ hx)]
    rfl
/-! ### calls -/
def outF : R Fl → R (D × Bool)
  | .ok (.rt d fr) => .ok (d, fr)
  | .ok (.nx _) => .ok (.none, false)
  | .ok (.ex c _) => .ex c
  | _ => .no
@[simp] theorem outF_rt (d : D) (fr : Bool) : outF (.ok (.rt d fr)) = .ok (d, fr) := rfl
@[simp] theorem outF_nx (en : En) : outF (.ok (.nx en)) = .ok (.none, false) := rfl
@[simp] theorem outF_ex (c : Nat) (en : En) : outF (.ok (.ex c en)) = .ex c := rfl
theorem callN_lt {G : Nat → D} {T : List Fn} {j : Nat} {ss : List Sl} : ∀ {k : Nat}, j < k → callN G T k j ss = callN G T (j + 1) j ss
  | 0, h => by omega
  | k + 1, h => by
    by_cases e : j = k
    · rw [e]
    · conv => lhs; unfold callN
      rw [if_neg e]
      exact callN_lt (by omega)
theorem callN_at {G : Nat → D} {T : List Fn} {j : Nat} {f : Fn} {ss : List Sl} (h : T[j]? = some f) (hl : ss.length = f.ps.length) :
    callN G T (j + 1) j ss = outF (evSs G (callN G T j) (dflT T) f.body (ss ++ List.replicate (f.N.length - ss.length) .un)) := by
  conv => lhs; unfold callN
  rw [if_pos rfl, h]
  simp only [if_pos hl]
  rfl
end AW

/-! AwB1: bodies. -/
namespace AW
open PySem
/-- is_whole:  -/
def b_is_whole : Ss :=
  (.cons (.ret (.and (.isi (.var 0) [.bi "int"]) (.not (.isi (.var 0) [.bi "bool"])))) .nil)
/-- common_number:  -/
def b_common_number : Ss :=
  (.cons (.whl (.op2 .gt (.var 1) (.con (.int 0))) (.cons (.par [0, 1] (.cons (.var 1) (.cons (.op2 .mod (.var 0) (.var 1)) .nil))) .nil))
    (.cons (.ret (.var 0)) .nil))
/-- fraction: p0 is_whole, p1 NoFraction, p2 common_number -/
def b_fraction (p0 p1 p2 : Nat) : Ss :=
  (.cons (.ite (.or (.not (.call p0 (.cons (.var 0) .nil) 0)) (.or (.not (.call p0 (.cons (.var 1) .nil) 0)) (.op2 .eq (.var 1) (.con (.int 0))))) (.cons (.rai p1) .nil) (.nil))
    (.cons (.asg (.nm 2) (.call p2 (.cons (.op1 .abs (.var 0)) (.cons (.op1 .abs (.var 1)) .nil)) 0))
    (.cons (.ite (.op2 .lt (.var 1) (.con (.int 0))) (.cons (.asg (.nm 2) (.op1 .neg (.var 2))) .nil) (.nil))
    (.cons (.ret (.tup (.cons (.op2 .fdiv (.var 0) (.var 2)) (.cons (.op2 .fdiv (.var 1) (.var 2)) .nil)))) .nil))))
/-- plus: p0 fraction -/
def b_plus (p0 : Nat) : Ss :=
  (.cons (.ret (.call p0 (.cons (.op2 .add (.op2 .mul (.op2 .idx (.var 0) (.con (.int 0))) (.op2 .idx (.var 1) (.con (.int 1)))) (.op2 .mul (.op2 .idx (.var 1) (.con (.int 0))) (.op2 .idx (.var 0) (.con (.int 1))))) (.cons (.op2 .mul (.op2 .idx (.var 0) (.con (.int 1))) (.op2 .idx (.var 1) (.con (.int 1)))) .nil)) 0)) .nil)
/-- trimmed: p0 NOUGHT -/
def b_trimmed (p0 : Nat) : Ss :=
  (.cons (.asg (.nm 1) (.op1 .len (.var 0)))
    (.cons (.whl (.and (.op2 .gt (.var 1) (.con (.int 0))) (.op2 .eq (.op2 .idx (.var 0) (.op2 .sub (.var 1) (.con (.int 1)))) (.glb p0))) (.cons (.aug 1 .sub (.con (.int 1))) .nil))
    (.cons (.ret (.op1 .tuple (.slc (.var 0) .none (.some (.var 1))))) .nil)))
/-- poly_sum: p0 NOUGHT, p1 trimmed, p2 plus -/
def b_poly_sum [Nm] (p0 p1 p2 : Nat) : Ss :=
  (.cons (.asg (.nm 2) (.op2 .max2 (.op1 .len (.var 0)) (.op1 .len (.var 1))))
    (.cons (.asg (.nm 3) (.op2 .add (.op1 .list (.var 0)) (.rep (.cons (.glb p0) .nil) (.op2 .sub (.var 2) (.op1 .len (.var 0))))))
    (.cons (.asg (.nm 4) (.op2 .add (.op1 .list (.var 1)) (.rep (.cons (.glb p0) .nil) (.op2 .sub (.var 2) (.op1 .len (.var 1))))))
    (.cons (.ret (.call p1 (.cons (.cmp (.call p2 (.cons (.var 5) (.cons (.var 6) .nil)) 0) (.tp (.cons (.nm 5) (.cons (.nm 6) .nil))) (.zip (.var 3) (.var 4)) .none [(Nm.n 5, 5), (Nm.n 6, 6)]) .nil) 0)) .nil))))
/-- by: p0 fraction -/
def b_by (p0 : Nat) : Ss :=
  (.cons (.ret (.call p0 (.cons (.op2 .mul (.op2 .idx (.var 0) (.con (.int 0))) (.op2 .idx (.var 1) (.con (.int 0)))) (.cons (.op2 .mul (.op2 .idx (.var 0) (.con (.int 1))) (.op2 .idx (.var 1) (.con (.int 1)))) .nil)) 0)) .nil)
/-- poly_product: p0 NOUGHT, p1 plus, p2 by, p3 trimmed -/
def b_poly_product (p0 p1 p2 p3 : Nat) : Ss :=
  (.cons (.asgO 2 (.rep (.cons (.glb p0) .nil) (.op2 .max2 (.con (.int 0)) (.op2 .sub (.op2 .add (.op1 .len (.var 0)) (.op1 .len (.var 1))) (.con (.int 1))))))
    (.cons (.for_ (.tp (.cons (.nm 3) (.cons (.nm 4) .nil))) (.enum (.var 0)) (.cons (.for_ (.tp (.cons (.nm 5) (.cons (.nm 6) .nil))) (.enum (.var 1)) (.cons (.setI 2 (.op2 .add (.var 3) (.var 5)) (.call p1 (.cons (.op2 .idx (.peek 2) (.op2 .add (.var 3) (.var 5))) (.cons (.call p2 (.cons (.var 4) (.cons (.var 6) .nil)) 0) .nil)) 0)) .nil)) .nil))
    (.cons (.frz 2)
    (.cons (.ret (.call p3 (.cons (.var 2) .nil) 0)) .nil))))
/-- _law_mixed:  -/
def b_law_mixed : Ss :=
  (.cons (.asg (.nm 2) (.op2 .mod (.op2 .mul (.op2 .add (.var 0) (.op2 .mul (.con (.int 7919)) (.var 1))) (.con (.int 48271))) (.con (.int 2147483647))))
    (.cons (.ret (.op2 .mod (.op2 .mul (.var 2) (.op2 .add (.op2 .add (.var 2) (.op2 .mul (.con (.int 2)) (.var 1))) (.con (.int 1)))) (.con (.int 2147483629)))) .nil))
/-- _law_low:  -/
def b_law_low : Ss :=
  (.cons (.par [2, 3] (.cons (.op1 .abs (.var 0)) (.cons (.op1 .abs (.var 1)) .nil)))
    (.cons (.whl (.op2 .gt (.var 3) (.con (.int 0))) (.cons (.par [2, 3] (.cons (.var 3) (.cons (.op2 .mod (.var 2) (.var 3)) .nil))) .nil))
    (.cons (.ite (.op2 .lt (.var 1) (.con (.int 0))) (.cons (.asg (.nm 2) (.op1 .neg (.var 2))) .nil) (.nil))
    (.cons (.ret (.tup (.cons (.op2 .fdiv (.var 0) (.var 2)) (.cons (.op2 .fdiv (.var 1) (.var 2)) .nil)))) .nil))))
/-- _law_part: p0 _law_mixed, p1 _law_low -/
def b_law_part (p0 p1 : Nat) : Ss :=
  (.cons (.asg (.nm 1) (.op2 .mul (.op2 .mul (.call p0 (.cons (.var 0) (.cons (.con (.int 91)) .nil)) 0) (.call p0 (.cons (.var 0) (.cons (.con (.int 92)) .nil)) 0)) (.op2 .add (.var 0) (.con (.int 1)))))
    (.cons (.asg (.nm 2) (.op2 .idx (.lst (.cons (.op2 .sub (.op2 .mod (.op2 .fdiv (.var 0) (.con (.int 8))) (.con (.int 19))) (.con (.int 9))) (.cons (.op2 .sub (.op2 .mod (.op2 .fdiv (.var 0) (.con (.int 8))) (.con (.int 5))) (.con (.int 2))) (.cons (.op2 .sub (.op2 .mod (.op2 .fdiv (.var 0) (.con (.int 8))) (.con (.int 19))) (.con (.int 9))) (.cons (.var 1) (.cons (.con (.int 0)) (.cons (.op2 .sub (.op2 .mod (.op2 .fdiv (.var 0) (.con (.int 8))) (.con (.int 199))) (.con (.int 99))) (.cons (.con (.int 1)) (.cons (.op1 .neg (.var 1)) .nil))))))))) (.op2 .mod (.var 0) (.con (.int 8)))))
    (.cons (.asg (.nm 3) (.op2 .idx (.lst (.cons (.con (.int 1)) (.cons (.con (.int 1)) (.cons (.op2 .add (.con (.int 1)) (.op2 .mod (.op2 .fdiv (.var 0) (.con (.int 152))) (.con (.int 3)))) (.cons (.op2 .add (.con (.int 1)) (.op2 .mod (.op2 .fdiv (.var 0) (.con (.int 152))) (.con (.int 9)))) (.cons (.op2 .add (.con (.int 1)) (.op2 .mod (.var 1) (.op2 .pow (.con (.int 10)) (.con (.int 9))))) .nil)))))) (.op2 .mod (.op2 .fdiv (.var 0) (.con (.int 2000))) (.con (.int 5)))))
    (.cons (.ret (.call p1 (.cons (.var 2) (.cons (.var 3) .nil)) 0)) .nil))))
/-- _law_short:  -/
def b_law_short : Ss :=
  (.cons (.asgO 0 (.op1 .list (.var 0)))
    (.cons (.whl (.and (.op2 .ne (.peek 0) (.lst .nil)) (.op2 .eq (.op2 .idx (.peek 0) (.op1 .neg (.con (.int 1)))) (.tup (.cons (.con (.int 0)) (.cons (.con (.int 1)) .nil))))) (.cons (.pop 0) .nil))
    (.cons (.frz 0)
    (.cons (.ret (.op1 .tuple (.var 0))) .nil))))
/-- _law_drawn: p0 _law_mixed, p1 _law_short, p2 _law_part -/
def b_law_drawn [Nm] (p0 p1 p2 : Nat) : Ss :=
  (.cons (.asg (.nm 2) (.op2 .mod (.op2 .fdiv (.call p0 (.cons (.var 0) (.cons (.con (.int 1)) .nil)) 0) (.con (.int 3))) (.op2 .add (.var 1) (.con (.int 2)))))
    (.cons (.ret (.call p1 (.cons (.cmp (.call p2 (.cons (.call p0 (.cons (.var 0) (.cons (.op2 .add (.con (.int 10)) (.var 3)) .nil)) 0) .nil) 0) (.nm 3) (.rng1 (.var 2)) .none [(Nm.n 3, 3)]) .nil) 0)) .nil))
/-- scaled: p0 trimmed, p1 by -/
def b_scaled [Nm] (p0 p1 : Nat) : Ss :=
  (.cons (.ret (.call p0 (.cons (.cmp (.call p1 (.cons (.var 1) (.cons (.var 2) .nil)) 0) (.nm 2) (.seq (.var 0)) .none [(Nm.n 2, 2)]) .nil) 0)) .nil)
/-- poly_slope: p0 trimmed, p1 by, p2 fraction -/
def b_poly_slope [Nm] (p0 p1 p2 : Nat) : Ss :=
  (.cons (.ret (.call p0 (.cons (.cmp (.call p1 (.cons (.call p2 (.cons (.op2 .add (.var 1) (.con (.int 1))) .nil) 1) (.cons (.var 2) .nil)) 0) (.tp (.cons (.nm 1) (.cons (.nm 2) .nil))) (.enum (.slc (.var 0) (.some (.con (.int 1))) .none)) .none [(Nm.n 1, 1), (Nm.n 2, 2)]) .nil) 0)) .nil)
/-- poly_put_in: p0 poly_sum, p1 poly_product, p2 trimmed -/
def b_poly_put_in (p0 p1 p2 : Nat) : Ss :=
  (.cons (.asg (.nm 2) (.tup .nil))
    (.cons (.for_ (.nm 3) (.rev (.var 0)) (.cons (.asg (.nm 2) (.call p0 (.cons (.call p1 (.cons (.var 2) (.cons (.var 1) .nil)) 0) (.cons (.call p2 (.cons (.lst (.cons (.var 3) .nil)) .nil) 0) .nil)) 0)) .nil))
    (.cons (.ret (.var 2)) .nil)))
/-- _law_added: p0 _law_short, p1 _law_sum -/
def b_law_added [Nm] (p0 p1 : Nat) : Ss :=
  (.cons (.asg (.nm 2) (.op2 .max2 (.op1 .len (.var 0)) (.op1 .len (.var 1))))
    (.cons (.asg (.nm 3) (.op2 .add (.op1 .list (.var 0)) (.rep (.cons (.tup (.cons (.con (.int 0)) (.cons (.con (.int 1)) .nil))) .nil) (.op2 .sub (.var 2) (.op1 .len (.var 0))))))
    (.cons (.asg (.nm 4) (.op2 .add (.op1 .list (.var 1)) (.rep (.cons (.tup (.cons (.con (.int 0)) (.cons (.con (.int 1)) .nil))) .nil) (.op2 .sub (.var 2) (.op1 .len (.var 1))))))
    (.cons (.ret (.call p0 (.cons (.cmp (.call p1 (.cons (.var 5) (.cons (.var 6) .nil)) 0) (.tp (.cons (.nm 5) (.cons (.nm 6) .nil))) (.zip (.var 3) (.var 4)) .none [(Nm.n 5, 5), (Nm.n 6, 6)]) .nil) 0)) .nil))))
/-- _law_multiplied: p0 _law_times, p1 _law_added, p2 _law_short -/
def b_law_multiplied [Nm] (p0 p1 p2 : Nat) : Ss :=
  (.cons (.asg (.nm 2) (.tup .nil))
    (.cons (.for_ (.tp (.cons (.nm 3) (.cons (.nm 4) .nil))) (.enum (.var 1)) (.cons (.asg (.nm 5) (.op2 .add (.rep (.cons (.tup (.cons (.con (.int 0)) (.cons (.con (.int 1)) .nil))) .nil) (.var 3)) (.cmp (.call p0 (.cons (.var 4) (.cons (.var 6) .nil)) 0) (.nm 6) (.seq (.var 0)) .none [(Nm.n 6, 6)])))
    (.cons (.asg (.nm 2) (.call p1 (.cons (.var 2) (.cons (.call p2 (.cons (.var 5) .nil) 0) .nil)) 0)) .nil)))
    (.cons (.ret (.var 2)) .nil)))
/-- _law_sloped: p0 _law_short, p1 _law_times -/
def b_law_sloped [Nm] (p0 p1 : Nat) : Ss :=
  (.cons (.ret (.call p0 (.cons (.slc (.cmp (.call p1 (.cons (.tup (.cons (.var 1) (.cons (.con (.int 1)) .nil))) (.cons (.var 2) .nil)) 0) (.tp (.cons (.nm 1) (.cons (.nm 2) .nil))) (.enum (.var 0)) .none [(Nm.n 1, 1), (Nm.n 2, 2)]) (.some (.con (.int 1))) .none) .nil) 0)) .nil)
/-- _law_inside: p0 _law_added, p1 _law_multiplied, p2 _law_short -/
def b_law_inside (p0 p1 p2 : Nat) : Ss :=
  (.cons (.asg (.nm 2) (.tup .nil))
    (.cons (.asg (.nm 3) (.tup (.cons (.tup (.cons (.con (.int 1)) (.cons (.con (.int 1)) .nil))) .nil)))
    (.cons (.for_ (.nm 4) (.seq (.var 0)) (.cons (.asg (.nm 2) (.call p0 (.cons (.var 2) (.cons (.call p1 (.cons (.var 3) (.cons (.call p2 (.cons (.lst (.cons (.var 4) .nil)) .nil) 0) .nil)) 0) .nil)) 0))
    (.cons (.asg (.nm 3) (.call p1 (.cons (.var 3) (.cons (.var 1) .nil)) 0)) .nil)))
    (.cons (.ret (.var 2)) .nil))))
/-- _law_told_right: p0 poly_sum, p1 _law_added, p2 poly_product, p3 _law_multiplied, p4 scaled, p5 _law_short, p6 poly_slope, p7 _law_sloped, p8 poly_put_in, p9 _law_inside -/
def b_law_told_right (p0 p1 p2 p3 p4 p5 p6 p7 p8 p9 : Nat) : Ss :=
  (.cons (.ite (.or (.op2 .ne (.call p0 (.cons (.var 0) (.cons (.var 1) .nil)) 0) (.call p1 (.cons (.var 0) (.cons (.var 1) .nil)) 0)) (.op2 .ne (.call p2 (.cons (.var 0) (.cons (.var 1) .nil)) 0) (.call p3 (.cons (.var 0) (.cons (.var 1) .nil)) 0))) (.cons (.ret (.con (.bool false))) .nil) (.nil))
    (.cons (.ite (.or (.op2 .ne (.call p4 (.cons (.var 0) (.cons (.var 3) .nil)) 0) (.call p3 (.cons (.var 0) (.cons (.call p5 (.cons (.lst (.cons (.var 3) .nil)) .nil) 0) .nil)) 0)) (.op2 .ne (.call p6 (.cons (.var 0) .nil) 0) (.call p7 (.cons (.var 0) .nil) 0))) (.cons (.ret (.con (.bool false))) .nil) (.nil))
    (.cons (.ret (.and (.op2 .eq (.call p8 (.cons (.var 2) (.cons (.var 0) .nil)) 0) (.call p9 (.cons (.var 2) (.cons (.var 0) .nil)) 0)) (.op2 .eq (.call p8 (.cons (.var 0) (.cons (.var 2) .nil)) 0) (.call p9 (.cons (.var 0) (.cons (.var 2) .nil)) 0)))) .nil)))
/-- poly_at: p0 NOUGHT, p1 plus, p2 by -/
def b_poly_at (p0 p1 p2 : Nat) : Ss :=
  (.cons (.asg (.nm 2) (.glb p0))
    (.cons (.for_ (.nm 3) (.rev (.var 0)) (.cons (.asg (.nm 2) (.call p1 (.cons (.call p2 (.cons (.var 2) (.cons (.var 1) .nil)) 0) (.cons (.var 3) .nil)) 0)) .nil))
    (.cons (.ret (.var 2)) .nil)))
/-- _law_value: p0 _law_sum, p1 _law_times -/
def b_law_value (p0 p1 : Nat) : Ss :=
  (.cons (.asg (.nm 2) (.tup (.cons (.con (.int 0)) (.cons (.con (.int 1)) .nil))))
    (.cons (.asg (.nm 3) (.tup (.cons (.con (.int 1)) (.cons (.con (.int 1)) .nil))))
    (.cons (.for_ (.nm 4) (.seq (.var 0)) (.cons (.asg (.nm 2) (.call p0 (.cons (.var 2) (.cons (.call p1 (.cons (.var 4) (.cons (.var 3) .nil)) 0) .nil)) 0))
    (.cons (.asg (.nm 3) (.call p1 (.cons (.var 3) (.cons (.var 1) .nil)) 0)) .nil)))
    (.cons (.ret (.var 2)) .nil))))
/-- _law_values_right: p0 _law_value, p1 poly_at, p2 poly_sum, p3 _law_sum, p4 poly_product, p5 _law_times, p6 poly_put_in -/
def b_law_values_right (p0 p1 p2 p3 p4 p5 p6 : Nat) : Ss :=
  (.cons (.asg (.nm 4) (.call p0 (.cons (.var 0) (.cons (.var 3) .nil)) 0))
    (.cons (.asg (.nm 5) (.call p0 (.cons (.var 1) (.cons (.var 3) .nil)) 0))
    (.cons (.ite (.or (.op2 .ne (.call p1 (.cons (.var 0) (.cons (.var 3) .nil)) 0) (.var 4)) (.op2 .ne (.call p1 (.cons (.call p2 (.cons (.var 0) (.cons (.var 1) .nil)) 0) (.cons (.var 3) .nil)) 0) (.call p3 (.cons (.var 4) (.cons (.var 5) .nil)) 0))) (.cons (.ret (.con (.bool false))) .nil) (.nil))
    (.cons (.ite (.op2 .ne (.call p1 (.cons (.call p4 (.cons (.var 0) (.cons (.var 1) .nil)) 0) (.cons (.var 3) .nil)) 0) (.call p5 (.cons (.var 4) (.cons (.var 5) .nil)) 0)) (.cons (.ret (.con (.bool false))) .nil) (.nil))
    (.cons (.ret (.op2 .eq (.call p1 (.cons (.call p6 (.cons (.var 2) (.cons (.var 0) .nil)) 0) (.cons (.var 3) .nil)) 0) (.call p0 (.cons (.var 2) (.cons (.var 4) .nil)) 0))) .nil)))))
/-- law: p0 _law_mixed, p1 _law_drawn, p2 _law_part, p3 _law_told_right, p4 _law_values_right, p5 poly_sum, p6 poly_product -/
def b_law (p0 p1 p2 p3 p4 p5 p6 : Nat) : Ss :=
  (.cons (.for_ (.tp (.cons (.nm 1) (.cons (.nm 2) .nil))) (.enum (.op2 .add (.slc (.var 0) .none (.some (.con (.int 16)))) (.lst (.cons (.con (.int 0)) (.cons (.con (.int 1)) .nil))))) (.cons (.asg (.nm 3) (.call p0 (.cons (.var 2) (.cons (.var 1) .nil)) 0))
    (.cons (.asg (.nm 4) (.call p1 (.cons (.call p0 (.cons (.var 3) (.cons (.con (.int 2)) .nil)) 0) (.cons (.con (.int 3)) .nil)) 0))
    (.cons (.asg (.nm 5) (.call p1 (.cons (.call p0 (.cons (.var 3) (.cons (.con (.int 3)) .nil)) 0) (.cons (.con (.int 3)) .nil)) 0))
    (.cons (.asg (.nm 6) (.call p1 (.cons (.call p0 (.cons (.var 3) (.cons (.con (.int 4)) .nil)) 0) (.cons (.con (.int 2)) .nil)) 0))
    (.cons (.asg (.nm 7) (.call p2 (.cons (.call p0 (.cons (.var 3) (.cons (.con (.int 5)) .nil)) 0) .nil) 0))
    (.cons (.ite (.or (.not (.call p3 (.cons (.var 4) (.cons (.var 5) (.cons (.var 6) (.cons (.var 7) .nil)))) 0)) (.not (.call p4 (.cons (.var 4) (.cons (.var 5) (.cons (.var 6) (.cons (.var 7) .nil)))) 0))) (.cons (.ret (.con (.bool false))) .nil) (.nil))
    (.cons (.ite (.or (.op2 .ne (.call p5 (.cons (.var 5) (.cons (.var 4) .nil)) 0) (.call p5 (.cons (.var 4) (.cons (.var 5) .nil)) 0)) (.op2 .ne (.call p6 (.cons (.var 5) (.cons (.var 4) .nil)) 0) (.call p6 (.cons (.var 4) (.cons (.var 5) .nil)) 0))) (.cons (.ret (.con (.bool false))) .nil) (.nil)) .nil))))))))
    (.cons (.ret (.con (.bool true))) .nil))
end AW

/-! AwB2: bodies. -/
namespace AW
open PySem
/-- turned: p0 NoFraction, p1 fraction -/
def b_turned (p0 p1 : Nat) : Ss :=
  (.cons (.ite (.op2 .eq (.op2 .idx (.var 0) (.con (.int 0))) (.con (.int 0))) (.cons (.rai p0) .nil) (.nil))
    (.cons (.ret (.call p1 (.cons (.op2 .idx (.var 0) (.con (.int 1))) (.cons (.op2 .idx (.var 0) (.con (.int 0))) .nil)) 0)) .nil))
/-- monic: p0 scaled, p1 turned -/
def b_monic (p0 p1 : Nat) : Ss :=
  (.cons (.ret (.ife (.op2 .ne (.var 0) (.tup .nil)) (.call p0 (.cons (.var 0) (.cons (.call p1 (.cons (.op2 .idx (.var 0) (.op1 .neg (.con (.int 1)))) .nil) 0) .nil)) 0) (.tup .nil))) .nil)
/-- negated:  -/
def b_negated : Ss :=
  (.cons (.ret (.tup (.cons (.op1 .neg (.op2 .idx (.var 0) (.con (.int 0)))) (.cons (.op2 .idx (.var 0) (.con (.int 1))) .nil)))) .nil)
/-- poly_parted: p0 NoPoly, p1 turned, p2 NOUGHT, p3 by, p4 plus, p5 negated, p6 trimmed -/
def b_poly_parted (p0 p1 p2 p3 p4 p5 p6 : Nat) : Ss :=
  (.cons (.ite (.op2 .eq (.var 1) (.tup .nil)) (.cons (.rai p0) .nil) (.nil))
    (.cons (.asg (.nm 2) (.call p1 (.cons (.op2 .idx (.var 1) (.op1 .neg (.con (.int 1)))) .nil) 0))
    (.cons (.asgO 3 (.op1 .list (.var 0)))
    (.cons (.asgO 4 (.rep (.cons (.glb p2) .nil) (.op2 .max2 (.con (.int 0)) (.op2 .add (.op2 .sub (.op1 .len (.var 0)) (.op1 .len (.var 1))) (.con (.int 1))))))
    (.cons (.for_ (.nm 5) (.revr (.op1 .len (.peek 4))) (.cons (.asg (.nm 6) (.call p3 (.cons (.op2 .idx (.peek 3) (.op2 .sub (.op2 .add (.var 5) (.op1 .len (.var 1))) (.con (.int 1)))) (.cons (.var 2) .nil)) 0))
    (.cons (.setI 4 (.var 5) (.var 6))
    (.cons (.for_ (.tp (.cons (.nm 7) (.cons (.nm 8) .nil))) (.enum (.var 1)) (.cons (.setI 3 (.op2 .add (.var 5) (.var 7)) (.call p4 (.cons (.op2 .idx (.peek 3) (.op2 .add (.var 5) (.var 7))) (.cons (.call p5 (.cons (.call p3 (.cons (.var 6) (.cons (.var 8) .nil)) 0) .nil) 0) .nil)) 0)) .nil)) .nil))))
    (.cons (.frz 4)
    (.cons (.frz 3)
    (.cons (.ret (.tup (.cons (.call p6 (.cons (.var 4) .nil) 0) (.cons (.call p6 (.cons (.var 3) .nil) 0) .nil)))) .nil))))))))
/-- common: p0 monic, p1 poly_parted -/
def b_common (p0 p1 : Nat) : Ss :=
  (.cons (.whl (.op2 .ne (.var 1) (.tup .nil)) (.cons (.par [0, 1] (.cons (.var 1) (.cons (.call p0 (.cons (.op2 .idx (.call p1 (.cons (.var 0) (.cons (.var 1) .nil)) 0) (.con (.int 1))) .nil) 0) .nil))) .nil))
    (.cons (.ret (.call p0 (.cons (.var 0) .nil) 0)) .nil))
/-- _law_marks: p0 _law_mixed -/
def b_law_marks [Nm] (p0 : Nat) : Ss :=
  (.cons (.asg (.nm 2) (.con (.int 1)))
    (.cons (.for_ (.tp (.cons (.nm 3) (.cons (.nm 4) .nil))) (.enum (.var 0)) (.cons (.asg (.nm 2) (.call p0 (.cons (.op2 .add (.var 2) (.var 4)) (.cons (.var 3) .nil)) 0)) .nil))
    (.cons (.ret (.cmp (.call p0 (.cons (.var 2) (.cons (.op2 .add (.con (.int 300)) (.var 3)) .nil)) 0) (.nm 3) (.rng1 (.var 1)) .none [(Nm.n 3, 3)])) .nil)))
/-- _law_monic: p0 _law_times, p1 _law_low -/
def b_law_monic [Nm] (p0 p1 : Nat) : Ss :=
  (.cons (.ite (.op2 .eq (.var 0) (.tup .nil)) (.cons (.ret (.tup .nil)) .nil) (.nil))
    (.cons (.ret (.op1 .tuple (.cmp (.call p0 (.cons (.var 1) (.cons (.call p1 (.cons (.op2 .idx (.op2 .idx (.var 0) (.op1 .neg (.con (.int 1)))) (.con (.int 1))) (.cons (.op2 .idx (.op2 .idx (.var 0) (.op1 .neg (.con (.int 1)))) (.con (.int 0))) .nil)) 0) .nil)) 0) (.nm 1) (.seq (.var 0)) .none [(Nm.n 1, 1)]))) .nil))
/-- _law_divided: p0 _law_times, p1 _law_low, p2 _law_sum, p3 _law_short -/
def b_law_divided [Nm] (p0 p1 p2 p3 : Nat) : Ss :=
  (.cons (.asg (.nm 2) (.op1 .list (.var 0)))
    (.cons (.asg (.nm 3) (.lst .nil))
    (.cons (.whl (.op2 .ge (.op1 .len (.var 2)) (.op1 .len (.var 1))) (.cons (.asg (.nm 4) (.call p0 (.cons (.op2 .idx (.var 2) (.op1 .neg (.con (.int 1)))) (.cons (.call p1 (.cons (.op2 .idx (.op2 .idx (.var 1) (.op1 .neg (.con (.int 1)))) (.con (.int 1))) (.cons (.op2 .idx (.op2 .idx (.var 1) (.op1 .neg (.con (.int 1)))) (.con (.int 0))) .nil)) 0) .nil)) 0))
    (.cons (.asg (.nm 3) (.op2 .add (.lst (.cons (.var 4) .nil)) (.var 3)))
    (.cons (.asg (.nm 5) (.op2 .sub (.op1 .len (.var 2)) (.op1 .len (.var 1))))
    (.cons (.asg (.nm 6) (.cmp (.call p0 (.cons (.tup (.cons (.op1 .neg (.op2 .idx (.var 4) (.con (.int 0)))) (.cons (.op2 .idx (.var 4) (.con (.int 1))) .nil))) (.cons (.var 7) .nil)) 0) (.nm 7) (.seq (.var 1)) .none [(Nm.n 7, 7)]))
    (.cons (.asg (.nm 2) (.slc (.cmp (.ife (.op2 .ge (.var 8) (.var 5)) (.call p2 (.cons (.var 7) (.cons (.op2 .idx (.var 6) (.op2 .sub (.var 8) (.var 5))) .nil)) 0) (.var 7)) (.tp (.cons (.nm 8) (.cons (.nm 7) .nil))) (.enum (.var 2)) .none [(Nm.n 8, 8), (Nm.n 7, 7)]) .none (.some (.op1 .neg (.con (.int 1)))))) .nil))))))
    (.cons (.ret (.tup (.cons (.call p3 (.cons (.var 3) .nil) 0) (.cons (.call p3 (.cons (.var 2) .nil) 0) .nil)))) .nil))))
/-- _law_factor: p0 _law_low -/
def b_law_factor (p0 : Nat) : Ss :=
  (.cons (.asg (.nm 1) (.lst (.cons (.call p0 (.cons (.op2 .sub (.op2 .mod (.op2 .fdiv (.var 0) (.con (.int 8))) (.con (.int 9))) (.con (.int 4))) (.cons (.op2 .add (.con (.int 1)) (.op2 .mod (.op2 .fdiv (.var 0) (.con (.int 72))) (.con (.int 2)))) .nil)) 0) (.cons (.call p0 (.cons (.op2 .sub (.op2 .mod (.op2 .fdiv (.var 0) (.con (.int 144))) (.con (.int 7))) (.con (.int 3))) (.cons (.con (.int 1)) .nil)) 0) .nil))))
    (.cons (.ret (.op2 .add (.op1 .tuple (.slc (.var 1) .none (.some (.op2 .idx (.lst (.cons (.con (.int 1)) (.cons (.con (.int 1)) (.cons (.con (.int 1)) (.cons (.con (.int 2)) (.cons (.con (.int 2)) (.cons (.con (.int 1)) (.cons (.con (.int 2)) (.cons (.con (.int 1)) .nil))))))))) (.op2 .mod (.var 0) (.con (.int 8))))))) (.tup (.cons (.tup (.cons (.con (.int 1)) (.cons (.con (.int 1)) .nil))) .nil)))) .nil))
/-- _law_product_of: p0 _law_multiplied -/
def b_law_product_of (p0 : Nat) : Ss :=
  (.cons (.asg (.nm 1) (.tup (.cons (.tup (.cons (.con (.int 1)) (.cons (.con (.int 1)) .nil))) .nil)))
    (.cons (.for_ (.nm 2) (.seq (.var 0)) (.cons (.asg (.nm 1) (.call p0 (.cons (.var 1) (.cons (.var 2) .nil)) 0)) .nil))
    (.cons (.ret (.var 1)) .nil)))
/-- _law_some:  -/
def b_law_some [Nm] : Ss :=
  (.cons (.ret (.cmp (.op2 .idx (.var 0) (.var 2)) (.nm 2) (.rng1 (.con (.int 4))) (.some (.op2 .eq (.op2 .mod (.op2 .fdiv (.var 1) (.op2 .idx (.lst (.cons (.con (.int 2)) (.cons (.con (.int 4)) (.cons (.con (.int 8)) (.cons (.con (.int 16)) .nil))))) (.var 2))) (.con (.int 2))) (.con (.int 1)))) [(Nm.n 2, 2)])) .nil)
/-- _law_two: p0 _law_factor, p1 _law_mixed, p2 _law_product_of, p3 _law_some, p4 _law_multiplied, p5 _law_low -/
def b_law_two [Nm] (p0 p1 p2 p3 p4 p5 : Nat) : Ss :=
  (.cons (.asgC 1 false (.cmp (.call p0 (.cons (.call p1 (.cons (.var 0) (.cons (.var 4) .nil)) 0) .nil) 0) (.nm 4) (.rng1 (.con (.int 4))) .none [(Nm.n 4, 4)]))
    (.cons (.asg (.nm 2) (.call p2 (.cons (.call p3 (.cons (.var 1) (.cons (.var 0) .nil)) 0) .nil) 0))
    (.cons (.asg (.nm 3) (.call p2 (.cons (.call p3 (.cons (.var 1) (.cons (.op2 .fdiv (.var 0) (.con (.int 16))) .nil)) 0) .nil) 0))
    (.cons (.asg (.nm 2) (.call p4 (.cons (.var 2) (.cons (.tup (.cons (.call p5 (.cons (.op2 .idx (.lst (.cons (.con (.int 1)) (.cons (.op1 .neg (.con (.int 2))) (.cons (.con (.int 3)) (.cons (.con (.int 5)) .nil))))) (.op2 .mod (.op2 .fdiv (.var 0) (.con (.int 512))) (.con (.int 4)))) (.cons (.op2 .add (.con (.int 1)) (.op2 .mod (.op2 .fdiv (.var 0) (.con (.int 2048))) (.con (.int 3)))) .nil)) 0) .nil)) .nil)) 0))
    (.cons (.asg (.nm 3) (.call p4 (.cons (.var 3) (.cons (.tup (.cons (.call p5 (.cons (.op2 .idx (.lst (.cons (.con (.int 1)) (.cons (.con (.int 7)) (.cons (.op1 .neg (.con (.int 1))) .nil)))) (.op2 .mod (.op2 .fdiv (.var 0) (.con (.int 6144))) (.con (.int 3)))) (.cons (.con (.int 2)) .nil)) 0) .nil)) .nil)) 0))
    (.cons (.ret (.op2 .idx (.lst (.cons (.tup (.cons (.var 2) (.cons (.var 3) .nil))) (.cons (.tup (.cons (.var 2) (.cons (.tup .nil) .nil))) (.cons (.tup (.cons (.tup .nil) (.cons (.var 3) .nil))) (.cons (.tup (.cons (.var 2) (.cons (.var 3) .nil))) (.cons (.tup (.cons (.var 2) (.cons (.var 3) .nil))) (.cons (.tup (.cons (.tup .nil) (.cons (.tup .nil) .nil))) .nil))))))) (.op2 .mod (.op2 .fdiv (.var 0) (.con (.int 18432))) (.con (.int 6))))) .nil))))))
/-- law: p0 _law_marks, p1 _law_two, p2 _law_common, p3 common, p4 _law_monic, p5 monic -/
def b_law_2 (p0 p1 p2 p3 p4 p5 : Nat) : Ss :=
  (.cons (.for_ (.nm 1) (.seq (.call p0 (.cons (.var 0) (.cons (.con (.int 6)) .nil)) 0)) (.cons (.asg (.tp (.cons (.nm 3) (.cons (.nm 4) .nil))) (.call p1 (.cons (.var 1) .nil) 0))
    (.cons (.asg (.nm 2) (.call p2 (.cons (.var 3) (.cons (.var 4) .nil)) 0))
    (.cons (.ite (.or (.op2 .ne (.call p3 (.cons (.var 3) (.cons (.var 4) .nil)) 0) (.var 2)) (.or (.op2 .ne (.call p3 (.cons (.var 4) (.cons (.var 3) .nil)) 0) (.var 2)) (.op2 .ne (.call p3 (.cons (.var 3) (.cons (.var 3) .nil)) 0) (.call p4 (.cons (.var 3) .nil) 0)))) (.cons (.ret (.con (.bool false))) .nil) (.nil))
    (.cons (.ite (.or (.op2 .ne (.call p5 (.cons (.var 3) .nil) 0) (.call p4 (.cons (.var 3) .nil) 0)) (.or (.op2 .ne (.call p5 (.cons (.var 4) .nil) 0) (.call p4 (.cons (.var 4) .nil) 0)) (.op2 .ne (.call p3 (.cons (.var 3) (.cons (.var 4) .nil)) 0) (.var 2)))) (.cons (.ret (.con (.bool false))) .nil) (.nil)) .nil)))))
    (.cons (.ret (.con (.bool true))) .nil))
/-- is_simple: p0 common, p1 poly_slope -/
def b_is_simple (p0 p1 : Nat) : Ss :=
  (.cons (.ret (.and (.op2 .ne (.var 0) (.tup .nil)) (.op2 .eq (.op1 .len (.call p0 (.cons (.var 0) (.cons (.call p1 (.cons (.var 0) .nil) 0) .nil)) 0)) (.con (.int 1))))) .nil)
/-- often_in: p0 poly_parted -/
def b_often_in (p0 : Nat) : Ss :=
  (.cons (.ret (.op2 .idx (.call p0 (.cons (.var 0) (.cons (.var 1) .nil)) 0) (.con (.int 0)))) .nil)
/-- simple_parts: p0 NoPoly, p1 monic, p2 poly_slope, p3 common, p4 often_in, p5 poly_sum, p6 scaled, p7 negated -/
def b_simple_parts (p0 p1 p2 p3 p4 p5 p6 p7 : Nat) : Ss :=
  (.cons (.ite (.op2 .eq (.var 0) (.tup .nil)) (.cons (.rai p0) .nil) (.nil))
    (.cons (.asg (.nm 0) (.call p1 (.cons (.var 0) .nil) 0))
    (.cons (.asg (.nm 1) (.call p2 (.cons (.var 0) .nil) 0))
    (.cons (.asg (.nm 2) (.call p3 (.cons (.var 0) (.cons (.var 1) .nil)) 0))
    (.cons (.asg (.nm 3) (.call p4 (.cons (.var 0) (.cons (.var 2) .nil)) 0))
    (.cons (.asg (.nm 4) (.call p5 (.cons (.call p4 (.cons (.var 1) (.cons (.var 2) .nil)) 0) (.cons (.call p6 (.cons (.call p2 (.cons (.var 3) .nil) 0) (.cons (.call p7 (.cons (.tup (.cons (.con (.int 1)) (.cons (.con (.int 1)) .nil))) .nil) 0) .nil)) 0) .nil)) 0))
    (.cons (.asgO 5 (.lst .nil))
    (.cons (.asg (.nm 6) (.con (.int 1)))
    (.cons (.whl (.op2 .gt (.op1 .len (.var 3)) (.con (.int 1))) (.cons (.asg (.nm 7) (.call p3 (.cons (.var 3) (.cons (.var 4) .nil)) 0))
    (.cons (.ite (.op2 .gt (.op1 .len (.var 7)) (.con (.int 1))) (.cons (.app 5 (.tup (.cons (.var 7) (.cons (.var 6) .nil)))) .nil) (.nil))
    (.cons (.asg (.nm 3) (.call p4 (.cons (.var 3) (.cons (.var 7) .nil)) 0))
    (.cons (.asg (.nm 4) (.call p5 (.cons (.call p4 (.cons (.var 4) (.cons (.var 7) .nil)) 0) (.cons (.call p6 (.cons (.call p2 (.cons (.var 3) .nil) 0) (.cons (.call p7 (.cons (.tup (.cons (.con (.int 1)) (.cons (.con (.int 1)) .nil))) .nil) 0) .nil)) 0) .nil)) 0))
    (.cons (.aug 6 .add (.con (.int 1))) .nil))))))
    (.cons (.retO 5) .nil))))))))))
/-- _law_built: p0 _law_factor, p1 _law_mixed, p2 _law_low, p3 _law_multiplied, p4 _law_product_of -/
def b_law_built (p0 p1 p2 p3 p4 : Nat) : Ss :=
  (.cons (.asg (.nm 1) (.lst .nil))
    (.cons (.for_ (.nm 2) (.rng1 (.op2 .mod (.var 0) (.con (.int 4)))) (.cons (.asg (.nm 4) (.call p0 (.cons (.call p1 (.cons (.var 0) (.cons (.var 2) .nil)) 0) .nil) 0))
    (.cons (.ite (.and (.op2 .gt (.var 2) (.con (.int 0))) (.op2 .eq (.op2 .mod (.op2 .fdiv (.var 0) (.con (.int 4))) (.con (.int 5))) (.con (.int 1)))) (.cons (.asg (.nm 4) (.op2 .idx (.var 1) (.con (.int 0)))) .nil) (.nil))
    (.cons (.asg (.nm 1) (.slc (.op2 .add (.var 1) (.rep (.cons (.var 4) .nil) (.op2 .idx (.lst (.cons (.con (.int 1)) (.cons (.con (.int 1)) (.cons (.con (.int 2)) (.cons (.con (.int 3)) .nil))))) (.op2 .mod (.op2 .fdiv (.call p1 (.cons (.var 0) (.cons (.op2 .add (.con (.int 20)) (.var 2)) .nil)) 0) (.con (.int 3))) (.con (.int 4)))))) .none (.some (.con (.int 5))))) .nil))))
    (.cons (.asg (.nm 3) (.call p2 (.cons (.op2 .idx (.lst (.cons (.con (.int 1)) (.cons (.op1 .neg (.con (.int 1))) (.cons (.con (.int 2)) (.cons (.op1 .neg (.con (.int 3))) (.cons (.con (.int 7)) .nil)))))) (.op2 .mod (.op2 .fdiv (.var 0) (.con (.int 20))) (.con (.int 5)))) (.cons (.op2 .add (.con (.int 1)) (.op2 .mod (.op2 .fdiv (.var 0) (.con (.int 100))) (.con (.int 4)))) .nil)) 0))
    (.cons (.ret (.call p3 (.cons (.call p4 (.cons (.var 1) .nil) 0) (.cons (.tup (.cons (.var 3) .nil)) .nil)) 0)) .nil))))
/-- _law_right: p0 _law_common, p1 _law_slope, p2 is_simple, p3 _law_multiplied, p4 _law_product_of -/
def b_law_right (p0 p1 p2 p3 p4 : Nat) : Ss :=
  (.cons (.asg (.nm 2) (.tup (.cons (.op2 .idx (.var 0) (.op1 .neg (.con (.int 1)))) .nil)))
    (.cons (.asg (.nm 3) (.con (.int 0)))
    (.cons (.for_ (.tp (.cons (.nm 5) (.cons (.nm 6) .nil))) (.seq (.var 1)) (.cons (.ite (.or (.op2 .le (.var 6) (.var 3)) (.or (.op2 .lt (.op1 .len (.var 5)) (.con (.int 2))) (.op2 .ne (.op2 .idx (.var 5) (.op1 .neg (.con (.int 1)))) (.tup (.cons (.con (.int 1)) (.cons (.con (.int 1)) .nil)))))) (.cons (.ret (.con (.bool false))) .nil) (.nil))
    (.cons (.ite (.or (.op2 .ne (.op1 .len (.call p0 (.cons (.var 5) (.cons (.call p1 (.cons (.var 5) .nil) 0) .nil)) 0)) (.con (.int 1))) (.op2 .isn (.call p2 (.cons (.var 5) .nil) 0) (.con (.bool true)))) (.cons (.ret (.con (.bool false))) .nil) (.nil))
    (.cons (.asg (.nm 3) (.var 6))
    (.cons (.asg (.nm 2) (.call p3 (.cons (.var 2) (.cons (.call p4 (.cons (.rep (.cons (.var 5) .nil) (.var 6)) .nil) 0) .nil)) 0)) .nil)))))
    (.cons (.for_ (.nm 4) (.rng1 (.op1 .len (.var 1))) (.cons (.for_ (.tp (.cons (.nm 5) (.cons (.nm 6) .nil))) (.seq (.slc (.var 1) .none (.some (.var 4)))) (.cons (.ite (.op2 .ne (.op1 .len (.call p0 (.cons (.var 5) (.cons (.op2 .idx (.op2 .idx (.var 1) (.var 4)) (.con (.int 0))) .nil)) 0)) (.con (.int 1))) (.cons (.ret (.con (.bool false))) .nil) (.nil)) .nil)) .nil))
    (.cons (.ret (.op2 .eq (.var 2) (.var 0))) .nil)))))
/-- law: p0 _law_marks, p1 _law_built, p2 simple_parts, p3 _law_right, p4 _law_common, p5 _law_slope, p6 is_simple -/
def b_law_3 (p0 p1 p2 p3 p4 p5 p6 : Nat) : Ss :=
  (.cons (.for_ (.nm 1) (.seq (.call p0 (.cons (.var 0) (.cons (.con (.int 4)) .nil)) 0)) (.cons (.asg (.nm 2) (.call p1 (.cons (.var 1) .nil) 0))
    (.cons (.asgO 3 (.call p2 (.cons (.var 2) .nil) 0))
    (.cons (.ite (.or (.not (.isi (.peek 3) [.bi "list"])) (.not (.callv p3 (.cons (.var 2) (.cons (.peek 3) .nil)) 0))) (.cons (.ret (.con (.bool false))) .nil) (.nil))
    (.cons (.asg (.nm 4) (.and (.op2 .ne (.var 2) (.tup .nil)) (.op2 .eq (.op1 .len (.call p4 (.cons (.var 2) (.cons (.call p5 (.cons (.var 2) .nil) 0) .nil)) 0)) (.con (.int 1)))))
    (.cons (.ite (.or (.op2 .ne (.call p6 (.cons (.var 2) .nil) 0) (.var 4)) (.or (.not (.isi (.call p6 (.cons (.var 2) .nil) 0) [.bi "bool"])) (.op2 .isn (.call p6 (.cons (.tup .nil) .nil) 0) (.con (.bool false))))) (.cons (.ret (.con (.bool false))) .nil) (.nil))
    (.cons (.app 3 (.tup .nil))
    (.cons (.ite (.op2 .ne (.call p2 (.cons (.var 2) .nil) 0) (.slc (.peek 3) .none (.some (.op1 .neg (.con (.int 1)))))) (.cons (.ret (.con (.bool false))) .nil) (.nil)) .nil))))))))
    (.cons (.ret (.con (.bool true))) .nil))
end AW

/-! AwB3: bodies. -/
namespace AW
open PySem
/-- _law_cell_at:  -/
def b_law_cell_at : Ss :=
  (.cons (.ite (.op2 .lt (.var 1) (.op1 .len (.var 0))) (.cons (.ret (.op2 .idx (.var 0) (.var 1))) .nil) (.nil))
    (.cons (.ret (.con (.int 0))) .nil))
/-- is_fraction: p0 is_whole, p1 common_number -/
def b_is_fraction [Nm] (p0 p1 : Nat) : Ss :=
  (.cons (.ite (.or (.not (.isi (.var 0) [.bi "tuple"])) (.or (.op2 .ne (.op1 .len (.var 0)) (.con (.int 2))) (.not (.op1 .all (.cmp (.call p0 (.cons (.var 1) .nil) 0) (.nm 1) (.seq (.var 0)) .none [(Nm.n 1, 1)]))))) (.cons (.ret (.con (.bool false))) .nil) (.nil))
    (.cons (.ret (.and (.op2 .gt (.op2 .idx (.var 0) (.con (.int 1))) (.con (.int 0))) (.op2 .eq (.call p1 (.cons (.op1 .abs (.op2 .idx (.var 0) (.con (.int 0)))) (.cons (.op2 .idx (.var 0) (.con (.int 1))) .nil)) 0) (.con (.int 1))))) .nil))
/-- is_poly: p0 is_fraction, p1 NOUGHT -/
def b_is_poly [Nm] (p0 p1 : Nat) : Ss :=
  (.cons (.ite (.or (.not (.isi (.var 0) [.bi "tuple"])) (.not (.op1 .all (.cmp (.call p0 (.cons (.var 1) .nil) 0) (.nm 1) (.seq (.var 0)) .none [(Nm.n 1, 1)])))) (.cons (.ret (.con (.bool false))) .nil) (.nil))
    (.cons (.ret (.or (.op2 .eq (.var 0) (.tup .nil)) (.op2 .ne (.op2 .idx (.var 0) (.op1 .neg (.con (.int 1)))) (.glb p1)))) .nil))
/-- quotient: p0 is_poly, p1 NoQuotient, p2 common, p3 turned, p4 scaled, p5 poly_parted, p6 monic -/
def b_quotient (p0 p1 p2 p3 p4 p5 p6 : Nat) : Ss :=
  (.cons (.ite (.or (.not (.call p0 (.cons (.var 0) .nil) 0)) (.or (.not (.call p0 (.cons (.var 1) .nil) 0)) (.op2 .eq (.var 1) (.tup .nil)))) (.cons (.rai p1) .nil) (.nil))
    (.cons (.asg (.nm 2) (.call p2 (.cons (.var 0) (.cons (.var 1) .nil)) 0))
    (.cons (.asg (.nm 3) (.call p3 (.cons (.op2 .idx (.var 1) (.op1 .neg (.con (.int 1)))) .nil) 0))
    (.cons (.ret (.tup (.cons (.call p4 (.cons (.op2 .idx (.call p5 (.cons (.var 0) (.cons (.var 2) .nil)) 0) (.con (.int 0))) (.cons (.var 3) .nil)) 0) (.cons (.call p6 (.cons (.op2 .idx (.call p5 (.cons (.var 1) (.cons (.var 2) .nil)) 0) (.con (.int 0))) .nil) 0) .nil)))) .nil))))
/-- q_sum: p0 poly_product, p1 quotient, p2 poly_sum -/
def b_q_sum (p0 p1 p2 : Nat) : Ss :=
  (.cons (.asg (.nm 2) (.call p0 (.cons (.op2 .idx (.var 0) (.con (.int 0))) (.cons (.op2 .idx (.var 1) (.con (.int 1))) .nil)) 0))
    (.cons (.asg (.nm 3) (.call p0 (.cons (.op2 .idx (.var 1) (.con (.int 0))) (.cons (.op2 .idx (.var 0) (.con (.int 1))) .nil)) 0))
    (.cons (.ret (.call p1 (.cons (.call p2 (.cons (.var 2) (.cons (.var 3) .nil)) 0) (.cons (.call p0 (.cons (.op2 .idx (.var 0) (.con (.int 1))) (.cons (.op2 .idx (.var 1) (.con (.int 1))) .nil)) 0) .nil)) 0)) .nil)))
/-- of_poly: p0 ONE -/
def b_of_poly (p0 : Nat) : Ss :=
  (.cons (.ret (.tup (.cons (.var 0) (.cons (.glb p0) .nil)))) .nil)
/-- power_of: p0 ONE, p1 poly_product -/
def b_power_of (p0 p1 : Nat) : Ss :=
  (.cons (.asg (.nm 2) (.glb p0))
    (.cons (.for_ (.nm 3) (.rng1 (.var 1)) (.cons (.asg (.nm 2) (.call p1 (.cons (.var 2) (.cons (.var 0) .nil)) 0)) .nil))
    (.cons (.ret (.var 2)) .nil)))
/-- gathered: p0 of_poly, p1 q_sum, p2 quotient, p3 power_of -/
def b_gathered (p0 p1 p2 p3 : Nat) : Ss :=
  (.cons (.asg (.nm 2) (.call p0 (.cons (.var 0) .nil) 0))
    (.cons (.for_ (.tp (.cons (.nm 3) (.cons (.nm 4) (.cons (.nm 5) .nil)))) (.seq (.var 1)) (.cons (.asg (.nm 2) (.call p1 (.cons (.var 2) (.cons (.call p2 (.cons (.var 5) (.cons (.call p3 (.cons (.var 3) (.cons (.var 4) .nil)) 0) .nil)) 0) .nil)) 0)) .nil))
    (.cons (.ret (.var 2)) .nil)))
/-- _law_trim:  -/
def b_law_trim : Ss :=
  (.cons (.asg (.nm 1) (.op1 .len (.var 0)))
    (.cons (.whl (.and (.op2 .gt (.var 1) (.con (.int 0))) (.op2 .eq (.op2 .idx (.op2 .idx (.var 0) (.op2 .sub (.var 1) (.con (.int 1)))) (.con (.int 0))) (.con (.int 0)))) (.cons (.asg (.nm 1) (.op2 .sub (.var 1) (.con (.int 1)))) .nil))
    (.cons (.ret (.op1 .tuple (.slc (.var 0) .none (.some (.var 1))))) .nil)))
/-- _law_small: p0 _law_mixed, p1 _law_reduced -/
def b_law_small (p0 p1 : Nat) : Ss :=
  (.cons (.asg (.nm 2) (.op2 .fdiv (.call p0 (.cons (.var 0) (.cons (.var 1) .nil)) 0) (.con (.int 3))))
    (.cons (.ret (.call p1 (.cons (.op2 .sub (.op2 .mod (.var 2) (.con (.int 19))) (.con (.int 9))) (.cons (.op2 .add (.con (.int 1)) (.op2 .mod (.op2 .fdiv (.var 2) (.con (.int 19))) (.con (.int 3)))) .nil)) 0)) .nil))
/-- _law_drawn: p0 _law_mixed, p1 _law_trim, p2 _law_small -/
def b_law_drawn_2 [Nm] (p0 p1 p2 : Nat) : Ss :=
  (.cons (.asg (.nm 2) (.op2 .mod (.op2 .fdiv (.call p0 (.cons (.var 0) (.cons (.con (.int 1)) .nil)) 0) (.con (.int 3))) (.op2 .add (.var 1) (.con (.int 2)))))
    (.cons (.ret (.call p1 (.cons (.cmp (.call p2 (.cons (.var 0) (.cons (.op2 .add (.con (.int 2)) (.var 3)) .nil)) 0) (.nm 3) (.rng1 (.var 2)) .none [(Nm.n 3, 3)]) .nil) 0)) .nil))
/-- _law_rows: p0 _law_mixed, p1 _law_drawn -/
def b_law_rows (p0 p1 : Nat) : Ss :=
  (.cons (.asg (.nm 1) (.lst (.cons (.tup (.cons (.tup (.cons (.op1 .neg (.con (.int 1))) (.cons (.con (.int 1)) .nil))) (.cons (.tup (.cons (.con (.int 1)) (.cons (.con (.int 1)) .nil))) .nil))) (.cons (.tup (.cons (.tup (.cons (.con (.int 0)) (.cons (.con (.int 1)) .nil))) (.cons (.tup (.cons (.con (.int 1)) (.cons (.con (.int 1)) .nil))) .nil))) (.cons (.tup (.cons (.tup (.cons (.con (.int 1)) (.cons (.con (.int 1)) .nil))) (.cons (.tup (.cons (.con (.int 0)) (.cons (.con (.int 1)) .nil))) (.cons (.tup (.cons (.con (.int 1)) (.cons (.con (.int 1)) .nil))) .nil)))) (.cons (.tup (.cons (.tup (.cons (.con (.int 1)) (.cons (.con (.int 1)) .nil))) (.cons (.tup (.cons (.con (.int 2)) (.cons (.con (.int 1)) .nil))) (.cons (.tup (.cons (.con (.int 1)) (.cons (.con (.int 1)) .nil))) .nil)))) (.cons (.tup (.cons (.tup (.cons (.con (.int 1)) (.cons (.con (.int 2)) .nil))) (.cons (.tup (.cons (.con (.int 1)) (.cons (.con (.int 1)) .nil))) .nil))) .nil)))))))
    (.cons (.asgO 2 (.lst .nil))
    (.cons (.for_ (.nm 3) (.rng1 (.op2 .mod (.op2 .fdiv (.call p0 (.cons (.var 0) (.cons (.con (.int 80)) .nil)) 0) (.con (.int 3))) (.con (.int 5)))) (.cons (.asg (.nm 4) (.op2 .idx (.var 1) (.op2 .mod (.op2 .fdiv (.call p0 (.cons (.var 0) (.cons (.op2 .add (.con (.int 81)) (.var 3)) .nil)) 0) (.con (.int 3))) (.con (.int 5)))))
    (.cons (.asg (.nm 5) (.op2 .add (.con (.int 1)) (.op2 .mod (.op2 .fdiv (.call p0 (.cons (.var 0) (.cons (.op2 .add (.con (.int 86)) (.var 3)) .nil)) 0) (.con (.int 3))) (.con (.int 2)))))
    (.cons (.app 2 (.tup (.cons (.var 4) (.cons (.var 5) (.cons (.call p1 (.cons (.call p0 (.cons (.var 0) (.cons (.op2 .add (.con (.int 91)) (.var 3)) .nil)) 0) (.cons (.con (.int 2)) .nil)) 0) .nil))))) .nil))))
    (.cons (.frz 2)
    (.cons (.ret (.op2 .add (.var 2) (.repE (.slc (.var 2) .none (.some (.con (.int 1)))) (.op2 .mod (.op2 .fdiv (.call p0 (.cons (.var 0) (.cons (.con (.int 96)) .nil)) 0) (.con (.int 3))) (.con (.int 2)))))) .nil)))))
/-- _law_poly_sum: p0 _law_sum, p1 _law_trim -/
def b_law_poly_sum (p0 p1 : Nat) : Ss :=
  (.cons (.asgO 2 (.lst .nil))
    (.cons (.for_ (.nm 3) (.rng1 (.op2 .max2 (.op1 .len (.var 0)) (.op1 .len (.var 1)))) (.cons (.app 2 (.call p0 (.cons (.op2 .idx (.op2 .add (.slc (.var 0) (.some (.var 3)) (.some (.op2 .add (.var 3) (.con (.int 1))))) (.tup (.cons (.tup (.cons (.con (.int 0)) (.cons (.con (.int 1)) .nil))) .nil))) (.con (.int 0))) (.cons (.op2 .idx (.op2 .add (.slc (.var 1) (.some (.var 3)) (.some (.op2 .add (.var 3) (.con (.int 1))))) (.tup (.cons (.tup (.cons (.con (.int 0)) (.cons (.con (.int 1)) .nil))) .nil))) (.con (.int 0))) .nil)) 0)) .nil))
    (.cons (.frz 2)
    (.cons (.ret (.call p1 (.cons (.var 2) .nil) 0)) .nil))))
/-- _law_poly_times: p0 _law_sum, p1 _law_product, p2 _law_trim -/
def b_law_poly_times (p0 p1 p2 : Nat) : Ss :=
  (.cons (.asgO 2 (.rep (.cons (.tup (.cons (.con (.int 0)) (.cons (.con (.int 1)) .nil))) .nil) (.op2 .add (.op1 .len (.var 0)) (.op1 .len (.var 1)))))
    (.cons (.for_ (.nm 3) (.rng1 (.op1 .len (.var 0))) (.cons (.for_ (.nm 4) (.rng1 (.op1 .len (.var 1))) (.cons (.setI 2 (.op2 .add (.var 3) (.var 4)) (.call p0 (.cons (.op2 .idx (.peek 2) (.op2 .add (.var 3) (.var 4))) (.cons (.call p1 (.cons (.op2 .idx (.var 0) (.var 3)) (.cons (.op2 .idx (.var 1) (.var 4)) .nil)) 0) .nil)) 0)) .nil)) .nil))
    (.cons (.frz 2)
    (.cons (.ret (.call p2 (.cons (.var 2) .nil) 0)) .nil))))
/-- _law_poly_parted: p0 _law_reduced, p1 _law_poly_sum, p2 _law_poly_times -/
def b_law_poly_parted (p0 p1 p2 : Nat) : Ss :=
  (.cons (.asg (.nm 2) (.var 0))
    (.cons (.asg (.nm 3) (.tup .nil))
    (.cons (.whl (.op2 .ge (.op1 .len (.var 2)) (.op1 .len (.var 1))) (.cons (.asg (.nm 4) (.op2 .idx (.var 1) (.op1 .neg (.con (.int 1)))))
    (.cons (.asg (.nm 5) (.call p0 (.cons (.op2 .mul (.op2 .idx (.op2 .idx (.var 2) (.op1 .neg (.con (.int 1)))) (.con (.int 0))) (.op2 .idx (.var 4) (.con (.int 1)))) (.cons (.op2 .mul (.op2 .idx (.op2 .idx (.var 2) (.op1 .neg (.con (.int 1)))) (.con (.int 1))) (.op2 .idx (.var 4) (.con (.int 0)))) .nil)) 0))
    (.cons (.asg (.nm 6) (.op2 .add (.op2 .mul (.tup (.cons (.tup (.cons (.con (.int 0)) (.cons (.con (.int 1)) .nil))) .nil)) (.op2 .sub (.op1 .len (.var 2)) (.op1 .len (.var 1)))) (.tup (.cons (.var 5) .nil))))
    (.cons (.asg (.nm 3) (.call p1 (.cons (.var 3) (.cons (.var 6) .nil)) 0))
    (.cons (.asg (.nm 2) (.call p1 (.cons (.var 2) (.cons (.call p2 (.cons (.tup (.cons (.tup (.cons (.op1 .neg (.con (.int 1))) (.cons (.con (.int 1)) .nil))) .nil)) (.cons (.call p2 (.cons (.var 6) (.cons (.var 1) .nil)) 0) .nil)) 0) .nil)) 0)) .nil))))))
    (.cons (.ret (.tup (.cons (.var 3) (.cons (.var 2) .nil)))) .nil))))
/-- _law_monic: p0 _law_poly_times, p1 _law_reduced -/
def b_law_monic_2 (p0 p1 : Nat) : Ss :=
  (.cons (.ite (.op2 .eq (.var 0) (.tup .nil)) (.cons (.ret (.tup .nil)) .nil) (.nil))
    (.cons (.ret (.call p0 (.cons (.tup (.cons (.call p1 (.cons (.op2 .idx (.op2 .idx (.var 0) (.op1 .neg (.con (.int 1)))) (.con (.int 1))) (.cons (.op2 .idx (.op2 .idx (.var 0) (.op1 .neg (.con (.int 1)))) (.con (.int 0))) .nil)) 0) .nil)) (.cons (.var 0) .nil)) 0)) .nil))
/-- _law_canon: p0 _law_shared, p1 _law_reduced, p2 _law_poly_times, p3 _law_poly_parted, p4 _law_monic -/
def b_law_canon (p0 p1 p2 p3 p4 : Nat) : Ss :=
  (.cons (.asg (.nm 2) (.call p0 (.cons (.var 0) (.cons (.var 1) .nil)) 0))
    (.cons (.asg (.nm 3) (.tup (.cons (.call p1 (.cons (.op2 .idx (.op2 .idx (.var 1) (.op1 .neg (.con (.int 1)))) (.con (.int 1))) (.cons (.op2 .idx (.op2 .idx (.var 1) (.op1 .neg (.con (.int 1)))) (.con (.int 0))) .nil)) 0) .nil)))
    (.cons (.asg (.nm 0) (.call p2 (.cons (.var 3) (.cons (.op2 .idx (.call p3 (.cons (.var 0) (.cons (.var 2) .nil)) 0) (.con (.int 0))) .nil)) 0))
    (.cons (.ret (.tup (.cons (.var 0) (.cons (.call p4 (.cons (.op2 .idx (.call p3 (.cons (.var 1) (.cons (.var 2) .nil)) 0) (.con (.int 0))) .nil) 0) .nil)))) .nil))))
/-- _law_due: p0 _law_poly_times, p1 _law_poly_sum, p2 _law_canon -/
def b_law_due (p0 p1 p2 : Nat) : Ss :=
  (.cons (.par [2, 3] (.cons (.var 0) (.cons (.tup (.cons (.tup (.cons (.con (.int 1)) (.cons (.con (.int 1)) .nil))) .nil)) .nil)))
    (.cons (.for_ (.tp (.cons (.nm 4) (.cons (.nm 5) (.cons (.nm 6) .nil)))) (.seq (.var 1)) (.cons (.asg (.nm 7) (.var 4))
    (.cons (.ite (.op2 .eq (.var 5) (.con (.int 2))) (.cons (.asg (.nm 7) (.call p0 (.cons (.var 4) (.cons (.var 4) .nil)) 0)) .nil) (.nil))
    (.cons (.asg (.nm 2) (.call p1 (.cons (.call p0 (.cons (.var 2) (.cons (.var 7) .nil)) 0) (.cons (.call p0 (.cons (.var 6) (.cons (.var 3) .nil)) 0) .nil)) 0))
    (.cons (.asg (.nm 3) (.call p0 (.cons (.var 3) (.cons (.var 7) .nil)) 0)) .nil)))))
    (.cons (.ret (.call p2 (.cons (.var 2) (.cons (.var 3) .nil)) 0)) .nil)))
/-- _law_holds: p0 _law_drawn, p1 _law_rows, p2 _law_due, p3 gathered -/
def b_law_holds (p0 p1 p2 p3 : Nat) : Ss :=
  (.cons (.asg (.nm 1) (.call p0 (.cons (.var 0) (.cons (.con (.int 3)) .nil)) 0))
    (.cons (.asg (.nm 2) (.call p1 (.cons (.var 0) .nil) 0))
    (.cons (.asg (.nm 3) (.call p2 (.cons (.var 1) (.cons (.var 2) .nil)) 0))
    (.cons (.asg (.nm 4) (.op1 .list (.var 2)))
    (.cons (.ite (.or (.op2 .ne (.call p3 (.cons (.var 1) (.cons (.var 2) .nil)) 0) (.var 3)) (.op2 .ne (.call p3 (.cons (.var 1) (.cons (.op1 .tuple (.revs (.var 2))) .nil)) 0) (.var 3))) (.cons (.ret (.con (.bool false))) .nil) (.nil))
    (.cons (.ret (.and (.op2 .eq (.var 2) (.var 4)) (.op2 .eq (.call p3 (.cons (.var 1) (.cons (.lst .nil) .nil)) 0) (.tup (.cons (.var 1) (.cons (.tup (.cons (.tup (.cons (.con (.int 1)) (.cons (.con (.int 1)) .nil))) .nil)) .nil)))))) .nil))))))
/-- law: p0 _law_mixed, p1 _law_cell_at, p2 _law_holds -/
def b_law_4 (p0 p1 p2 : Nat) : Ss :=
  (.cons (.asg (.nm 1) (.con (.int 0)))
    (.cons (.for_ (.nm 2) (.rng1 (.op2 .max2 (.con (.int 1)) (.op1 .len (.var 0)))) (.cons (.asg (.nm 1) (.call p0 (.cons (.op2 .add (.var 1) (.call p1 (.cons (.var 0) (.cons (.var 2) .nil)) 0)) (.cons (.op2 .add (.var 2) (.con (.int 30))) .nil)) 0))
    (.cons (.ite (.and (.op2 .eq (.op2 .mod (.var 2) (.con (.int 21))) (.con (.int 0))) (.not (.call p2 (.cons (.var 1) .nil) 0))) (.cons (.ret (.con (.bool false))) .nil) (.nil)) .nil)))
    (.cons (.ret (.con (.bool true))) .nil)))
end AW

/-! AwB4: bodies. -/
namespace AW
open PySem
/-- poly: p0 is_fraction, p1 NoPoly, p2 trimmed -/
def b_poly [Nm] (p0 p1 p2 : Nat) : Ss :=
  (.cons (.ite (.or (.not (.isi (.var 0) [.bi "list", .bi "tuple"])) (.not (.op1 .all (.cmp (.call p0 (.cons (.var 1) .nil) 0) (.nm 1) (.seq (.var 0)) .none [(Nm.n 1, 1)])))) (.cons (.rai p1) .nil) (.nil))
    (.cons (.ret (.call p2 (.cons (.var 0) .nil) 0)) .nil))
/-- noughts_ahead: p0 NOUGHT -/
def b_noughts_ahead (p0 : Nat) : Ss :=
  (.cons (.asg (.nm 1) (.con (.int 0)))
    (.cons (.whl (.op2 .eq (.op2 .idx (.var 0) (.var 1)) (.glb p0)) (.cons (.aug 1 .add (.con (.int 1))) .nil))
    (.cons (.ret (.var 1)) .nil)))
/-- about: p0 poly, p1 UNIT, p2 poly_put_in, p3 noughts_ahead -/
def b_about (p0 p1 p2 p3 : Nat) : Ss :=
  (.cons (.ite (.op2 .is_ (.var 1) (.con .none)) (.cons (.ret (.tup (.cons (.revs (.op2 .idx (.var 0) (.con (.int 0)))) (.cons (.revs (.op2 .idx (.var 0) (.con (.int 1)))) (.cons (.op2 .sub (.op1 .len (.op2 .idx (.var 0) (.con (.int 1)))) (.op1 .len (.op2 .idx (.var 0) (.con (.int 0))))) .nil))))) .nil) (.nil))
    (.cons (.asg (.nm 2) (.call p0 (.cons (.lst (.cons (.var 1) (.cons (.glb p1) .nil))) .nil) 0))
    (.cons (.par [3, 4] (.cons (.call p2 (.cons (.op2 .idx (.var 0) (.con (.int 0))) (.cons (.var 2) .nil)) 0) (.cons (.call p2 (.cons (.op2 .idx (.var 0) (.con (.int 1))) (.cons (.var 2) .nil)) 0) .nil)))
    (.cons (.par [5, 6] (.cons (.call p3 (.cons (.var 3) .nil) 0) (.cons (.call p3 (.cons (.var 4) .nil) 0) .nil)))
    (.cons (.ret (.tup (.cons (.slc (.var 3) (.some (.var 5)) .none) (.cons (.slc (.var 4) (.some (.var 6)) .none) (.cons (.op2 .sub (.var 5) (.var 6)) .nil))))) .nil)))))
/-- order: p0 about -/
def b_order (p0 : Nat) : Ss :=
  (.cons (.ret (.ife (.op2 .eq (.op2 .idx (.var 0) (.con (.int 0))) (.tup .nil)) (.con .none) (.op2 .idx (.call p0 (.cons (.var 0) (.cons (.var 1) .nil)) 0) (.con (.int 2))))) .nil)
/-- _law_cell_at: p0 _law_mixed -/
def b_law_cell_at_2 (p0 : Nat) : Ss :=
  (.cons (.ite (.op2 .lt (.var 1) (.op1 .len (.var 0))) (.cons (.ret (.call p0 (.cons (.op2 .idx (.var 0) (.var 1)) (.cons (.var 1) .nil)) 0)) .nil) (.nil))
    (.cons (.ret (.call p0 (.cons (.var 1) (.cons (.con (.int 3)) .nil)) 0)) .nil))
/-- _law_lowest:  -/
def b_law_lowest : Ss :=
  (.cons (.asg (.nm 2) (.op1 .abs (.var 0)))
    (.cons (.asg (.nm 3) (.op1 .abs (.var 1)))
    (.cons (.whl (.op2 .gt (.var 3) (.con (.int 0))) (.cons (.par [2, 3] (.cons (.var 3) (.cons (.op2 .mod (.var 2) (.var 3)) .nil))) .nil))
    (.cons (.ite (.op2 .lt (.var 1) (.con (.int 0))) (.cons (.asg (.nm 2) (.op1 .neg (.var 2))) .nil) (.nil))
    (.cons (.ret (.tup (.cons (.op2 .fdiv (.var 0) (.var 2)) (.cons (.op2 .fdiv (.var 1) (.var 2)) .nil)))) .nil)))))
/-- _law_fraction: p0 _law_lowest -/
def b_law_fraction (p0 : Nat) : Ss :=
  (.cons (.ret (.call p0 (.cons (.op2 .sub (.op2 .mod (.var 0) (.con (.int 19))) (.con (.int 9))) (.cons (.op2 .idx (.lst (.cons (.con (.int 1)) (.cons (.con (.int 1)) (.cons (.con (.int 2)) (.cons (.con (.int 3)) .nil))))) (.op2 .mod (.op2 .fdiv (.var 0) (.con (.int 19))) (.con (.int 4)))) .nil)) 0)) .nil)
/-- _law_place:  -/
def b_law_place : Ss :=
  (.cons (.ret (.op2 .idx (.lst (.cons (.tup (.cons (.con (.int 0)) (.cons (.con (.int 1)) .nil))) (.cons (.tup (.cons (.con (.int 1)) (.cons (.con (.int 1)) .nil))) (.cons (.tup (.cons (.op1 .neg (.con (.int 1))) (.cons (.con (.int 1)) .nil))) (.cons (.tup (.cons (.con (.int 2)) (.cons (.con (.int 1)) .nil))) (.cons (.tup (.cons (.con (.int 1)) (.cons (.con (.int 2)) .nil))) (.cons (.tup (.cons (.op1 .neg (.con (.int 3))) (.cons (.con (.int 2)) .nil))) (.cons (.tup (.cons (.con (.int 3)) (.cons (.con (.int 1)) .nil))) (.cons (.tup (.cons (.op1 .neg (.con (.int 2))) (.cons (.con (.int 1)) .nil))) .nil))))))))) (.op2 .mod (.var 0) (.con (.int 8))))) .nil)
/-- _law_product: p0 _law_sum, p1 _law_times -/
def b_law_product (p0 p1 : Nat) : Ss :=
  (.cons (.asgO 2 (.rep (.cons (.tup (.cons (.con (.int 0)) (.cons (.con (.int 1)) .nil))) .nil) (.op2 .max2 (.con (.int 0)) (.op2 .sub (.op2 .add (.op1 .len (.var 0)) (.op1 .len (.var 1))) (.con (.int 1))))))
    (.cons (.for_ (.tp (.cons (.nm 3) (.cons (.nm 4) .nil))) (.enum (.var 0)) (.cons (.for_ (.tp (.cons (.nm 5) (.cons (.nm 6) .nil))) (.enum (.var 1)) (.cons (.setI 2 (.op2 .add (.var 3) (.var 5)) (.call p0 (.cons (.op2 .idx (.peek 2) (.op2 .add (.var 3) (.var 5))) (.cons (.call p1 (.cons (.var 4) (.cons (.var 6) .nil)) 0) .nil)) 0)) .nil)) .nil))
    (.cons (.retO 2) .nil)))
/-- _law_plain:  -/
def b_law_plain : Ss :=
  (.cons (.asgO 1 (.op1 .list (.var 0)))
    (.cons (.whl (.and (.op2 .ne (.peek 1) (.lst .nil)) (.op2 .eq (.op2 .idx (.peek 1) (.op1 .neg (.con (.int 1)))) (.tup (.cons (.con (.int 0)) (.cons (.con (.int 1)) .nil))))) (.cons (.pop 1) .nil))
    (.cons (.frz 1)
    (.cons (.ret (.op1 .tuple (.var 1))) .nil))))
/-- _law_piece: p0 _law_place -/
def b_law_piece (p0 : Nat) : Ss :=
  (.cons (.ite (.op2 .gt (.op2 .mod (.var 0) (.con (.int 3))) (.con (.int 0))) (.cons (.asg (.nm 2) (.call p0 (.cons (.op2 .fdiv (.var 0) (.con (.int 3))) .nil) 0))
    (.cons (.ret (.lst (.cons (.tup (.cons (.op1 .neg (.op2 .idx (.var 2) (.con (.int 0)))) (.cons (.op2 .idx (.var 2) (.con (.int 1))) .nil))) (.cons (.tup (.cons (.con (.int 1)) (.cons (.con (.int 1)) .nil))) .nil)))) .nil)) (.nil))
    (.cons (.asg (.nm 1) (.op2 .idx (.lst (.cons (.lst (.cons (.tup (.cons (.con (.int 1)) (.cons (.con (.int 1)) .nil))) (.cons (.tup (.cons (.con (.int 0)) (.cons (.con (.int 1)) .nil))) .nil))) (.cons (.lst (.cons (.tup (.cons (.con (.int 1)) (.cons (.con (.int 1)) .nil))) (.cons (.tup (.cons (.con (.int 1)) (.cons (.con (.int 1)) .nil))) .nil))) (.cons (.lst (.cons (.tup (.cons (.op1 .neg (.con (.int 2))) (.cons (.con (.int 1)) .nil))) (.cons (.tup (.cons (.con (.int 0)) (.cons (.con (.int 1)) .nil))) .nil))) (.cons (.lst (.cons (.tup (.cons (.con (.int 3)) (.cons (.con (.int 1)) .nil))) (.cons (.tup (.cons (.op1 .neg (.con (.int 1))) (.cons (.con (.int 1)) .nil))) .nil))) .nil))))) (.op2 .mod (.op2 .fdiv (.var 0) (.con (.int 3))) (.con (.int 4)))))
    (.cons (.ret (.op2 .add (.var 1) (.lst (.cons (.tup (.cons (.con (.int 1)) (.cons (.con (.int 1)) .nil))) .nil)))) .nil)))
/-- _law_quotient: p0 _law_mixed, p1 _law_piece, p2 _law_product, p3 _law_fraction, p4 quotient, p5 _law_plain -/
def b_law_quotient [Nm] (p0 p1 p2 p3 p4 p5 : Nat) : Ss :=
  (.cons (.asgO 2 (.lst .nil))
    (.cons (.asg (.nm 3) (.lst (.cons (.tup (.cons (.con (.int 1)) (.cons (.con (.int 1)) .nil))) .nil)))
    (.cons (.for_ (.nm 4) (.rng1 (.op2 .mod (.call p0 (.cons (.var 0) (.cons (.con (.int 1)) .nil)) 0) (.op2 .add (.var 1) (.con (.int 1))))) (.cons (.asg (.nm 6) (.call p1 (.cons (.call p0 (.cons (.var 0) (.cons (.op2 .add (.con (.int 10)) (.var 4)) .nil)) 0) .nil) 0))
    (.cons (.ite (.op2 .nin (.var 6) (.peek 2)) (.cons (.app 2 (.var 6))
    (.cons (.for_ (.nm 7) (.rng1 (.op2 .idx (.lst (.cons (.con (.int 1)) (.cons (.con (.int 1)) (.cons (.con (.int 2)) (.cons (.op2 .idx (.lst (.cons (.con (.int 3)) (.cons (.con (.int 2)) .nil))) (.op1 .intB (.op2 .gt (.var 1) (.con (.int 2))))) .nil))))) (.op2 .mod (.call p0 (.cons (.var 0) (.cons (.op2 .add (.con (.int 20)) (.var 4)) .nil)) 0) (.con (.int 4))))) (.cons (.asg (.nm 3) (.call p2 (.cons (.var 3) (.cons (.var 6) .nil)) 0)) .nil)) .nil)) (.nil)) .nil)))
    (.cons (.frz 2)
    (.cons (.asgC 5 false (.cmp (.call p3 (.cons (.call p0 (.cons (.var 0) (.cons (.op2 .add (.con (.int 30)) (.var 4)) .nil)) 0) .nil) 0) (.nm 4) (.rng1 (.op2 .mod (.call p0 (.cons (.var 0) (.cons (.con (.int 2)) .nil)) 0) (.con (.int 7)))) .none [(Nm.n 4, 4)]))
    (.cons (.ite (.op2 .eq (.op2 .mod (.call p0 (.cons (.var 0) (.cons (.con (.int 3)) .nil)) 0) (.con (.int 3))) (.con (.int 0))) (.cons (.asg (.nm 5) (.call p2 (.cons (.var 5) (.cons (.call p1 (.cons (.call p0 (.cons (.var 0) (.cons (.con (.int 4)) .nil)) 0) .nil) 0) .nil)) 0)) .nil) (.nil))
    (.cons (.ret (.call p4 (.cons (.call p5 (.cons (.var 5) .nil) 0) (.cons (.call p5 (.cons (.var 3) .nil) 0) .nil)) 0)) .nil)))))))
/-- _law_times_root: p0 _law_sum, p1 _law_times -/
def b_law_times_root (p0 p1 : Nat) : Ss :=
  (.cons (.asg (.nm 2) (.con (.int 0)))
    (.cons (.asg (.nm 3) (.op1 .list (.var 0)))
    (.cons (.whl (.con (.bool true)) (.cons (.asg (.nm 4) (.tup (.cons (.con (.int 0)) (.cons (.con (.int 1)) .nil))))
    (.cons (.asgO 5 (.lst .nil))
    (.cons (.for_ (.nm 6) (.seq (.revs (.var 3))) (.cons (.asg (.nm 4) (.call p0 (.cons (.call p1 (.cons (.var 4) (.cons (.var 1) .nil)) 0) (.cons (.var 6) .nil)) 0))
    (.cons (.app 5 (.var 4)) .nil)))
    (.cons (.ite (.op2 .ne (.var 4) (.tup (.cons (.con (.int 0)) (.cons (.con (.int 1)) .nil)))) (.cons (.ret (.var 2)) .nil) (.nil))
    (.cons (.asg (.nm 3) (.revs (.slc (.peek 5) .none (.some (.op1 .neg (.con (.int 1)))))))
    (.cons (.asg (.nm 2) (.op2 .add (.var 2) (.con (.int 1)))) .nil))))))) .nil)))
/-- law: p0 _law_cell_at, p1 _law_quotient, p2 _law_place, p3 _law_fraction, p4 order, p5 _law_times_root -/
def b_law_7 (p0 p1 p2 p3 p4 p5 : Nat) : Ss :=
  (.cons (.for_ (.nm 1) (.rng1 (.op2 .max2 (.con (.int 1)) (.op2 .min2 (.op1 .len (.var 0)) (.con (.int 12))))) (.cons (.asg (.nm 2) (.call p0 (.cons (.var 0) (.cons (.var 1) .nil)) 0))
    (.cons (.asg (.nm 3) (.call p1 (.cons (.var 2) (.cons (.con (.int 3)) .nil)) 0))
    (.cons (.for_ (.nm 4) (.seq (.lst (.cons (.call p2 (.cons (.op2 .fdiv (.var 2) (.con (.int 5))) .nil) 0) (.cons (.call p2 (.cons (.op2 .fdiv (.var 2) (.con (.int 43))) .nil) 0) (.cons (.call p3 (.cons (.op2 .fdiv (.var 2) (.con (.int 7))) .nil) 0) (.cons (.con .none) .nil)))))) (.cons (.asg (.nm 5) (.call p4 (.cons (.var 3) (.cons (.var 4) .nil)) 0))
    (.cons (.asg (.nm 6) (.con .none))
    (.cons (.ite (.and (.op2 .ne (.op2 .idx (.var 3) (.con (.int 0))) (.tup .nil)) (.op2 .is_ (.var 4) (.con .none))) (.cons (.asg (.nm 6) (.op2 .sub (.op1 .len (.op2 .idx (.var 3) (.con (.int 1)))) (.op1 .len (.op2 .idx (.var 3) (.con (.int 0)))))) .nil) (.cons (.ite (.op2 .ne (.op2 .idx (.var 3) (.con (.int 0))) (.tup .nil)) (.cons (.asg (.nm 6) (.op2 .sub (.call p5 (.cons (.op2 .idx (.var 3) (.con (.int 0))) (.cons (.var 4) .nil)) 0) (.call p5 (.cons (.op2 .idx (.var 3) (.con (.int 1))) (.cons (.var 4) .nil)) 0))) .nil) (.nil)) .nil))
    (.cons (.ite (.or (.op2 .ne (.var 5) (.var 6)) (.or (.isi (.var 5) [.bi "bool"]) (.op2 .ne (.op2 .is_ (.var 5) (.con .none)) (.op2 .is_ (.var 6) (.con .none))))) (.cons (.ret (.con (.bool false))) .nil) (.nil)) .nil))))) .nil))))
    (.cons (.ret (.con (.bool true))) .nil))
end AW

/-! AwB5: bodies. -/
namespace AW
open PySem
/-- q_at: p0 poly_at, p1 NOUGHT, p2 NoPlace, p3 by, p4 turned -/
def b_q_at (p0 p1 p2 p3 p4 : Nat) : Ss :=
  (.cons (.asg (.nm 2) (.call p0 (.cons (.op2 .idx (.var 0) (.con (.int 1))) (.cons (.var 1) .nil)) 0))
    (.cons (.ite (.op2 .eq (.var 2) (.glb p1)) (.cons (.rai p2) .nil) (.nil))
    (.cons (.ret (.call p3 (.cons (.call p0 (.cons (.op2 .idx (.var 0) (.con (.int 0))) (.cons (.var 1) .nil)) 0) (.cons (.call p4 (.cons (.var 2) .nil) 0) .nil)) 0)) .nil)))
/-- log_slope: p0 NONE, p1 q_sum, p2 quotient, p3 scaled, p4 poly_slope -/
def b_log_slope (p0 p1 p2 p3 p4 : Nat) : Ss :=
  (.cons (.asg (.nm 1) (.glb p0))
    (.cons (.for_ (.tp (.cons (.nm 2) (.cons (.nm 3) .nil))) (.seq (.var 0)) (.cons (.asg (.nm 1) (.call p1 (.cons (.var 1) (.cons (.call p2 (.cons (.call p3 (.cons (.call p4 (.cons (.var 3) .nil) 0) (.cons (.var 2) .nil)) 0) (.cons (.var 3) .nil)) 0) .nil)) 0)) .nil))
    (.cons (.ret (.var 1)) .nil)))
/-- _law_pieces: p0 _law_mixed -/
def b_law_pieces (p0 : Nat) : Ss :=
  (.cons (.asg (.nm 2) (.lst (.cons (.lst (.cons (.tup (.cons (.con (.int 0)) (.cons (.con (.int 1)) .nil))) (.cons (.tup (.cons (.con (.int 1)) (.cons (.con (.int 1)) .nil))) .nil))) (.cons (.lst (.cons (.tup (.cons (.op1 .neg (.con (.int 1))) (.cons (.con (.int 1)) .nil))) (.cons (.tup (.cons (.con (.int 1)) (.cons (.con (.int 1)) .nil))) .nil))) (.cons (.lst (.cons (.tup (.cons (.con (.int 1)) (.cons (.con (.int 1)) .nil))) (.cons (.tup (.cons (.con (.int 1)) (.cons (.con (.int 1)) .nil))) .nil))) (.cons (.lst (.cons (.tup (.cons (.op1 .neg (.con (.int 1))) (.cons (.con (.int 2)) .nil))) (.cons (.tup (.cons (.con (.int 1)) (.cons (.con (.int 1)) .nil))) .nil))) (.cons (.lst (.cons (.tup (.cons (.con (.int 3)) (.cons (.con (.int 1)) .nil))) (.cons (.tup (.cons (.con (.int 1)) (.cons (.con (.int 1)) .nil))) .nil))) .nil)))))))
    (.cons (.asg (.nm 2) (.op2 .add (.var 2) (.lst (.cons (.lst (.cons (.tup (.cons (.con (.int 1)) (.cons (.con (.int 1)) .nil))) (.cons (.tup (.cons (.con (.int 0)) (.cons (.con (.int 1)) .nil))) (.cons (.tup (.cons (.con (.int 1)) (.cons (.con (.int 1)) .nil))) .nil)))) (.cons (.lst (.cons (.tup (.cons (.op1 .neg (.con (.int 2))) (.cons (.con (.int 1)) .nil))) (.cons (.tup (.cons (.con (.int 0)) (.cons (.con (.int 1)) .nil))) (.cons (.tup (.cons (.con (.int 1)) (.cons (.con (.int 1)) .nil))) .nil)))) (.cons (.lst (.cons (.tup (.cons (.con (.int 1)) (.cons (.con (.int 1)) .nil))) (.cons (.tup (.cons (.con (.int 1)) (.cons (.con (.int 1)) .nil))) (.cons (.tup (.cons (.con (.int 1)) (.cons (.con (.int 1)) .nil))) .nil)))) .nil))))))
    (.cons (.asgO 3 (.lst .nil))
    (.cons (.asg (.nm 4) (.var 1))
    (.cons (.for_ (.nm 5) (.rng1 (.con (.int 4))) (.cons (.asg (.nm 6) (.op2 .idx (.var 2) (.op2 .mod (.call p0 (.cons (.var 0) (.cons (.op2 .add (.con (.int 10)) (.var 5)) .nil)) 0) (.con (.int 8)))))
    (.cons (.ite (.and (.op2 .nin (.var 6) (.peek 3)) (.op2 .le (.op2 .sub (.op1 .len (.var 6)) (.con (.int 1))) (.var 4))) (.cons (.app 3 (.var 6))
    (.cons (.asg (.nm 4) (.op2 .add (.op2 .sub (.var 4) (.op1 .len (.var 6))) (.con (.int 1)))) .nil)) (.nil)) .nil)))
    (.cons (.retO 3) .nil))))))
/-- _law_at: p0 _law_sum, p1 _law_times -/
def b_law_at (p0 p1 : Nat) : Ss :=
  (.cons (.asg (.nm 2) (.tup (.cons (.con (.int 0)) (.cons (.con (.int 1)) .nil))))
    (.cons (.for_ (.nm 3) (.seq (.revs (.var 0))) (.cons (.asg (.nm 2) (.call p0 (.cons (.call p1 (.cons (.var 2) (.cons (.var 1) .nil)) 0) (.cons (.var 3) .nil)) 0)) .nil))
    (.cons (.ret (.var 2)) .nil)))
/-- _law_slope: p0 _law_times -/
def b_law_slope [Nm] (p0 : Nat) : Ss :=
  (.cons (.ret (.cmp (.call p0 (.cons (.var 2) (.cons (.tup (.cons (.op2 .add (.var 1) (.con (.int 1))) (.cons (.con (.int 1)) .nil))) .nil)) 0) (.tp (.cons (.nm 1) (.cons (.nm 2) .nil))) (.enum (.slc (.var 0) (.some (.con (.int 1))) .none)) .none [(Nm.n 1, 1), (Nm.n 2, 2)])) .nil)
/-- law: p0 _law_cell_at, p1 _law_mixed, p2 _law_pieces, p3 _law_sum, p4 _law_lowest, p5 _law_product, p6 log_slope, p7 _law_at, p8 _law_times, p9 _law_slope, p10 q_at, p11 quotient -/
def b_law_8 (p0 p1 p2 p3 p4 p5 p6 p7 p8 p9 p10 p11 : Nat) : Ss :=
  (.cons (.for_ (.nm 1) (.rng1 (.op2 .max2 (.con (.int 1)) (.op2 .min2 (.op1 .len (.var 0)) (.con (.int 12))))) (.cons (.asg (.nm 2) (.call p0 (.cons (.var 0) (.cons (.var 1) .nil)) 0))
    (.cons (.asgO 3 (.lst .nil))
    (.cons (.asg (.nm 4) (.lst (.cons (.tup (.cons (.con (.int 1)) (.cons (.con (.int 1)) .nil))) .nil)))
    (.cons (.asg (.nm 5) (.tup (.cons (.op1 .neg (.op2 .mod (.call p1 (.cons (.var 2) (.cons (.con (.int 29)) .nil)) 0) (.op2 .pow (.con (.int 10)) (.con (.int 9))))) (.cons (.con (.int 1)) .nil))))
    (.cons (.for_ (.tp (.cons (.nm 8) (.cons (.nm 9) .nil))) (.enum (.slc (.call p2 (.cons (.var 2) (.cons (.con (.int 6)) .nil)) 0) .none (.some (.con (.int 3))))) (.cons (.asg (.nm 10) (.op2 .mod (.op2 .mul (.call p1 (.cons (.var 2) (.cons (.op2 .add (.con (.int 30)) (.var 8)) .nil)) 0) (.con (.int 499))) (.op2 .idx (.lst (.cons (.op2 .pow (.con (.int 10)) (.con (.int 3))) (.cons (.op2 .pow (.con (.int 10)) (.con (.int 12))) .nil))) (.op2 .mod (.op2 .fdiv (.var 2) (.con (.int 3))) (.con (.int 2))))))
    (.cons (.asg (.nm 5) (.call p3 (.cons (.var 5) (.cons (.call p4 (.cons (.op2 .add (.con (.int 1)) (.var 10)) (.cons (.op2 .add (.con (.int 1)) (.op2 .mod (.call p1 (.cons (.var 2) (.cons (.op2 .add (.con (.int 40)) (.var 8)) .nil)) 0) (.op2 .pow (.con (.int 10)) (.con (.int 6))))) .nil)) 0) .nil)) 0))
    (.cons (.ite (.op2 .eq (.var 5) (.tup (.cons (.con (.int 0)) (.cons (.con (.int 1)) .nil)))) (.cons (.asg (.nm 5) (.tup (.cons (.con (.int 1)) (.cons (.con (.int 1)) .nil)))) .nil) (.nil))
    (.cons (.app 3 (.tup (.cons (.var 5) (.cons (.op1 .tuple (.var 9)) .nil))))
    (.cons (.asg (.nm 4) (.call p5 (.cons (.var 4) (.cons (.var 9) .nil)) 0)) .nil))))))
    (.cons (.frz 3)
    (.cons (.asg (.nm 6) (.call p6 (.cons (.var 3) .nil) 0))
    (.cons (.ite (.or (.op2 .ne (.op2 .idx (.var 6) (.con (.int 1))) (.op1 .tuple (.var 4))) (.op2 .ne (.call p6 (.cons (.op1 .tuple (.var 3)) .nil) 0) (.var 6))) (.cons (.ret (.con (.bool false))) .nil) (.nil))
    (.cons (.for_ (.nm 7) (.seq (.lst (.cons (.tup (.cons (.con (.int 5)) (.cons (.con (.int 1)) .nil))) (.cons (.tup (.cons (.op1 .neg (.con (.int 7))) (.cons (.con (.int 3)) .nil))) (.cons (.tup (.cons (.con (.int 11)) (.cons (.con (.int 2)) .nil))) (.cons (.tup (.cons (.con (.int 4)) (.cons (.con (.int 5)) .nil))) (.cons (.tup (.cons (.op1 .neg (.con (.int 9))) (.cons (.con (.int 1)) .nil))) (.cons (.tup (.cons (.con (.int 100)) (.cons (.con (.int 7)) .nil))) (.cons (.tup (.cons (.con (.int 2)) (.cons (.con (.int 3)) .nil))) .nil))))))))) (.cons (.asg (.nm 11) (.tup (.cons (.con (.int 0)) (.cons (.con (.int 1)) .nil))))
    (.cons (.for_ (.tp (.cons (.nm 5) (.cons (.nm 9) .nil))) (.seq (.var 3)) (.cons (.asg (.nm 12) (.call p7 (.cons (.var 9) (.cons (.var 7) .nil)) 0))
    (.cons (.asg (.nm 13) (.call p8 (.cons (.call p7 (.cons (.call p9 (.cons (.var 9) .nil) 0) (.cons (.var 7) .nil)) 0) (.cons (.revs (.var 12)) .nil)) 0))
    (.cons (.asg (.nm 11) (.call p3 (.cons (.var 11) (.cons (.call p8 (.cons (.var 5) (.cons (.var 13) .nil)) 0) .nil)) 0)) .nil))))
    (.cons (.ite (.op2 .ne (.call p10 (.cons (.var 6) (.cons (.var 7) .nil)) 0) (.var 11)) (.cons (.ret (.con (.bool false))) .nil) (.nil)) .nil)))) .nil))))))))))
    (.cons (.ret (.op2 .eq (.call p6 (.cons (.lst .nil) .nil) 0) (.call p11 (.cons (.tup .nil) (.cons (.tup (.cons (.tup (.cons (.con (.int 1)) (.cons (.con (.int 1)) .nil))) .nil)) .nil)) 0))) .nil))
end AW

/-! AwB6: bodies. -/
namespace AW
open PySem
/-- row_at: p0 NOUGHT, p1 about, p2 turned, p3 plus, p4 negated, p5 by -/
def b_row_at (p0 p1 p2 p3 p4 p5 : Nat) : Ss :=
  (.cons (.ite (.op2 .eq (.op2 .idx (.var 0) (.con (.int 0))) (.tup .nil)) (.cons (.ret (.tup (.cons (.con (.int 0)) (.cons (.op2 .mul (.tup (.cons (.glb p0) .nil)) (.var 2)) .nil)))) .nil) (.nil))
    (.cons (.asg (.tp (.cons (.nm 6) (.cons (.nm 7) (.cons (.nm 8) .nil)))) (.call p1 (.cons (.var 0) (.cons (.var 1) .nil)) 0))
    (.cons (.asg (.nm 3) (.call p2 (.cons (.op2 .idx (.var 7) (.con (.int 0))) .nil) 0))
    (.cons (.asgO 4 (.lst .nil))
    (.cons (.for_ (.nm 5) (.rng1 (.var 2)) (.cons (.asg (.nm 9) (.ife (.op2 .lt (.var 5) (.op1 .len (.var 6))) (.op2 .idx (.var 6) (.var 5)) (.glb p0)))
    (.cons (.for_ (.nm 10) (.rng2 (.con (.int 1)) (.op2 .add (.op2 .min2 (.var 5) (.op2 .sub (.op1 .len (.var 7)) (.con (.int 1)))) (.con (.int 1)))) (.cons (.asg (.nm 9) (.call p3 (.cons (.var 9) (.cons (.call p4 (.cons (.call p5 (.cons (.op2 .idx (.var 7) (.var 10)) (.cons (.op2 .idx (.peek 4) (.op2 .sub (.var 5) (.var 10))) .nil)) 0) .nil) 0) .nil)) 0)) .nil))
    (.cons (.app 4 (.call p5 (.cons (.var 9) (.cons (.var 3) .nil)) 0)) .nil))))
    (.cons (.frz 4)
    (.cons (.ret (.tup (.cons (.var 8) (.cons (.op1 .tuple (.var 4)) .nil)))) .nil)))))))
/-- _law_total: p0 _law_sum -/
def b_law_total (p0 : Nat) : Ss :=
  (.cons (.asg (.nm 1) (.tup (.cons (.con (.int 0)) (.cons (.con (.int 1)) .nil))))
    (.cons (.for_ (.nm 2) (.seq (.var 0)) (.cons (.asg (.nm 1) (.call p0 (.cons (.var 1) (.cons (.var 2) .nil)) 0)) .nil))
    (.cons (.ret (.var 1)) .nil)))
/-- _law_moved: p0 _law_product, p1 _law_sum -/
def b_law_moved (p0 p1 : Nat) : Ss :=
  (.cons (.asgO 2 (.lst .nil))
    (.cons (.for_ (.nm 3) (.seq (.revs (.var 0))) (.cons (.frz 2)
    (.cons (.asgO 2 (.or (.call p0 (.cons (.var 2) (.cons (.lst (.cons (.var 1) (.cons (.tup (.cons (.con (.int 1)) (.cons (.con (.int 1)) .nil))) .nil))) .nil)) 0) (.lst (.cons (.tup (.cons (.con (.int 0)) (.cons (.con (.int 1)) .nil))) .nil))))
    (.cons (.setI 2 (.con (.int 0)) (.call p1 (.cons (.op2 .idx (.peek 2) (.con (.int 0))) (.cons (.var 3) .nil)) 0)) .nil))))
    (.cons (.retO 2) .nil)))
/-- _law_about: p0 _law_moved -/
def b_law_about (p0 : Nat) : Ss :=
  (.cons (.ite (.op2 .is_ (.var 1) (.con .none)) (.cons (.ret (.tup (.cons (.revs (.op1 .list (.op2 .idx (.var 0) (.con (.int 0))))) (.cons (.revs (.op1 .list (.op2 .idx (.var 0) (.con (.int 1))))) (.cons (.op2 .sub (.op1 .len (.op2 .idx (.var 0) (.con (.int 1)))) (.op1 .len (.op2 .idx (.var 0) (.con (.int 0))))) .nil))))) .nil) (.nil))
    (.cons (.asgO 2 (.lst .nil))
    (.cons (.asg (.nm 3) (.con (.int 0)))
    (.cons (.for_ (.tp (.cons (.nm 4) (.cons (.nm 5) .nil))) (.seq (.lst (.cons (.tup (.cons (.op2 .idx (.var 0) (.con (.int 0))) (.cons (.con (.int 1)) .nil))) (.cons (.tup (.cons (.op2 .idx (.var 0) (.con (.int 1))) (.cons (.op1 .neg (.con (.int 1))) .nil))) .nil)))) (.cons (.asg (.nm 6) (.call p0 (.cons (.var 4) (.cons (.var 1) .nil)) 0))
    (.cons (.whl (.op2 .eq (.op2 .idx (.var 6) (.con (.int 0))) (.tup (.cons (.con (.int 0)) (.cons (.con (.int 1)) .nil)))) (.cons (.asg (.nm 6) (.slc (.var 6) (.some (.con (.int 1))) .none))
    (.cons (.asg (.nm 3) (.op2 .add (.var 3) (.var 5))) .nil)))
    (.cons (.app 2 (.var 6)) .nil))))
    (.cons (.frz 2)
    (.cons (.ret (.tup (.cons (.op2 .idx (.var 2) (.con (.int 0))) (.cons (.op2 .idx (.var 2) (.con (.int 1))) (.cons (.var 3) .nil))))) .nil))))))
/-- _law_right: p0 _law_about, p1 _law_times, p2 _law_total -/
def b_law_right_3 [Nm] (p0 p1 p2 : Nat) : Ss :=
  (.cons (.ite (.op2 .eq (.op2 .idx (.var 0) (.con (.int 0))) (.tup .nil)) (.cons (.ret (.op2 .eq (.var 2) (.tup (.cons (.con (.int 0)) (.cons (.op2 .mul (.tup (.cons (.tup (.cons (.con (.int 0)) (.cons (.con (.int 1)) .nil))) .nil)) (.var 3)) .nil))))) .nil) (.nil))
    (.cons (.asg (.tp (.cons (.nm 6) (.cons (.nm 7) (.cons (.nm 8) .nil)))) (.call p0 (.cons (.var 0) (.cons (.var 1) .nil)) 0))
    (.cons (.ite (.or (.not (.isi (.var 2) [.bi "tuple"])) (.or (.op2 .ne (.op2 .idx (.var 2) (.con (.int 0))) (.var 8)) (.not (.isi (.op2 .idx (.var 2) (.con (.int 1))) [.bi "tuple"])))) (.cons (.ret (.con (.bool false))) .nil) (.nil))
    (.cons (.asg (.nm 4) (.op2 .idx (.var 2) (.con (.int 1))))
    (.cons (.ite (.or (.op2 .ne (.op1 .len (.var 4)) (.var 3)) (.and (.op2 .gt (.var 3) (.con (.int 0))) (.op2 .eq (.op2 .idx (.var 4) (.con (.int 0))) (.tup (.cons (.con (.int 0)) (.cons (.con (.int 1)) .nil)))))) (.cons (.ret (.con (.bool false))) .nil) (.nil))
    (.cons (.for_ (.nm 5) (.rng1 (.var 3)) (.cons (.asgC 9 false (.cmp (.call p1 (.cons (.op2 .idx (.var 4) (.var 10)) (.cons (.op2 .idx (.var 7) (.op2 .sub (.var 5) (.var 10))) .nil)) 0) (.nm 10) (.rng1 (.op2 .add (.var 5) (.con (.int 1)))) (.some (.op2 .lt (.op2 .sub (.var 5) (.var 10)) (.op1 .len (.var 7)))) [(Nm.n 10, 10)]))
    (.cons (.ite (.op2 .ne (.call p2 (.cons (.var 9) .nil) 0) (.op2 .idx (.op2 .add (.var 6) (.rep (.cons (.tup (.cons (.con (.int 0)) (.cons (.con (.int 1)) .nil))) .nil) (.var 3))) (.var 5))) (.cons (.ret (.con (.bool false))) .nil) (.nil)) .nil)))
    (.cons (.ret (.con (.bool true))) .nil)))))))
/-- law: p0 _law_cell_at, p1 _law_quotient, p2 _law_place, p3 _law_fraction, p4 row_at, p5 _law_right -/
def b_law_9 (p0 p1 p2 p3 p4 p5 : Nat) : Ss :=
  (.cons (.for_ (.nm 1) (.rng1 (.op2 .max2 (.con (.int 1)) (.op2 .min2 (.op1 .len (.var 0)) (.con (.int 8))))) (.cons (.asg (.nm 2) (.call p0 (.cons (.var 0) (.cons (.var 1) .nil)) 0))
    (.cons (.asg (.nm 3) (.call p1 (.cons (.var 2) (.cons (.con (.int 2)) .nil)) 0))
    (.cons (.asg (.nm 4) (.lst (.cons (.call p2 (.cons (.op2 .fdiv (.var 2) (.con (.int 5))) .nil) 0) (.cons (.call p3 (.cons (.op2 .fdiv (.var 2) (.con (.int 7))) .nil) 0) (.cons (.con .none) .nil)))))
    (.cons (.asg (.nm 5) (.op2 .mod (.op2 .fdiv (.var 2) (.con (.int 9))) (.con (.int 11))))
    (.cons (.ite (.op2 .eq (.var 1) (.con (.int 3))) (.cons (.par [4, 5] (.cons (.lst (.cons (.op2 .idx (.lst (.cons (.tup (.cons (.con (.int 0)) (.cons (.con (.int 1)) .nil))) (.cons (.tup (.cons (.con (.int 1)) (.cons (.con (.int 1)) .nil))) (.cons (.con .none) .nil)))) (.op2 .mod (.var 2) (.con (.int 3)))) .nil)) (.cons (.con (.int 40)) .nil))) .nil) (.nil))
    (.cons (.for_ (.nm 6) (.seq (.var 4)) (.cons (.asg (.nm 7) (.call p4 (.cons (.var 3) (.cons (.var 6) (.cons (.var 5) .nil))) 0))
    (.cons (.ite (.or (.not (.call p5 (.cons (.var 3) (.cons (.var 6) (.cons (.var 7) (.cons (.var 5) .nil)))) 0)) (.op2 .ne (.call p4 (.cons (.var 3) (.cons (.var 6) (.cons (.var 5) .nil))) 0) (.var 7))) (.cons (.ret (.con (.bool false))) .nil) (.nil)) .nil))) .nil)))))))
    (.cons (.ret (.con (.bool true))) .nil))
end AW

/-! AwB7: bodies. -/
namespace AW
open PySem
/-- _law_refused: p0 poly_parted -/
def b_law_refused (p0 : Nat) : Ss :=
  (.cons (.asg (.nm 1) (.con .none))
    (.cons (.tryA 2 1 [0, 1, 2, 3, 4, 5, 6, 7, 8] (.cons (.exp (.call p0 (.cons (.var 0) (.cons (.tup .nil) .nil)) 0)) .nil))
    (.cons (.asg (.nm 3) (.isE 1 [0, 1, 2, 3, 4, 5, 6, 7, 8] [.ow 0, .ow 2, .ow 3, .ow 4]))
    (.cons (.asg (.nm 3) (.or (.var 3) (.isE 1 [0, 1, 2, 3, 4, 5, 6, 7, 8] [.ow 5, .ow 6, .ow 7, .ow 8])))
    (.cons (.ret (.and (.isE 1 [0, 1, 2, 3, 4, 5, 6, 7, 8] [.ow 1]) (.and (.isE 1 [0, 1, 2, 3, 4, 5, 6, 7, 8] [.ve]) (.not (.var 3))))) .nil)))))
/-- law: p0 _law_mixed, p1 _law_drawn, p2 _law_low, p3 _law_multiplied, p4 poly_parted, p5 is_poly, p6 _law_added, p7 _law_refused -/
def b_law_10 [Nm] (p0 p1 p2 p3 p4 p5 p6 p7 : Nat) : Ss :=
  (.cons (.for_ (.tp (.cons (.nm 1) (.cons (.nm 2) .nil))) (.enum (.op2 .add (.slc (.var 0) .none (.some (.con (.int 40)))) (.lst (.cons (.con (.int 0)) (.cons (.con (.int 1)) .nil))))) (.cons (.asg (.nm 3) (.call p0 (.cons (.var 2) (.cons (.var 1) .nil)) 0))
    (.cons (.asg (.nm 4) (.call p1 (.cons (.call p0 (.cons (.var 3) (.cons (.con (.int 2)) .nil)) 0) (.cons (.con (.int 7)) .nil)) 0))
    (.cons (.asg (.nm 5) (.op2 .add (.call p1 (.cons (.call p0 (.cons (.var 3) (.cons (.con (.int 3)) .nil)) 0) (.cons (.con (.int 4)) .nil)) 0) (.tup (.cons (.call p2 (.cons (.op2 .add (.con (.int 1)) (.op2 .mod (.var 3) (.con (.int 9)))) (.cons (.op2 .add (.con (.int 1)) (.op2 .mod (.op2 .fdiv (.var 3) (.con (.int 9))) (.con (.int 4)))) .nil)) 0) .nil))))
    (.cons (.asg (.nm 6) (.call p1 (.cons (.call p0 (.cons (.var 3) (.cons (.con (.int 4)) .nil)) 0) (.cons (.con (.int 3)) .nil)) 0))
    (.cons (.ite (.op2 .eq (.op2 .mod (.op2 .fdiv (.var 3) (.con (.int 36))) (.con (.int 3))) (.con (.int 1))) (.cons (.asg (.nm 4) (.call p3 (.cons (.var 5) (.cons (.var 6) .nil)) 0)) .nil) (.nil))
    (.cons (.asg (.nm 7) (.call p4 (.cons (.var 4) (.cons (.var 5) .nil)) 0))
    (.cons (.ite (.or (.not (.isi (.var 7) [.bi "tuple"])) (.or (.op2 .ne (.op1 .len (.var 7)) (.con (.int 2))) (.op2 .inn (.con (.bool false)) (.cmp (.call p5 (.cons (.var 10) .nil) 0) (.nm 10) (.seq (.var 7)) .none [(Nm.n 10, 10)])))) (.cons (.ret (.con (.bool false))) .nil) (.nil))
    (.cons (.asg (.tp (.cons (.nm 8) (.cons (.nm 9) .nil))) (.var 7))
    (.cons (.ite (.or (.op2 .ge (.op1 .len (.var 9)) (.op1 .len (.var 5))) (.op2 .ne (.call p6 (.cons (.call p3 (.cons (.var 8) (.cons (.var 5) .nil)) 0) (.cons (.var 9) .nil)) 0) (.var 4))) (.cons (.ret (.con (.bool false))) .nil) (.nil))
    (.cons (.ite (.and (.op2 .eq (.op2 .mod (.op2 .fdiv (.var 3) (.con (.int 36))) (.con (.int 3))) (.con (.int 1))) (.op2 .ne (.var 7) (.tup (.cons (.var 6) (.cons (.tup .nil) .nil))))) (.cons (.ret (.con (.bool false))) .nil) (.nil))
    (.cons (.ite (.or (.op2 .ne (.call p4 (.cons (.var 4) (.cons (.var 5) .nil)) 0) (.var 7)) (.not (.call p7 (.cons (.var 4) .nil) 0))) (.cons (.ret (.con (.bool false))) .nil) (.nil)) .nil))))))))))))
    (.cons (.ret (.con (.bool true))) .nil))
end AW

/-! AwFr: fractions: pairs of ints as the text has them, against core's Rat. -/
namespace AW
open PySem PySem.Spec PyProof.Rows

/-- a fraction as data -/
def fr (q : Rat) : D := .tuple [.int q.num, .int (q.den : Int)]
section
variable {G : Nat → D} {c : Nat → List Sl → R (D × Bool)} {T : List Fn} {nm : Nm}
/-- what a def's body hands back from its arguments; n: how many names are left -/
noncomputable def bo (G : Nat → D) (c : Nat → List Sl → R (D × Bool)) (T : List Fn) (b : Ss) (ss : List Sl) (n : Nat) : R (D × Bool) := outF (evSs G c (dflT T) b (ss ++ List.replicate n .un))
theorem callN_bo {G : Nat → D} {T : List Fn} {j k : Nat} {f : Fn} {ss : List Sl} (hk : j < k) (h : T[j]? = some f) (hl : ss.length = f.ps.length) :
    callN G T k j ss = bo G (callN G T j) T f.body ss (f.N.length - f.ps.length) := by
  rw [callN_lt hk, callN_at h hl, hl]
  rfl
@[simp] theorem dflT_zero (j : Nat) : dflT T j 0 = [] := by
  unfold dflT
  cases T[j]? with
  | none => rfl
  | some g => exact List.drop_length
/-- data that is handed back -/
abbrev va (d : D) : R (D × Bool) := .ok (d, false)

/-! ### is_whole, common_number -/
def SpWhole (c : Nat → List Sl → R (D × Bool)) (j : Nat) : Prop := ∀ i : Int, c j [.va (.int i)] = va (.bool true)
theorem whole_ok (i : Int) : bo G c T b_is_whole [.va (.int i)] 0 = va (.bool true) := rfl
def SpGcd (c : Nat → List Sl → R (D × Bool)) (j : Nat) : Prop := ∀ m n : Nat, c j [.va (.int m), .va (.int n)] = va (.int (Nat.gcd m n : Nat))
theorem gcd_loop (tl : En) : ∀ n m : Nat, whileR (evT G c (dflT T) (.op2 .gt (.var 1) (.con (.int 0)))) (evSs G c (dflT T) (.cons (.par [0, 1] (.cons (.var 1) (.cons (.op2 .mod (.var 0) (.var 1)) .nil))) .nil)) (.va (.int m) :: .va (.int n) :: tl)
    = .ok (.nx (.va (.int (Nat.gcd m n : Nat)) :: .va (.int 0) :: tl)) := by
  intro n
  induction n using Nat.strongRecOn with
  | _ n ih =>
    intro m
    by_cases h : n = 0
    · subst h
      rw [whileR_stop (by simp [val])]
      simp
    · rw [whileR_step (by simp [val]; omega)]
      have hm : (m : Int).fmod (n : Int) = ((m % n : Nat) : Int) := by rw [Int.fmod_eq_emod_of_nonneg _ (by omega)]; rfl
      simp [val, h, nextFl]
      rw [hm, ih (m % n) (Nat.mod_lt _ (by omega)) n, Nat.gcd_comm n, Nat.gcd_comm m n, Nat.gcd_rec n m]
theorem gcd_ok (m n : Nat) : bo G c T b_common_number [.va (.int m), .va (.int n)] 0 = va (.int (Nat.gcd m n : Nat)) := by
  unfold bo b_common_number
  simp only [List.replicate_zero, List.append_nil, ess_cons, es_whl]
  rw [gcd_loop]
  simp [val]
end

/-! ### a fraction made -/
theorem fr_made {a b : Int} (hb : b ≠ 0) : fr (Rat.divInt a b) = .tuple [.int (a.fdiv (if b < 0 then -((Nat.gcd a.natAbs b.natAbs : Nat) : Int) else ((Nat.gcd a.natAbs b.natAbs : Nat) : Int))), .int (b.fdiv (if b < 0 then -((Nat.gcd a.natAbs b.natAbs : Nat) : Int) else ((Nat.gcd a.natAbs b.natAbs : Nat) : Int)))] := by
  have hg : 0 < Nat.gcd a.natAbs b.natAbs := Nat.gcd_pos_of_pos_right _ (by omega)
  have da : ((Nat.gcd a.natAbs b.natAbs : Nat) : Int) ∣ a := Int.ofNat_dvd_left.mpr (Nat.gcd_dvd_left _ _)
  have db : ((Nat.gcd a.natAbs b.natAbs : Nat) : Int) ∣ b := Int.ofNat_dvd_left.mpr (Nat.gcd_dvd_right _ _)
  have e : (b.gcd a) = Nat.gcd a.natAbs b.natAbs := Nat.gcd_comm _ _
  unfold fr
  rw [Rat.num_divInt, Rat.den_divInt, if_neg hb, e]
  generalize Nat.gcd a.natAbs b.natAbs = g at *
  obtain ⟨x, rfl⟩ := da
  obtain ⟨y, rfl⟩ := db
  have hg' : (g : Int) ≠ 0 := by omega
  by_cases h : (g : Int) * y < 0
  · have hs : ((g : Int) * y).sign = -1 := Int.sign_eq_neg_one_of_neg h
    have hy : y < 0 := by
      rcases (by omega : y < 0 ∨ 0 ≤ y) with z | z
      · exact z
      · have := Int.mul_nonneg (show (0 : Int) ≤ g by omega) z; omega
    rw [if_pos h, hs]
    have e1 : -1 * ((g : Int) * x) / (g : Int) = -x := by
      rw [show -1 * ((g : Int) * x) = (g : Int) * (-x) by grind, Int.mul_ediv_cancel_left _ hg']
    have e2 : ((g : Int) * x).fdiv (-(g : Int)) = -x := by
      rw [show (g : Int) * x = (-x) * (-(g : Int)) by grind, Int.mul_fdiv_cancel _ (by omega)]
    have e3 : ((g : Int) * y).fdiv (-(g : Int)) = -y := by
      rw [show (g : Int) * y = (-y) * (-(g : Int)) by grind, Int.mul_fdiv_cancel _ (by omega)]
    have e4 : ((((g : Int) * y).natAbs / g : Nat) : Int) = -y := by
      rw [Int.natAbs_mul, Int.natAbs_natCast, Nat.mul_div_cancel_left _ hg]
      omega
    rw [e1, e2, e3, e4]
  · have hy : 0 < y := by
      rcases (by omega : 0 < y ∨ y ≤ 0) with z | z
      · exact z
      · have : (g : Int) * y ≤ 0 := Int.mul_nonpos_of_nonneg_of_nonpos (by omega) z
        exact absurd (by omega : (g : Int) * y = 0) hb
    have hs : ((g : Int) * y).sign = 1 := Int.sign_eq_one_of_pos (by omega)
    rw [if_neg h, hs]
    have e1 : 1 * ((g : Int) * x) / (g : Int) = x := by
      rw [Int.one_mul, Int.mul_ediv_cancel_left _ hg']
    have e2 : ((g : Int) * x).fdiv (g : Int) = x := by
      rw [Int.mul_comm, Int.mul_fdiv_cancel _ (by omega)]
    have e3 : ((g : Int) * y).fdiv (g : Int) = y := by
      rw [Int.mul_comm, Int.mul_fdiv_cancel _ (by omega)]
    have e4 : ((((g : Int) * y).natAbs / g : Nat) : Int) = y := by
      rw [Int.natAbs_mul, Int.natAbs_natCast, Nat.mul_div_cancel_left _ hg]
      omega
    rw [e1, e2, e3, e4]
section
variable {G : Nat → D} {c : Nat → List Sl → R (D × Bool)} {T : List Fn} {nm : Nm}
def SpFrac (c : Nat → List Sl → R (D × Bool)) (j : Nat) : Prop := ∀ a b : Int, b ≠ 0 → c j [.va (.int a), .va (.int b)] = va (fr (Rat.divInt a b))
theorem frac_ok {jw e jg : Nat} (hw : SpWhole c jw) (hg : SpGcd c jg) {a b : Int} (hb : b ≠ 0) : bo G c T (b_fraction jw e jg) [.va (.int a), .va (.int b)] 1 = va (fr (Rat.divInt a b)) := by
  have h0 : ∀ {a b : Int}, b ≠ 0 → Nat.gcd a.natAbs b.natAbs ≠ 0 := fun {a b} hb => by
    have := Nat.gcd_pos_of_pos_right a.natAbs (show 0 < b.natAbs by omega)
    omega
  rw [fr_made hb]
  unfold bo b_fraction
  by_cases h : b < 0
  · have := @h0 a b hb
    simp [val, hw a, hw b, hb, hg a.natAbs b.natAbs, h, line, this]
  · have := @h0 a b hb
    simp [val, hw a, hw b, hb, hg a.natAbs b.natAbs, h, line, this]
end
end AW

/-! AwPS: power series over core's Rat, a commutative ring; rows of coefficients. -/
namespace AW
@[ext] structure PS where
  f : Nat → Rat
namespace PS
def conv (f g : Nat → Rat) : Nat → Rat
  | 0 => f 0 * g 0
  | n + 1 => f 0 * g (n + 1) + conv (fun k => f (k + 1)) g n
theorem conv_add_l (f f' g : Nat → Rat) (n : Nat) : conv (fun k => f k + f' k) g n = conv f g n + conv f' g n := by
  induction n generalizing f f' with
  | zero => simp only [conv]; grind
  | succ n ih => simp only [conv]; rw [ih]; grind
theorem conv_add_r (f g g' : Nat → Rat) (n : Nat) : conv f (fun k => g k + g' k) n = conv f g n + conv f g' n := by
  induction n generalizing f with
  | zero => simp only [conv]; grind
  | succ n ih => simp only [conv]; rw [ih]; grind
theorem conv_smul_l (a : Rat) (f g : Nat → Rat) (n : Nat) : conv (fun k => a * f k) g n = a * conv f g n := by
  induction n generalizing f with
  | zero => simp only [conv]; grind
  | succ n ih => simp only [conv]; rw [ih]; grind
theorem conv_zero_l (g : Nat → Rat) (n : Nat) : conv (fun _ => 0) g n = 0 := by
  induction n with
  | zero => simp only [conv]; grind
  | succ n ih => simp only [conv]; rw [ih]; grind
theorem conv_zero_r (f : Nat → Rat) (n : Nat) : conv f (fun _ => 0) n = 0 := by
  induction n generalizing f with
  | zero => simp only [conv]; grind
  | succ n ih => simp only [conv]; rw [ih]; grind
/-- the other end -/
theorem conv_end (f g : Nat → Rat) (n : Nat) : conv f g (n + 1) = conv f (fun k => g (k + 1)) n + f (n + 1) * g 0 := by
  induction n generalizing f with
  | zero => simp only [conv]
  | succ n ih =>
    have e := ih (fun k => f (k + 1))
    rw [conv, e]
    simp only [conv]
    grind
theorem conv_comm (f g : Nat → Rat) (n : Nat) : conv f g n = conv g f n := by
  induction n generalizing f g with
  | zero => simp only [conv]; grind
  | succ n ih => rw [conv_end, ih]; simp only [conv]; grind
theorem conv_assoc (f g h : Nat → Rat) (n : Nat) : conv (conv f g) h n = conv f (conv g h) n := by
  induction n generalizing f with
  | zero => simp only [conv]; grind
  | succ n ih =>
    have e : (fun k => conv f g (k + 1)) = fun k => f 0 * g (k + 1) + conv (fun k => f (k + 1)) g k := by funext k; rfl
    rw [conv, e, conv_add_l, conv_smul_l, ih]
    simp only [conv]
    grind
def C (a : Rat) : PS := ⟨fun n => if n = 0 then a else 0⟩
theorem conv_C (a : Rat) (g : Nat → Rat) (n : Nat) : conv (C a).f g n = a * g n := by
  cases n with
  | zero => rfl
  | succ n =>
    show a * g (n + 1) + conv (fun k => if k + 1 = 0 then a else 0) g n = _
    rw [show (fun k : Nat => if k + 1 = 0 then a else 0) = fun _ => 0 by funext k; rw [if_neg (by omega)], conv_zero_l]
    grind
instance : Add PS := ⟨fun a b => ⟨fun n => a.f n + b.f n⟩⟩
instance : Mul PS := ⟨fun a b => ⟨conv a.f b.f⟩⟩
instance : Neg PS := ⟨fun a => ⟨fun n => -a.f n⟩⟩
instance : Sub PS := ⟨fun a b => ⟨fun n => a.f n - b.f n⟩⟩
instance : NatCast PS := ⟨fun n => C n⟩
instance : IntCast PS := ⟨fun n => C n⟩
instance instOfNat (n : Nat) : OfNat PS n := ⟨C n⟩
def pow (a : PS) : Nat → PS
  | 0 => 1
  | n + 1 => pow a n * a
instance : HPow PS Nat PS := ⟨pow⟩
instance : SMul Nat PS := ⟨fun n a => C n * a⟩
instance : SMul Int PS := ⟨fun n a => C n * a⟩
@[simp] theorem add_f (a b : PS) (n : Nat) : (a + b).f n = a.f n + b.f n := rfl
@[simp] theorem sub_f (a b : PS) (n : Nat) : (a - b).f n = a.f n - b.f n := rfl
@[simp] theorem neg_f (a : PS) (n : Nat) : (-a).f n = -a.f n := rfl
theorem mul_f (a b : PS) (n : Nat) : (a * b).f n = conv a.f b.f n := rfl
@[simp] theorem C_mul (a : Rat) (b : PS) (n : Nat) : (C a * b).f n = a * b.f n := conv_C a b.f n
theorem ofNat_C (n : Nat) : (OfNat.ofNat n : PS) = C n := rfl
theorem C0 : (0 : PS) = ⟨fun _ => 0⟩ := by
  ext n
  show (if n = 0 then ((0 : Nat) : Rat) else 0) = 0
  split <;> rfl
@[simp] theorem zero_f (n : Nat) : (0 : PS).f n = 0 := by rw [C0]
theorem mulc (a b : PS) : a * b = b * a := by ext n; exact conv_comm _ _ _
theorem add_z (a : PS) : a + 0 = a := by ext n; rw [add_f, zero_f]; grind
theorem C_add (a b : Rat) : C (a + b) = C a + C b := by
  ext n
  show (if n = 0 then a + b else 0) = (if n = 0 then a else 0) + (if n = 0 then b else 0)
  split <;> grind
theorem C_neg (a : Rat) : C (-a) = -C a := by
  ext n
  show (if n = 0 then -a else 0) = -(if n = 0 then a else 0)
  split <;> grind
theorem C_mulC (a b : Rat) : C (a * b) = C a * C b := by
  ext n
  rw [C_mul]
  show (if n = 0 then a * b else 0) = a * (if n = 0 then b else 0)
  split <;> grind
theorem C_zero : C 0 = 0 := by rw [C0]; ext n; show (if n = 0 then (0 : Rat) else 0) = 0; split <;> rfl
theorem C_one : C 1 = 1 := rfl
theorem one_m (a : PS) : 1 * a = a := by
  ext n
  rw [← C_one, C_mul]
  grind
instance : Lean.Grind.CommRing PS where
  add_zero := add_z
  add_comm a b := by ext n; simp only [add_f]; grind
  add_assoc a b c := by ext n; simp only [add_f]; grind
  mul_assoc a b c := by ext n; exact conv_assoc _ _ _ _
  mul_one a := by rw [mulc]; exact one_m a
  one_mul := one_m
  left_distrib a b c := by ext n; exact conv_add_r _ _ _ _
  right_distrib a b c := by ext n; exact conv_add_l _ _ _ _
  zero_mul a := by ext n; rw [mul_f, C0]; exact conv_zero_l _ _
  mul_zero a := by ext n; rw [mul_f, C0]; exact conv_zero_r _ _
  pow_zero a := rfl
  pow_succ a n := rfl
  ofNat_succ a := by
    show C ((a + 1 : Nat) : Rat) = C (a : Rat) + C 1
    rw [← C_add]
    congr 1
    grind
  ofNat_eq_natCast n := rfl
  neg_add_cancel a := by ext n; rw [add_f, neg_f, zero_f]; grind
  sub_eq_add_neg a b := by ext n; rw [add_f, neg_f, sub_f]; grind
  neg_zsmul i a := by
    ext n
    show (C ((-i : Int) : Rat) * a).f n = -(C (i : Rat) * a).f n
    rw [C_mul, C_mul]
    grind
  mul_comm := mulc
  nsmul_eq_natCast_mul n a := rfl
  zsmul_natCast_eq_nsmul n a := rfl
  intCast_ofNat n := rfl
  intCast_neg i := by
    show C ((-i : Int) : Rat) = -C (i : Rat)
    rw [← C_neg]
    congr 1
example (a b c : PS) : (a + b) * c - a * c = c * b := by grind
/-- x -/
def X : PS := ⟨fun n => if n = 1 then 1 else 0⟩
theorem X_mul (g : PS) (n : Nat) : (X * g).f n = match n with
    | 0 => 0
    | n + 1 => g.f n := by
  cases n with
  | zero => show (0 : Rat) * g.f 0 = 0; grind
  | succ n =>
    show (0 : Rat) * g.f (n + 1) + conv (fun k => if k + 1 = 1 then 1 else 0) g.f n = g.f n
    rw [show (fun k : Nat => if k + 1 = 1 then (1 : Rat) else 0) = (C 1).f by funext k; show _ = if k = 0 then (1 : Rat) else 0; by_cases h : k = 0 <;> simp [h], conv_C]
    grind
end PS
open PS
/-! ### rows of coefficients -/
/-- the series of a row, low first -/
def ser : List Rat → PS
  | [] => 0
  | a :: p => C a + X * ser p
def trim : List Rat → List Rat
  | [] => []
  | a :: p => if trim p = [] ∧ a = 0 then [] else a :: trim p
theorem ser_f : ∀ (p : List Rat) (n : Nat), (ser p).f n = p.getD n 0
  | [], n => by simp [ser]
  | a :: p, 0 => by
    show (C a).f 0 + (X * ser p).f 0 = a
    rw [X_mul]
    show a + 0 = a
    grind
  | a :: p, n + 1 => by
    show (C a).f (n + 1) + (X * ser p).f (n + 1) = _
    rw [X_mul]
    show 0 + (ser p).f n = _
    rw [ser_f p n, Rat.zero_add]
    simp
theorem ser_inj0 {a b : Rat} {s u : PS} (h : C a + X * s = C b + X * u) : a = b ∧ s = u := by
  have h0 : ∀ n, (C a + X * s).f n = (C b + X * u).f n := fun n => by rw [h]
  constructor
  · have z := h0 0
    rw [add_f, add_f, X_mul, X_mul] at z
    have z : a + 0 = b + 0 := z
    grind
  · ext n
    have z := h0 (n + 1)
    rw [add_f, add_f, X_mul, X_mul] at z
    have z : 0 + s.f n = 0 + u.f n := z
    grind
theorem ser_trim : ∀ p, ser (trim p) = ser p
  | [] => rfl
  | a :: p => by
    have ih := ser_trim p
    unfold trim
    by_cases h : trim p = [] ∧ a = 0
    · rw [if_pos h]
      rw [h.1] at ih
      show (0 : PS) = C a + X * ser p
      rw [← ih, h.2, C_zero]
      show (0 : PS) = 0 + X * 0
      grind
    · rw [if_neg h]
      show C a + X * ser (trim p) = C a + X * ser p
      rw [ih]
theorem trim_nil {p : List Rat} (h : ser p = 0) : trim p = [] := by
  induction p with
  | nil => rfl
  | cons a p ih =>
    have e : C a + X * ser p = C 0 + X * 0 := by
      rw [C_zero]
      show ser (a :: p) = _
      rw [h]
      grind
    obtain ⟨e1, e2⟩ := ser_inj0 e
    unfold trim
    rw [if_pos ⟨ih e2, e1⟩]
theorem trim_ext : ∀ {p q : List Rat}, ser p = ser q → trim p = trim q
  | [], q, h => by rw [trim_nil h.symm]; rfl
  | p, [], h => by rw [trim_nil h]; rfl
  | a :: p, b :: q, h => by
    obtain ⟨e1, e2⟩ := ser_inj0 (show C a + X * ser p = C b + X * ser q from h)
    unfold trim
    rw [trim_ext e2, e1]
theorem trim_trim (p : List Rat) : trim (trim p) = trim p := trim_ext (ser_trim p)
theorem trim_iff {p q : List Rat} : trim p = trim q ↔ ser p = ser q := ⟨fun h => by rw [← ser_trim p, h, ser_trim], trim_ext⟩
theorem ser_append (p q : List Rat) : ser (p ++ q) = ser p + X ^ p.length * ser q := by
  induction p with
  | nil => show ser q = 0 + X ^ 0 * ser q; grind
  | cons a p ih =>
    show C a + X * ser (p ++ q) = C a + X * ser p + X ^ (p.length + 1) * ser q
    rw [ih]
    grind
theorem ser_zeros (k : Nat) : ser (List.replicate k 0) = 0 := by
  induction k with
  | zero => rfl
  | succ k ih => show C 0 + X * ser (List.replicate k 0) = 0; rw [ih, C_zero]; grind
theorem trim_snoc (p : List Rat) (a : Rat) : trim (p ++ [a]) = if a = 0 then trim p else p ++ [a] := by
  induction p with
  | nil => simp [trim]
  | cons b p ih =>
    show (if trim (p ++ [a]) = [] ∧ b = 0 then [] else b :: trim (p ++ [a])) = _
    rw [ih]
    by_cases h : a = 0
    · rw [if_pos h, if_pos h]
      rfl
    · rw [if_neg h, if_neg h, if_neg (by simp)]
      rfl
/-! ### values -/
def hv : List Rat → Rat → Rat
  | [], _ => 0
  | a :: p, x => a + x * hv p x
def addL : List Rat → List Rat → List Rat
  | [], q => q
  | a :: p, [] => a :: p
  | a :: p, b :: q => (a + b) :: addL p q
def mulL : List Rat → List Rat → List Rat
  | [], _ => []
  | a :: p, q => addL (q.map fun b => a * b) (0 :: mulL p q)
theorem ser_add : ∀ p q, ser (addL p q) = ser p + ser q
  | [], q => by show ser q = 0 + ser q; grind
  | a :: p, [] => by show ser (a :: p) = ser (a :: p) + 0; grind
  | a :: p, b :: q => by
    show C (a + b) + X * ser (addL p q) = C a + X * ser p + (C b + X * ser q)
    rw [ser_add p q, C_add]
    grind
theorem ser_smul (a : Rat) : ∀ p, ser (p.map fun b => a * b) = C a * ser p
  | [] => by show (0 : PS) = C a * 0; grind
  | b :: p => by
    show C (a * b) + X * ser (p.map fun b => a * b) = C a * (C b + X * ser p)
    rw [ser_smul a p, C_mulC]
    grind
theorem ser_mul : ∀ p q, ser (mulL p q) = ser p * ser q
  | [], q => by show (0 : PS) = 0 * ser q; grind
  | a :: p, q => by
    show ser (addL (q.map fun b => a * b) (0 :: mulL p q)) = (C a + X * ser p) * ser q
    rw [ser_add, ser_smul]
    show C a * ser q + (C 0 + X * ser (mulL p q)) = _
    rw [ser_mul p q, C_zero]
    grind
theorem hv_trim : ∀ p x, hv (trim p) x = hv p x
  | [], x => rfl
  | a :: p, x => by
    have ih := hv_trim p x
    unfold trim
    by_cases h : trim p = [] ∧ a = 0
    · rw [if_pos h]
      rw [h.1] at ih
      show (0 : Rat) = a + x * hv p x
      rw [← ih, h.2]
      show (0 : Rat) = 0 + x * 0
      grind
    · rw [if_neg h]
      show a + x * hv (trim p) x = a + x * hv p x
      rw [ih]
theorem hv_ser {p q : List Rat} (h : ser p = ser q) (x : Rat) : hv p x = hv q x := by rw [← hv_trim p, trim_ext h, hv_trim]
theorem hv_add : ∀ p q x, hv (addL p q) x = hv p x + hv q x
  | [], q, x => by show hv q x = 0 + hv q x; grind
  | a :: p, [], x => by show hv (a :: p) x = hv (a :: p) x + 0; grind
  | a :: p, b :: q, x => by
    show a + b + x * hv (addL p q) x = a + x * hv p x + (b + x * hv q x)
    rw [hv_add p q]
    grind
theorem hv_smul (a : Rat) : ∀ p x, hv (p.map fun b => a * b) x = a * hv p x
  | [], x => by show (0 : Rat) = a * 0; grind
  | b :: p, x => by
    show a * b + x * hv (p.map fun b => a * b) x = a * (b + x * hv p x)
    rw [hv_smul a p]
    grind
theorem hv_mul : ∀ p q x, hv (mulL p q) x = hv p x * hv q x
  | [], q, x => by show (0 : Rat) = 0 * hv q x; grind
  | a :: p, q, x => by
    show hv (addL (q.map fun b => a * b) (0 :: mulL p q)) x = (a + x * hv p x) * hv q x
    rw [hv_add, hv_smul]
    show a * hv q x + (0 + x * hv (mulL p q) x) = _
    rw [hv_mul p q]
    grind
end AW

/-! AwSz: how long the numbers get; fractions added and multiplied; equality. -/
namespace AW
open PySem PySem.Spec PyProof.Rows

/-! ### lengths -/
def Bd (b : Nat) (q : Rat) : Prop := q.num.natAbs ≤ 2 ^ b ∧ q.den ≤ 2 ^ b
def BdL (b : Nat) (p : List Rat) : Prop := ∀ x ∈ p, Bd b x
theorem Bd.mono {a b : Nat} {q : Rat} (h : Bd a q) (l : a ≤ b) : Bd b q := ⟨Nat.le_trans h.1 (Nat.pow_le_pow_right (by decide) l), Nat.le_trans h.2 (Nat.pow_le_pow_right (by decide) l)⟩
theorem BdL.mono {a b : Nat} {p : List Rat} (h : BdL a p) (l : a ≤ b) : BdL b p := fun x hx => (h x hx).mono l
theorem divInt_le {a b : Int} (hb : b ≠ 0) : (Rat.divInt a b).num.natAbs ≤ a.natAbs ∧ (Rat.divInt a b).den ≤ b.natAbs := by
  have hg : 0 < b.gcd a := Nat.gcd_pos_of_pos_left _ (by omega)
  rw [Rat.num_divInt, Rat.den_divInt, if_neg hb]
  refine ⟨?_, Nat.div_le_self _ _⟩
  have da : ((b.gcd a : Nat) : Int) ∣ a := Int.ofNat_dvd_left.mpr (Nat.gcd_dvd_right _ _)
  obtain ⟨x, hx⟩ := da
  generalize b.gcd a = g at *
  subst hx
  have hg' : (g : Int) ≠ 0 := by omega
  rw [show b.sign * ((g : Int) * x) = (g : Int) * (b.sign * x) by grind, Int.mul_ediv_cancel_left _ hg', Int.natAbs_mul, Int.natAbs_mul]
  have h1 : b.sign.natAbs ≤ 1 := by
    rcases Int.sign_trichotomy b with h | h | h <;> rw [h] <;> decide
  have h2 : 1 ≤ (g : Int).natAbs := by omega
  exact Nat.mul_le_mul (Nat.le_trans h1 h2) (Nat.le_refl _)
theorem add_divInt (p q : Rat) : p + q = Rat.divInt (p.num * q.den + q.num * p.den) (p.den * q.den) := by
  rw [Rat.add_def', show ((p.den : Int) * q.den) = ((p.den * q.den : Nat) : Int) by simp, Rat.divInt_ofNat]
theorem mul_divInt (p q : Rat) : p * q = Rat.divInt (p.num * q.num) (p.den * q.den) := by
  rw [Rat.mul_def', show ((p.den : Int) * q.den) = ((p.den * q.den : Nat) : Int) by simp, Rat.divInt_ofNat]
theorem den_ne (p q : Rat) : ((p.den : Int) * q.den) ≠ 0 := by
  have h1 := p.den_nz
  have h2 := q.den_nz
  exact Int.mul_ne_zero (by omega) (by omega)
theorem mul_pow_le {x y a b : Nat} (h1 : x ≤ 2 ^ a) (h2 : y ≤ 2 ^ b) : x * y ≤ 2 ^ (a + b) := by
  rw [Nat.pow_add]
  exact Nat.mul_le_mul h1 h2
theorem Bd.add {a b : Nat} {p q : Rat} (hp : Bd a p) (hq : Bd b q) : Bd (a + b + 1) (p + q) := by
  have h := divInt_le (a := p.num * q.den + q.num * p.den) (den_ne p q)
  rw [add_divInt]
  have e1 : (p.num * q.den + q.num * p.den).natAbs ≤ 2 ^ (a + b) + 2 ^ (a + b) := by
    refine Nat.le_trans (Int.natAbs_add_le _ _) (Nat.add_le_add ?_ ?_)
    · rw [Int.natAbs_mul]; exact mul_pow_le hp.1 hq.2
    · rw [Int.natAbs_mul, Nat.add_comm a b]; exact mul_pow_le hq.1 hp.2
  have e2 : ((p.den : Int) * q.den).natAbs ≤ 2 ^ (a + b) := by
    rw [Int.natAbs_mul]
    exact mul_pow_le hp.2 hq.2
  have e3 : 2 ^ (a + b) + 2 ^ (a + b) = 2 ^ (a + b + 1) := by rw [Nat.pow_succ]; omega
  exact ⟨by rw [← e3]; exact Nat.le_trans h.1 e1, by rw [← e3]; omega⟩
theorem Bd.mul {a b : Nat} {p q : Rat} (hp : Bd a p) (hq : Bd b q) : Bd (a + b) (p * q) := by
  have h := divInt_le (a := p.num * q.num) (den_ne p q)
  rw [mul_divInt]
  refine ⟨Nat.le_trans h.1 ?_, Nat.le_trans h.2 ?_⟩
  · rw [Int.natAbs_mul]; exact mul_pow_le hp.1 hq.1
  · rw [Int.natAbs_mul]; exact mul_pow_le hp.2 hq.2
theorem Bd.zero (b : Nat) : Bd b 0 := ⟨Nat.zero_le _, Nat.one_le_two_pow⟩
theorem Bd.one (b : Nat) : Bd b 1 := ⟨Nat.one_le_two_pow, Nat.one_le_two_pow⟩
theorem BdL.nil (b : Nat) : BdL b [] := fun x hx => by cases hx
theorem BdL.cons {b : Nat} {x : Rat} {p : List Rat} (h : Bd b x) (t : BdL b p) : BdL b (x :: p) := fun y hy => by
  rcases List.mem_cons.mp hy with rfl | hy
  · exact h
  · exact t y hy
theorem BdL.trim {b : Nat} : ∀ {p : List Rat}, BdL b p → BdL b (AW.trim p)
  | [], h => h
  | a :: p, h => by
    unfold AW.trim
    split
    · exact BdL.nil b
    · exact BdL.cons (h a List.mem_cons_self) (BdL.trim fun x hx => h x (List.mem_cons_of_mem _ hx))
theorem trim_len : ∀ p : List Rat, (trim p).length ≤ p.length
  | [] => Nat.le_refl _
  | a :: p => by
    have := trim_len p
    unfold trim
    split
    · exact Nat.zero_le _
    · exact Nat.succ_le_succ this
theorem BdL.add {a b : Nat} : ∀ {p q : List Rat}, BdL a p → BdL b q → BdL (a + b + 1) (addL p q)
  | [], q, _, h => h.mono (by omega)
  | x :: p, [], h, _ => BdL.mono h (by omega)
  | x :: p, y :: q, h1, h2 => BdL.cons ((h1 x List.mem_cons_self).add (h2 y List.mem_cons_self)) (BdL.add (fun z hz => h1 z (List.mem_cons_of_mem _ hz)) fun z hz => h2 z (List.mem_cons_of_mem _ hz))
theorem addL_len : ∀ p q : List Rat, (addL p q).length = max p.length q.length
  | [], q => by simp [addL]
  | a :: p, [] => by simp [addL]
  | a :: p, b :: q => by simp [addL, addL_len p q]
theorem BdL.smul {a b : Nat} {x : Rat} {p : List Rat} (hx : Bd a x) (h : BdL b p) : BdL (a + b) (p.map fun y => x * y) := fun z hz => by
  obtain ⟨y, hy, rfl⟩ := List.mem_map.mp hz
  exact hx.mul (h y hy)
theorem BdL.mul {a b : Nat} : ∀ {p q : List Rat}, BdL a p → BdL b q → BdL (p.length * (a + b + 1)) (mulL p q)
  | [], q, _, _ => BdL.nil _
  | x :: p, q, h1, h2 => by
    have ih := BdL.mul (p := p) (fun z hz => h1 z (List.mem_cons_of_mem _ hz)) h2
    refine BdL.mono (BdL.add (BdL.smul (h1 x List.mem_cons_self) h2) (BdL.cons (Bd.zero _) ih)) ?_
    rw [List.length_cons, Nat.add_mul]
    omega
theorem mulL_len : ∀ p q : List Rat, (mulL p q).length ≤ p.length + q.length
  | [], q => Nat.zero_le _
  | a :: p, q => by
    have := mulL_len p q
    simp only [mulL, addL_len, List.length_map, List.length_cons]
    omega
theorem Bd.hv {a b : Nat} {x : Rat} (hx : Bd b x) : ∀ {p : List Rat}, BdL a p → Bd (p.length * (a + b + 1)) (hv p x)
  | [], _ => Bd.zero _
  | y :: p, h => by
    have ih := Bd.hv hx (p := p) fun z hz => h z (List.mem_cons_of_mem _ hz)
    refine Bd.mono ((h y List.mem_cons_self).add (hx.mul ih)) ?_
    rw [List.length_cons, Nat.add_mul]
    omega

/-- short enough to be multiplied -/
def Ok (q : Rat) : Prop := Bd 40000000 q
theorem Ok.of {b : Nat} {q : Rat} (h : Bd b q) (l : b ≤ 40000000) : Ok q := h.mono l
theorem log2_of_le {n b : Nat} (h : n ≤ 2 ^ b) : n.log2 ≤ b := by
  by_cases h0 : n = 0
  · subst h0; rw [Nat.log2_zero]; omega
  · have := (Nat.log2_lt h0 (k := b + 1)).mpr (by have : 2 ^ b < 2 ^ (b + 1) := Nat.pow_lt_pow_right (by decide) (by omega); omega)
    omega
theorem mulOk_le {i j : Int} {a b : Nat} (h1 : i.natAbs ≤ 2 ^ a) (h2 : j.natAbs ≤ 2 ^ b) (h : a + b < 100000000) : mulOk i j = true := by
  have e1 := log2_of_le h1
  have e2 := log2_of_le h2
  exact decide_eq_true (.inr (.inr (by omega)))
theorem mulOk_small_r {i j : Int} (h : j.natAbs < 2 ^ 64) : mulOk i j = true := decide_eq_true (.inr (.inl h))
theorem mulOk_small_l {i j : Int} (h : i.natAbs < 2 ^ 64) : mulOk i j = true := decide_eq_true (.inl h)
theorem Ok.nn {p q : Rat} (h1 : Ok p) (h2 : Ok q) : mulOk p.num q.num = true := mulOk_le h1.1 h2.1 (by decide)
theorem Ok.nd {p q : Rat} (h1 : Ok p) (h2 : Ok q) : mulOk p.num q.den = true := mulOk_le h1.1 h2.2 (by decide)
theorem Ok.dd {p q : Rat} (h1 : Ok p) (h2 : Ok q) : mulOk p.den q.den = true := mulOk_le h1.2 h2.2 (by decide)

/-! ### places -/
theorem atI_nat {α : Type} {xs : List α} {n : Nat} : L2.atI xs (n : Int) = xs[n]? := by
  unfold L2.atI L2.ixN
  rw [if_pos (by omega)]
  by_cases h : n < xs.length
  · rw [if_pos (by omega)]
    simp
  · rw [if_neg (by omega)]
    simp only [Option.bind_none]
    rw [List.getElem?_eq_none (by omega)]
theorem atD_nat {xs : List D} {n : Nat} {d : D} (h : xs[n]? = some d) : atD xs (n : Int) = v1 d := by
  unfold atD
  rw [atI_nat, h]
@[simp] theorem atD_0 (d : D) (xs : List D) : atD (d :: xs) 0 = v1 d := atD_nat (n := 0) rfl
@[simp] theorem atD_1 (d e : D) (xs : List D) : atD (d :: e :: xs) 1 = v1 e := atD_nat (n := 1) rfl
@[simp] theorem atD_2 (d e f : D) (xs : List D) : atD (d :: e :: f :: xs) 2 = v1 f := atD_nat (n := 2) rfl
theorem atD_last {xs : List D} {d : D} : atD (xs ++ [d]) (-1) = v1 d := by
  unfold atD L2.atI L2.ixN
  rw [if_neg (by omega), if_pos (by simp; omega)]
  have : ((-1 : Int) + ((xs ++ [d]).length : Int)).toNat = xs.length := by simp; omega
  rw [this]
  simp

/-! ### equality -/
theorem eqv_fr (p q : Rat) : (fr p).eqv (fr q) = decide (p = q) := by
  have e : (fr p).eqv (fr q) = ((p.num == q.num) && (((p.den : Int) == (q.den : Int)) && true)) := rfl
  rw [e, Bool.eq_iff_iff]
  simp only [Bool.and_true, Bool.and_eq_true, beq_iff_eq, decide_eq_true_eq]
  constructor
  · rintro ⟨h1, h2⟩
    exact Rat.ext h1 (by omega)
  · rintro rfl
    exact ⟨rfl, rfl⟩
theorem eqvAll_map {α : Type} [DecidableEq α] {f : α → D} (h : ∀ x y, (f x).eqv (f y) = decide (x = y)) : ∀ xs ys : List α, PyData.eqvAll (xs.map f) (ys.map f) = decide (xs = ys)
  | [], [] => by simp [PyData.eqvAll]
  | [], _ :: _ => by simp [PyData.eqvAll]
  | _ :: _, [] => by simp [PyData.eqvAll]
  | x :: xs, y :: ys => by
    show ((f x).eqv (f y) && PyData.eqvAll (xs.map f) (ys.map f)) = _
    rw [h, eqvAll_map h xs ys, Bool.eq_iff_iff]
    simp
/-- data that == reads, nested n deep at most -/
def Shp (n : Nat) (d : D) : Prop := d.canLay0 = true ∧ d.depth ≤ n
theorem Shp.ok {n : Nat} {d : D} (h : Shp n d) (hn : n ≤ 64) : SeqAt.shaped d = true := by
  unfold SeqAt.shaped
  rw [h.1, Bool.true_and]
  exact decide_eq_true (Nat.le_trans h.2 hn)
theorem Shp.int (i : Int) : Shp 0 (.int i) := ⟨rfl, Nat.le_refl _⟩
theorem Shp.mono {m n : Nat} {d : D} (h : Shp m d) (l : m ≤ n) : Shp n d := ⟨h.1, Nat.le_trans h.2 l⟩
theorem shp_all {n : Nat} : ∀ {ds : List D}, (∀ d ∈ ds, Shp n d) → PyData.canLayAll0 ds = true ∧ PyData.depthAll ds ≤ n
  | [], _ => ⟨rfl, Nat.zero_le _⟩
  | d :: ds, h => by
    have h1 := h d List.mem_cons_self
    have h2 := shp_all (ds := ds) fun x hx => h x (List.mem_cons_of_mem _ hx)
    refine ⟨?_, ?_⟩
    · show (d.canLay0 && PyData.canLayAll0 ds) = true
      rw [h1.1, h2.1]
      rfl
    · show max d.depth (PyData.depthAll ds) ≤ n
      exact Nat.max_le.mpr ⟨h1.2, h2.2⟩
theorem Shp.tup {n : Nat} {ds : List D} (h : ∀ d ∈ ds, Shp n d) : Shp (n + 1) (.tuple ds) := by
  obtain ⟨h1, h2⟩ := shp_all h
  exact ⟨h1, Nat.succ_le_succ h2⟩
theorem Shp.lst {n : Nat} {ds : List D} (h : ∀ d ∈ ds, Shp n d) : Shp (n + 1) (.list ds) := by
  obtain ⟨h1, h2⟩ := shp_all h
  exact ⟨h1, Nat.succ_le_succ h2⟩
theorem Shp.fr (q : Rat) : Shp 1 (fr q) := Shp.tup fun d hd => by
  rcases List.mem_cons.mp hd with rfl | hd
  · exact Shp.int _
  · rcases List.mem_cons.mp hd with rfl | hd
    · exact Shp.int _
    · cases hd
/-- a row as data -/
def pol (p : List Rat) : D := .tuple (p.map fr)
theorem Shp.pol (p : List Rat) : Shp 2 (pol p) := Shp.tup fun d hd => by
  obtain ⟨x, _, rfl⟩ := List.mem_map.mp hd
  exact Shp.fr x
theorem eqv_pol (p q : List Rat) : (pol p).eqv (pol q) = decide (p = q) := eqvAll_map eqv_fr p q
@[simp] theorem eq_fr (p q : Rat) : sem2 .eq (fr p) (fr q) = v1 (.bool (decide (p = q))) := by
  rw [s2_eq, if_pos ⟨(Shp.fr p).ok (by decide), (Shp.fr q).ok (by decide)⟩, eqv_fr]
@[simp] theorem ne_fr (p q : Rat) : sem2 .ne (fr p) (fr q) = v1 (.bool (!decide (p = q))) := by
  rw [s2_ne, if_pos ⟨(Shp.fr p).ok (by decide), (Shp.fr q).ok (by decide)⟩, eqv_fr]
@[simp] theorem eq_pol (p q : List Rat) : sem2 .eq (pol p) (pol q) = v1 (.bool (decide (p = q))) := by
  rw [s2_eq, if_pos ⟨(Shp.pol p).ok (by decide), (Shp.pol q).ok (by decide)⟩, eqv_pol]
@[simp] theorem ne_pol (p q : List Rat) : sem2 .ne (pol p) (pol q) = v1 (.bool (!decide (p = q))) := by
  rw [s2_ne, if_pos ⟨(Shp.pol p).ok (by decide), (Shp.pol q).ok (by decide)⟩, eqv_pol]
theorem fr_zero : fr 0 = .tuple [.int 0, .int 1] := rfl
theorem fr_one : fr 1 = .tuple [.int 1, .int 1] := rfl
theorem fr_int (i : Int) : fr (i : Rat) = .tuple [.int i, .int 1] := rfl
@[simp] theorem idx_fr0 (q : Rat) : sem2 .idx (fr q) (.int 0) = v1 (.int q.num) := by unfold fr; rw [s2_idxt, atD_0]
@[simp] theorem idx_fr1 (q : Rat) : sem2 .idx (fr q) (.int 1) = v1 (.int q.den) := by unfold fr; rw [s2_idxt, atD_1]

section
variable {G : Nat → D} {c : Nat → List Sl → R (D × Bool)} {T : List Fn} {nm : Nm}
def SpPlus (c : Nat → List Sl → R (D × Bool)) (j : Nat) : Prop := ∀ p q : Rat, Ok p → Ok q → c j [.va (fr p), .va (fr q)] = va (fr (p + q))
def SpBy (c : Nat → List Sl → R (D × Bool)) (j : Nat) : Prop := ∀ p q : Rat, Ok p → Ok q → c j [.va (fr p), .va (fr q)] = va (fr (p * q))
theorem plus_ok {jf : Nat} (hf : SpFrac c jf) {p q : Rat} (hp : Ok p) (hq : Ok q) : bo G c T (b_plus jf) [.va (fr p), .va (fr q)] 0 = va (fr (p + q)) := by
  unfold bo b_plus
  have h := hf (p.num * q.den + q.num * p.den) (p.den * q.den) (den_ne p q)
  rw [← add_divInt] at h
  simp [val, hp.nd hq, hq.nd hp, hp.dd hq, h]
theorem by_ok {jf : Nat} (hf : SpFrac c jf) {p q : Rat} (hp : Ok p) (hq : Ok q) : bo G c T (b_by jf) [.va (fr p), .va (fr q)] 0 = va (fr (p * q)) := by
  unfold bo b_by
  have h := hf (p.num * q.num) (p.den * q.den) (den_ne p q)
  rw [← mul_divInt] at h
  simp [val, hp.nn hq, hp.dd hq, h]
end
end AW

/-! AwPol: the polynomials' defs. -/
namespace AW
open PySem PySem.Spec PyProof.Rows

/-! ### loops by what stays true -/
section
variable {t : En → R Bool} {b : En → R Fl} {g : D → En → R En}
theorem whileR_then {P : R Fl → Prop} {en : En} (I : En → Prop) (m : En → Nat) (step : ∀ en, I en → (t en = .ok false ∧ P (.ok (.nx en))) ∨ (t en = .ok true ∧ ∃ en', b en = .ok (.nx en') ∧ I en' ∧ m en' < m en)) (init : I en) : P (whileR t b en) := by
  generalize hk : m en = k
  induction k using Nat.strongRecOn generalizing en with
  | _ k ih =>
    subst hk
    rcases step en init with ⟨h1, h2⟩ | ⟨h1, en', h2, h3, h4⟩
    · rw [whileR_stop h1]; exact h2
    · rw [whileR_step h1, h2]
      exact ih _ h4 h3 rfl
theorem forR_go {I : Nat → En → Prop} : ∀ {ds : List D} {k : Nat} {en : En}, (∀ i en d, ds[i]? = some d → I (k + i) en → ∃ en', ((g d en).bind b = .ok (.nx en') ∨ (g d en).bind b = .ok (.ct en')) ∧ I (k + i + 1) en') → I k en → ∃ en', forR g b ds en = .ok (.nx en') ∧ I (k + ds.length) en'
  | [], k, en, _, h => ⟨en, rfl, h⟩
  | d :: ds, k, en, step, h => by
    obtain ⟨e1, h1, h2⟩ := step 0 en d rfl h
    have rest := forR_go (ds := ds) (k := k + 1) (en := e1) (I := I) (fun i en d hd hI => by
      have z := step (i + 1) en d hd (by rw [show k + (i + 1) = k + 1 + i by omega]; exact hI)
      rw [show k + (i + 1) + 1 = k + 1 + i + 1 by omega] at z
      exact z) h2
    obtain ⟨e2, h3, h4⟩ := rest
    refine ⟨e2, ?_, by rw [List.length_cons, show k + (ds.length + 1) = k + 1 + ds.length by omega]; exact h4⟩
    rw [forR_cons]
    cases hg : g d en with
    | no => rw [hg] at h1; rcases h1 with h1 | h1 <;> cases h1
    | ex c => rw [hg] at h1; rcases h1 with h1 | h1 <;> cases h1
    | ok e0 =>
      rw [hg] at h1
      have h1 : b e0 = .ok (.nx e1) ∨ b e0 = .ok (.ct e1) := h1
      show (b e0).bind (nextFl (forR g b ds)) = _
      rcases h1 with h1 | h1
      · rw [h1]; exact h3
      · rw [h1]; exact h3
theorem forR_then {P : R Fl → Prop} {ds : List D} {en : En} (I : Nat → En → Prop) (step : ∀ i en d, ds[i]? = some d → I i en → ∃ en', ((g d en).bind b = .ok (.nx en') ∨ (g d en).bind b = .ok (.ct en')) ∧ I (i + 1) en') (init : I 0 en) (fin : ∀ en', I ds.length en' → P (.ok (.nx en'))) : P (forR g b ds en) := by
  obtain ⟨en', h1, h2⟩ := forR_go (I := I) (k := 0) (ds := ds) (en := en) (fun i en d hd hI => by
    rw [Nat.zero_add] at hI ⊢
    exact step i en d hd hI) init
  rw [h1]
  rw [Nat.zero_add] at h2
  exact fin en' h2
end
theorem compL_of {α : Type} {f : D → R (Option D)} {e h : α → D} : ∀ {xs : List α}, (∀ x ∈ xs, f (e x) = .ok (some (h x))) → compL f (xs.map e) = .ok (xs.map h)
  | [], _ => rfl
  | x :: xs, hx => by
    show (f (e x)).bind _ = _
    rw [hx x List.mem_cons_self]
    show (compL f (xs.map e)).bind _ = _
    rw [compL_of fun y hy => hx y (List.mem_cons_of_mem _ hy)]
    rfl
theorem zipD_map {α β : Type} {e : α → D} {h : β → D} (xs : List α) (ys : List β) : zipD (xs.map e) (ys.map h) = (xs.zip ys).map fun p => .tuple [e p.1, h p.2] := by
  unfold zipD
  rw [List.zipWith_map, List.zip, List.map_zipWith]
def enumN {α : Type} (k : Nat) : List α → List (Nat × α)
  | [] => []
  | x :: xs => (k, x) :: enumN (k + 1) xs
theorem enumD_go (xs : List D) : ∀ k : Nat, List.zipWith (fun (k : Nat) x => PyData.tuple [.int (k : Nat), x]) (List.range' k xs.length) xs = (enumN k xs).map fun p => PyData.tuple [.int (p.1 : Nat), p.2] := by
  induction xs with
  | nil => intro k; rfl
  | cons x xs ih =>
    intro k
    rw [List.length_cons, List.range'_succ, List.zipWith_cons_cons, ih (k + 1)]
    rfl
theorem enumN_map {α β : Type} (e : α → β) (xs : List α) : ∀ k : Nat, enumN k (xs.map e) = (enumN k xs).map fun p => (p.1, e p.2) := by
  induction xs with
  | nil => intro k; rfl
  | cons x xs ih => intro k; show (k, e x) :: enumN (k + 1) (xs.map e) = _; rw [ih]; rfl
theorem enumD_map {α : Type} {e : α → D} (xs : List α) : enumD (xs.map e) = (enumN 0 xs).map fun p => .tuple [.int (p.1 : Nat), e p.2] := by
  unfold enumD
  rw [List.range_eq_range', enumD_go, enumN_map, List.map_map]
  rfl
theorem enumN_len {α : Type} (xs : List α) : ∀ k : Nat, (enumN k xs).length = xs.length := by
  induction xs with
  | nil => intro k; rfl
  | cons x xs ih => intro k; show (enumN (k + 1) xs).length + 1 = _; rw [ih]; rfl
theorem enumN_get {α : Type} (xs : List α) : ∀ (k i : Nat), (enumN k xs)[i]? = (xs[i]?).map fun x => (k + i, x) := by
  induction xs with
  | nil => intro k i; simp [enumN]
  | cons x xs ih =>
    intro k i
    cases i with
    | zero => simp [enumN]
    | succ i =>
      show (enumN (k + 1) xs)[i]? = _
      rw [ih]
      simp
      cases xs[i]? with
      | none => rfl
      | some y => simp; omega

/-! ### trimmed -/
theorem cutL_to (xs : List D) (k : Nat) : cutL xs none (some (k : Int)) = xs.take k := by
  unfold cutL
  simp only [HT.sIx]
  rw [if_neg (by omega)]
  simp
theorem cutL_from (xs : List D) (k : Nat) : cutL xs (some (k : Int)) none = xs.drop k := by
  unfold cutL
  simp only [HT.sIx]
  rw [if_neg (by omega), Int.toNat_natCast]
  by_cases h : k ≤ xs.length
  · rw [Nat.min_eq_left h, List.take_of_length_le (by rw [List.length_drop]; omega)]
  · rw [Nat.min_eq_right (by omega), List.drop_eq_nil_of_le (Nat.le_refl _), List.drop_eq_nil_of_le (by omega)]
    simp
theorem take_snoc {p : List Rat} {k : Nat} {a : Rat} (h : p[k]? = some a) : p.take (k + 1) = p.take k ++ [a] := by
  rw [List.take_succ, h]
  rfl
section
variable {G : Nat → D} {c : Nat → List Sl → R (D × Bool)} {T : List Fn} {nm : Nm}
def SpTrim (c : Nat → List Sl → R (D × Bool)) (j : Nat) : Prop := (∀ p : List Rat, c j [.va (.list (p.map fr))] = va (pol (trim p))) ∧ ∀ p : List Rat, c j [.va (pol p)] = va (pol (trim p))
theorem trimmed_go {kN : Nat} (hG : G kN = fr 0) (p : List Rat) (d : D) (h1 : sem1 .len d = v1 (.int p.length)) (h2 : ∀ i : Int, sem2 .idx d (.int i) = atD (p.map fr) i)
    (h3 : ∀ k : Nat, ((semSl d none (some (k : Int))).bind fun x => sem1 .tuple x.1) = v1 (.tuple ((p.map fr).take k))) : bo G c T (b_trimmed kN) [.va d] 1 = va (pol (trim p)) := by
  unfold bo b_trimmed
  simp [val, h1, es_whl]
  refine whileR_then (P := fun r => outF (r.bind _) = _) (I := fun en => ∃ k : Nat, en = [.va d, .va (.int k)] ∧ k ≤ p.length ∧ trim (p.take k) = trim p) (m := fun en => match en with
    | [_, .va (.int k)] => k.toNat
    | _ => 0) ?_ ⟨p.length, rfl, Nat.le_refl _, by rw [List.take_length]⟩
  rintro en ⟨k, rfl, hk, ht⟩
  cases k with
  | zero =>
    left
    refine ⟨by simp [val], ?_⟩
    have h3 := h3 0
    cases hs : semSl d none (some ((0 : Nat) : Int)) with
    | no => rw [hs] at h3; cases h3
    | ex e => rw [hs] at h3; cases h3
    | ok x =>
      rw [hs] at h3
      have h3 : sem1 .tuple x.1 = v1 (.tuple ((p.map fr).take 0)) := h3
      have hs' : semSl d none (some 0) = .ok x := hs
      simp [val, hs', h3]
      rw [← ht]
      rfl
  | succ k =>
    have hk' : k < p.length := by omega
    have e1 : (p.map fr)[k]? = some (fr p[k]) := by simp [hk']
    have e2 : ((k : Int) + 1 - 1) = (k : Int) := by omega
    have e3 := atD_nat e1
    by_cases h0 : p[k] = 0
    · right
      refine ⟨by simp [val, h2, e2, e3, hG, h0], [.va d, .va (.int k)], by simp [val, e2], ⟨k, rfl, by omega, ?_⟩, by simp⟩
      rw [← ht, take_snoc (a := p[k]) (by simp [hk']), trim_snoc, if_pos h0]
    · left
      refine ⟨by simp [val, h2, e2, e3, hG, h0], ?_⟩
      have h3 := h3 (k + 1)
      cases hs : semSl d none (some ((k + 1 : Nat) : Int)) with
      | no => rw [hs] at h3; cases h3
      | ex e => rw [hs] at h3; cases h3
      | ok x =>
        rw [hs] at h3
        have h3 : sem1 .tuple x.1 = v1 (.tuple ((p.map fr).take (k + 1))) := h3
        have hs' : semSl d none (some ((k : Int) + 1)) = .ok x := hs
        simp [val, hs', h3]
        rw [← ht, take_snoc (a := p[k]) (by simp [hk']), trim_snoc, if_neg h0, ← take_snoc (a := p[k]) (by simp [hk'])]
        simp [pol]
theorem trimmed_ok {kN : Nat} (hG : G kN = fr 0) (p : List Rat) : bo G c T (b_trimmed kN) [.va (.list (p.map fr))] 1 = va (pol (trim p)) :=
  trimmed_go hG p _ (by simp) (fun i => by simp) fun k => by
    show (R.ok (PyData.list (cutL (p.map fr) none (some (k : Int))), true)).bind _ = _
    rw [cutL_to]
    simp
theorem trimmed_ok' {kN : Nat} (hG : G kN = fr 0) (p : List Rat) : bo G c T (b_trimmed kN) [.va (pol p)] 1 = va (pol (trim p)) :=
  trimmed_go hG p _ (by simp [pol]) (fun i => by simp [pol]) fun k => by
    show (v1 (PyData.tuple (cutL (p.map fr) none (some (k : Int))))).bind _ = _
    rw [cutL_to]
    simp
end
end AW

/-! AwPo2: sums, products and values of rows. -/
namespace AW
open PySem PySem.Spec PyProof.Rows

def OkL (p : List Rat) : Prop := ∀ x ∈ p, Ok x
def Ln (p : List Rat) : Prop := p.length ≤ 100000
theorem OkL.of {b : Nat} {p : List Rat} (h : BdL b p) (l : b ≤ 40000000) : OkL p := fun x hx => (h x hx).mono l
theorem Ok.zero : Ok 0 := Bd.zero _
theorem Ok.one : Ok 1 := Bd.one _
theorem ser_zip : ∀ a b : List Rat, a.length = b.length → ser ((a.zip b).map fun (p : Rat × Rat) => p.1 + p.2) = ser a + ser b
  | [], [], _ => by show (0 : PS) = 0 + 0; grind
  | [], _ :: _, h => by simp at h
  | _ :: _, [], h => by simp at h
  | x :: a, y :: b, h => by
    show PS.C (x + y) + PS.X * ser ((a.zip b).map fun (p : Rat × Rat) => p.1 + p.2) = PS.C x + PS.X * ser a + (PS.C y + PS.X * ser b)
    rw [ser_zip a b (by simpa using h), PS.C_add]
    grind
theorem ser_pad (p : List Rat) (k : Nat) : ser (p ++ List.replicate k 0) = ser p := by
  rw [ser_append, ser_zeros]
  grind
/-- a row lengthened with noughts -/
theorem rep_fr (k : Nat) : (List.replicate k [fr 0]).flatten = (List.replicate k (0 : Rat)).map fr := by
  induction k with
  | zero => rfl
  | succ k ih => rw [List.replicate_succ, List.replicate_succ, List.flatten_cons, ih]; rfl
theorem pad_fr (p : List Rat) (k : Nat) : p.map fr ++ (List.replicate k [fr 0]).flatten = (p ++ List.replicate k 0).map fr := by
  rw [rep_fr, List.map_append]
theorem OkL.pad {p : List Rat} (h : OkL p) (k : Nat) : OkL (p ++ List.replicate k 0) := fun x hx => by
  rcases List.mem_append.mp hx with hx | hx
  · exact h x hx
  · rw [(List.mem_replicate.mp hx).2]; exact Ok.zero
theorem zip_pad (p q : List Rat) : ser (((p ++ List.replicate (max p.length q.length - p.length) 0).zip (q ++ List.replicate (max p.length q.length - q.length) 0)).map fun (z : Rat × Rat) => z.1 + z.2) = ser p + ser q := by
  rw [ser_zip _ _ (by simp; omega), ser_pad, ser_pad]
theorem cmp_of {G : Nat → D} {c : Nat → List Sl → R (D × Bool)} {dfl : Nat → Nat → List D} {elt : E} {tg : Tg} {it : It} {ifs : Eo} {own : List (Str × Nat)} {en : En} {α : Type} {xs : List α} {e h : α → D} (hi : evI G c dfl it en = .ok (xs.map e)) (hl : xs.length ≤ line)
    (hx : ∀ x ∈ xs, ((bindT tg (e x) (wipe en (own.map (·.2)))).bind fun en' => (evB G c dfl ifs en').nox.bind fun b => if b then (evF G c dfl elt en').nox.bind fun y => .ok (some y.1) else .ok none) = .ok (some (h x))) :
    evF G c dfl (.cmp elt tg it ifs own) en = .ok (.list (xs.map h), true) := by
  rw [ev_cmp, hi]
  show ((compL _ (xs.map e)).bind _) = _
  rw [compL_of hx]
  show (if (xs.map e).length ≤ line then _ else _) = _
  rw [if_pos (by rw [List.length_map]; exact hl)]
section
variable {G : Nat → D} {c : Nat → List Sl → R (D × Bool)} {T : List Fn} {nm : Nm}
def SpSum (c : Nat → List Sl → R (D × Bool)) (j : Nat) : Prop := ∀ p q : List Rat, OkL p → OkL q → Ln p → Ln q → c j [.va (pol p), .va (pol q)] = va (pol (trim (addL p q)))
theorem sum_ok {kN jt jp : Nat} (hG : G kN = fr 0) (ht : SpTrim c jt) (hp : SpPlus c jp) {p q : List Rat} (h1 : OkL p) (h2 : OkL q) (l1 : Ln p) (l2 : Ln q) :
    bo G c T (b_poly_sum kN jt jp) [.va (pol p), .va (pol q)] 5 = va (pol (trim (addL p q))) := by
  unfold Ln at l1 l2
  have m1 : max (p.length : Int) (q.length : Int) - (p.length : Int) = ((max p.length q.length - p.length : Nat) : Int) := by omega
  have m2 : max (p.length : Int) (q.length : Int) - (q.length : Int) = ((max p.length q.length - q.length : Nat) : Int) := by omega
  have hn : max p.length q.length ≤ 100000 := by omega
  have e0 : (max p.length q.length - p.length) + 0 ≤ 100000 := by omega
  have e0' : (max p.length q.length - q.length) + 0 ≤ 100000 := by omega
  have z : zipD ((p ++ List.replicate (max p.length q.length - p.length) 0).map fr) ((q ++ List.replicate (max p.length q.length - q.length) 0).map fr) = _ := zipD_map _ _
  have hl := zip_pad p q
  have hlen : ((p ++ List.replicate (max p.length q.length - p.length) 0).zip (q ++ List.replicate (max p.length q.length - q.length) 0)).length ≤ 100000 := by simp; omega
  have k1 : OkL (p ++ List.replicate (max p.length q.length - p.length) 0) := h1.pad _
  have k2 : OkL (q ++ List.replicate (max p.length q.length - q.length) 0) := h2.pad _
  have len1 : p.length + (max p.length q.length - p.length) ≤ 100000 := by omega
  have len2 : q.length + (max p.length q.length - q.length) ≤ 100000 := by omega
  unfold bo b_poly_sum
  generalize max p.length q.length - p.length = n at *
  generalize max p.length q.length - q.length = m at *
  have c1 : (n : Int) ≤ 1000000 := by omega
  have c2 : (m : Int) ≤ 1000000 := by omega
  have c3 : (-1000000 : Int) ≤ (n : Int) := by omega
  have c4 : (-1000000 : Int) ≤ (m : Int) := by omega
  have c5 : n ≤ line := by unfold line; omega
  have c6 : m ≤ line := by unfold line; omega
  have c7 : p.length + n ≤ line := by unfold line; omega
  have c8 : q.length + m ≤ line := by unfold line; omega
  have c9 : (1 : Nat) ≤ line := by unfold line; omega
  have pd1 := pad_fr p n
  have pd2 := pad_fr q m
  rw [rep_fr] at pd1 pd2
  have r1 : p.map fr ++ List.replicate n (fr 0) = (p ++ List.replicate n 0).map fr := by simp
  have r2 : q.map fr ++ List.replicate m (fr 0) = (q ++ List.replicate m 0).map fr := by simp
  have c10 : ((p ++ List.replicate n 0).zip (q ++ List.replicate m 0)).length ≤ line := Nat.le_trans hlen (by unfold line; omega)
  simp [val, pol, hG, m1, m2, c1, c2, c3, c4, c5, c6, c7, c8, c9, rep_fr]
  rw [r1, r2, cmp_of (xs := (p ++ List.replicate n 0).zip (q ++ List.replicate m 0)) (e := fun (z : Rat × Rat) => .tuple [fr z.1, fr z.2]) (h := fun (z : Rat × Rat) => fr (z.1 + z.2)) ?_ c10 ?_]
  · have e : ((p ++ List.replicate n 0).zip (q ++ List.replicate m 0)).map (fun (z : Rat × Rat) => fr (z.1 + z.2)) = (((p ++ List.replicate n 0).zip (q ++ List.replicate m 0)).map fun (z : Rat × Rat) => z.1 + z.2).map fr := by rw [List.map_map]; rfl
    rw [e]
    simp only [R.bind_ok, List.nil_append, List.append_nil]
    rw [ht.1]
    rw [trim_ext (hl.trans (ser_add p q).symm)]
    rfl
  · simp only [evI_zip, ev_var, val]
    show zipR (.list _) (.list _) = _
    exact congrArg R.ok z
  · intro w hw
    obtain ⟨h3, h4⟩ := List.of_mem_zip (a := w.1) (b := w.2) hw
    have := hp w.1 w.2 (k1 _ h3) (k2 _ h4)
    simp [val, wipe, this]
end
end AW

/-! AwPo3: a row times a number, its slope, its value, a row put into a row. -/
namespace AW
open PySem PySem.Spec PyProof.Rows
/-- the slope's row -/
def derL (p : List Rat) : List Rat := (enumN 0 (p.drop 1)).map fun (z : Nat × Rat) => (((z.1 + 1 : Nat) : Int) : Rat) * z.2
/-- q put into a row -/
def cmpP : List Rat → List Rat → List Rat
  | [], _ => []
  | a :: r, q => addL (mulL (cmpP r q) q) [a]
theorem hv_cmpP : ∀ r q x, hv (cmpP r q) x = hv r (hv q x)
  | [], q, x => rfl
  | a :: r, q, x => by
    show hv (addL (mulL (cmpP r q) q) [a]) x = a + hv q x * hv r (hv q x)
    rw [hv_add, hv_mul, hv_cmpP r q x]
    show _ + (a + x * 0) = _
    grind
theorem ser_cmpP (a : Rat) (r q : List Rat) : ser (cmpP (a :: r) q) = ser (cmpP r q) * ser q + PS.C a := by
  show ser (addL (mulL (cmpP r q) q) [a]) = _
  rw [ser_add, ser_mul]
  show _ + (PS.C a + PS.X * 0) = _
  grind
def cpl (l n : Nat) : Nat := n * (l + 1)
def cpb (l b a : Nat) : Nat → Nat
  | 0 => 0
  | n + 1 => cpl l n * (cpb l b a n + b + 1) + a + 1
theorem cmpP_len {q : List Rat} {l : Nat} (h : q.length ≤ l) : ∀ r, (cmpP r q).length ≤ cpl l r.length
  | [] => Nat.zero_le _
  | a :: r => by
    have h1 := cmpP_len h r
    have h2 := mulL_len (cmpP r q) q
    show (addL (mulL (cmpP r q) q) [a]).length ≤ (r.length + 1) * (l + 1)
    rw [addL_len, Nat.add_mul]
    have h3 : cpl l r.length = r.length * (l + 1) := rfl
    simp only [List.length_cons, List.length_nil]
    omega
theorem cmpP_bd {q : List Rat} {l b a : Nat} (hl : q.length ≤ l) (hq : BdL b q) : ∀ {r : List Rat}, BdL a r → BdL (cpb l b a r.length) (cmpP r q)
  | [], _ => BdL.nil _
  | x :: r, h => by
    have ih := cmpP_bd hl hq (r := r) fun z hz => h z (List.mem_cons_of_mem _ hz)
    have h1 := cmpP_len hl r
    refine BdL.mono (BdL.add (BdL.mul ih hq) (BdL.cons (h x List.mem_cons_self) (BdL.nil a))) ?_
    have := Nat.mul_le_mul_right (cpb l b a r.length + b + 1) h1
    show _ ≤ cpl l r.length * (cpb l b a r.length + b + 1) + a + 1
    omega
theorem Bd.int {b : Nat} {i : Int} (h : i.natAbs ≤ 2 ^ b) : Bd b (i : Rat) := ⟨h, Nat.one_le_two_pow⟩
theorem divInt_one (i : Int) : Rat.divInt i 1 = (i : Rat) := by
  rw [Rat.divInt_eq_div]
  show (i : Rat) * (1 : Rat)⁻¹ = _
  grind
section
variable {G : Nat → D} {c : Nat → List Sl → R (D × Bool)} {T : List Fn} {nm : Nm}
def SpScaled (c : Nat → List Sl → R (D × Bool)) (j : Nat) : Prop := ∀ (p : List Rat) (a : Rat), OkL p → Ok a → Ln p → c j [.va (pol p), .va (fr a)] = va (pol (trim (p.map fun x => a * x)))
theorem scaled_ok {jt jb : Nat} (ht : SpTrim c jt) (hb : SpBy c jb) {p : List Rat} {a : Rat} (h1 : OkL p) (h2 : Ok a) (l1 : Ln p) : bo G c T (b_scaled jt jb) [.va (pol p), .va (fr a)] 1 = va (pol (trim (p.map fun x => a * x))) := by
  unfold bo b_scaled
  unfold Ln at l1
  simp [val]
  rw [cmp_of (xs := p) (e := fr) (h := fun x => fr (a * x)) ?_ (by unfold line; omega) ?_]
  · have e : p.map (fun x => fr (a * x)) = (p.map fun x => a * x).map fr := by rw [List.map_map]; rfl
    rw [e]
    simp only [R.bind_ok]
    rw [ht.1]
    rfl
  · simp [val, pol]
  · intro x hx
    simp [val, wipe, hb a x h2 (h1 x hx)]
def SpSlope (c : Nat → List Sl → R (D × Bool)) (j : Nat) : Prop := ∀ p : List Rat, OkL p → Ln p → c j [.va (pol p)] = va (pol (trim (derL p)))
theorem slope_ok {jt jb jf : Nat} (ht : SpTrim c jt) (hb : SpBy c jb) (hf : SpFrac c jf) (hd : dflT T jf 1 = [.int 1]) {p : List Rat} (h1 : OkL p) (l1 : Ln p) : bo G c T (b_poly_slope jt jb jf) [.va (pol p)] 2 = va (pol (trim (derL p))) := by
  unfold bo b_poly_slope
  unfold Ln at l1
  simp [val]
  rw [cmp_of (xs := enumN 0 (p.drop 1)) (e := fun (z : Nat × Rat) => .tuple [.int (z.1 : Nat), fr z.2]) (h := fun (z : Nat × Rat) => fr ((((z.1 + 1 : Nat) : Int) : Rat) * z.2)) ?_ (by rw [enumN_len, List.length_drop]; unfold line; omega) ?_]
  · have e : (enumN 0 (p.drop 1)).map (fun (z : Nat × Rat) => fr ((((z.1 + 1 : Nat) : Int) : Rat) * z.2)) = (derL p).map fr := by unfold derL; rw [List.map_map]; rfl
    rw [e]
    simp only [R.bind_ok]
    rw [ht.1]
    rfl
  · have e : cutL (p.map fr) (some 1) none = (p.drop 1).map fr := (cutL_from _ 1).trans (List.map_drop).symm
    simp [val, pol, semSl, e]
    rw [← List.map_tail, enumD_map]
  · intro z hz
    obtain ⟨i, hi⟩ := List.mem_iff_getElem?.mp hz
    rw [enumN_get] at hi
    cases hx : (p.drop 1)[i]? with
    | none => rw [hx] at hi; cases hi
    | some x =>
      rw [hx] at hi
      have hi : (0 + i, x) = z := Option.some.inj hi
      subst hi
      have hx' := hx
      rw [List.getElem?_drop] at hx'
      have hm : x ∈ p := List.mem_of_getElem? hx'
      have hlt := (List.getElem?_eq_some_iff.mp hx').1
      have hsz : (2 : Nat) ^ 20 = 1048576 := by decide
      generalize hk : 0 + i = k at *
      have ek : ((k + 1 : Nat) : Int) = (k : Int) + 1 := by omega
      have e1 := hf ((k + 1 : Nat) : Int) 1 (by decide)
      rw [divInt_one] at e1
      have o1 : Ok (((k + 1 : Nat) : Int) : Rat) := Ok.of (Bd.int (b := 20) (by omega)) (by decide)
      have e2 := hb _ x o1 (h1 x hm)
      rw [ek] at e1 e2
      simp only [ek]
      simp [val, wipe, hd, -Rat.intCast_add] at e1 e2 ⊢
      rw [e1]
      simp [-Rat.intCast_add]
      rw [e2]
      simp [-Rat.intCast_add]
def SpAt (c : Nat → List Sl → R (D × Bool)) (j : Nat) : Prop := ∀ (p : List Rat) (x : Rat) (b d : Nat), BdL b p → Bd d x → (p.length + 1) * (b + d + 1) ≤ 40000000 → c j [.va (pol p), .va (fr x)] = va (fr (hv p x))
theorem at_ok {kN jp jb : Nat} (hG : G kN = fr 0) (hp : SpPlus c jp) (hb : SpBy c jb) {p : List Rat} {x : Rat} {b d : Nat} (h1 : BdL b p) (h2 : Bd d x) (h3 : (p.length + 1) * (b + d + 1) ≤ 40000000) :
    bo G c T (b_poly_at kN jp jb) [.va (pol p), .va (fr x)] 2 = va (fr (hv p x)) := by
  rw [Nat.add_mul] at h3
  unfold bo b_poly_at
  simp [val, hG, es_for, pol]
  refine forR_then (P := fun r => outF (r.bind _) = _) (I := fun i en => ∃ z, en = [.va (.tuple (p.map fr)), .va (fr x), .va (fr (hv (p.reverse.take i).reverse x)), z]) ?_ ⟨.un, rfl⟩ ?_
  · rintro i en dd hi ⟨z, rfl⟩
    rw [← List.map_reverse, List.getElem?_map] at hi
    cases ha : p.reverse[i]? with
    | none => rw [ha] at hi; cases hi
    | some a =>
      rw [ha] at hi
      cases Option.some.inj hi
      have hm : a ∈ p := List.mem_reverse.mp (List.mem_of_getElem? ha)
      have hlt : i < p.length := by have := (List.getElem?_eq_some_iff.mp ha).1; simpa using this
      have hB : BdL b (p.reverse.take i).reverse := fun y hy => h1 y (List.mem_reverse.mp (List.mem_of_mem_take (List.mem_reverse.mp hy)))
      have hv1 := Bd.hv h2 hB
      have hle : (p.reverse.take i).reverse.length * (b + d + 1) ≤ p.length * (b + d + 1) := Nat.mul_le_mul_right _ (by simp; omega)
      have o1 : Ok (hv (p.reverse.take i).reverse x) := Ok.of hv1 (by omega)
      have o2 : Ok x := Ok.of h2 (by omega)
      have o3 : Ok (hv (p.reverse.take i).reverse x * x) := Ok.of (hv1.mul h2) (by omega)
      have e1 := hb _ _ o1 o2
      have e2 := hp _ a o3 (Ok.of (h1 a hm) (by omega))
      refine ⟨[.va (.tuple (p.map fr)), .va (fr x), .va (fr (hv (p.reverse.take i).reverse x * x + a)), .va (fr a)], .inl ?_, .va (fr a), ?_⟩
      · simp [val, e1, e2]
      · rw [take_snoc ha, List.reverse_append]
        show _ = [_, _, Sl.va (fr (a + x * hv (p.reverse.take i).reverse x)), _]
        rw [show hv (p.reverse.take i).reverse x * x + a = a + x * hv (p.reverse.take i).reverse x by grind]
  · rintro en ⟨z, rfl⟩
    have e : (p.reverse.take (p.map fr).reverse.length).reverse = p := by
      rw [List.length_reverse, List.length_map, List.take_of_length_le (by simp), List.reverse_reverse]
    rw [e]
    simp [val]
def SpProd (c : Nat → List Sl → R (D × Bool)) (j : Nat) : Prop := ∀ (p q : List Rat) (a b : Nat), BdL a p → BdL b q → Ln p → Ln q → p.length * (a + b + 1) ≤ 40000000 → c j [.va (pol p), .va (pol q)] = va (pol (trim (mulL p q)))
def SpPutIn (c : Nat → List Sl → R (D × Bool)) (j : Nat) : Prop := ∀ (p q : List Rat) (a b : Nat), BdL a p → BdL b q → p.length ≤ 1000 → q.length ≤ 90 → a ≤ 40000000 → (∀ i, i ≤ p.length → cpl q.length i * (cpb q.length b a i + b + 1) ≤ 30000000 ∧ cpb q.length b a i ≤ 30000000) →
  c j [.va (pol p), .va (pol q)] = va (pol (trim (cmpP p q)))
theorem put_in_ok {js jp jt : Nat} (hs : SpSum c js) (hp : SpProd c jp) (ht : SpTrim c jt) {p q : List Rat} {a b : Nat} (h1 : BdL a p) (h2 : BdL b q) (l1 : p.length ≤ 1000) (l2 : q.length ≤ 90) (ha : a ≤ 40000000)
    (hB : ∀ i, i ≤ p.length → cpl q.length i * (cpb q.length b a i + b + 1) ≤ 30000000 ∧ cpb q.length b a i ≤ 30000000) : bo G c T (b_poly_put_in js jp jt) [.va (pol p), .va (pol q)] 2 = va (pol (trim (cmpP p q))) := by
  unfold bo b_poly_put_in
  have hn : pol [] = .tuple [] := rfl
  have h0 : (0 : Nat) ≤ line := by unfold line; omega
  have hone : (1 : Nat) ≤ line := by unfold line; omega
  simp [val, es_for, h0, ← hn]
  have hseq : seqR (pol p) = .ok (p.map fr) := rfl
  rw [hseq]
  simp
  refine forR_then (P := fun r => outF (r.bind _) = _) (I := fun i en => ∃ z, en = [.va (pol p), .va (pol q), .va (pol (trim (cmpP (p.reverse.take i).reverse q))), z]) ?_ ⟨.un, rfl⟩ ?_
  · rintro i en dd hi ⟨z, rfl⟩
    rw [← List.map_reverse, List.getElem?_map] at hi
    cases hx : p.reverse[i]? with
    | none => rw [hx] at hi; cases hi
    | some x =>
      rw [hx] at hi
      cases Option.some.inj hi
      have hm : x ∈ p := List.mem_reverse.mp (List.mem_of_getElem? hx)
      have hlt : i < p.length := by have := (List.getElem?_eq_some_iff.mp hx).1; simpa using this
      have hlen : (p.reverse.take i).reverse.length = i := by simp; omega
      have hR : BdL a (p.reverse.take i).reverse := fun y hy => h1 y (List.mem_reverse.mp (List.mem_of_mem_take (List.mem_reverse.mp hy)))
      generalize hr : (p.reverse.take i).reverse = r at *
      have k1 := cmpP_bd (Nat.le_refl _) h2 hR
      have k2 := cmpP_len (q := q) (Nat.le_refl _) r
      rw [hlen] at k1 k2
      obtain ⟨w1, w2⟩ := hB i (by omega)
      have tl := trim_len (cmpP r q)
      have k3 : cpl q.length i ≤ 1000 * 91 := Nat.mul_le_mul (by omega) (by omega)
      have k4 : (trim (cmpP r q)).length * (cpb q.length b a i + b + 1) ≤ cpl q.length i * (cpb q.length b a i + b + 1) := Nat.mul_le_mul_right _ (by omega)
      have e1 := hp (trim (cmpP r q)) q _ b k1.trim h2 (by unfold Ln; omega) (by unfold Ln; omega) (by omega)
      have tl2 := trim_len (mulL (trim (cmpP r q)) q)
      have ml := mulL_len (trim (cmpP r q)) q
      have k5 : BdL ((trim (cmpP r q)).length * (cpb q.length b a i + b + 1)) (trim (mulL (trim (cmpP r q)) q)) := (BdL.mul k1.trim h2).trim
      have e2 := ht.1 [x]
      have e3 := hs (trim (mulL (trim (cmpP r q)) q)) (trim [x]) (OkL.of k5 (by omega)) (OkL.of (BdL.cons (h1 x hm) (BdL.nil a)).trim ha) (by unfold Ln; omega) (by have := trim_len [x]; unfold Ln; simp at this; omega)
      refine ⟨[.va (pol p), .va (pol q), .va (pol (trim (addL (trim (mulL (trim (cmpP r q)) q)) (trim [x])))), .va (fr x)], .inl ?_, .va (fr x), ?_⟩
      · have e2' : c jt [.va (.list [fr x])] = va (pol (trim [x])) := e2
        simp [val, e1, e2', e3, hone]
      · rw [take_snoc hx, List.reverse_append, hr]
        show _ = [_, _, Sl.va (pol (trim (cmpP (x :: r) q))), _]
        rw [trim_ext (q := cmpP (x :: r) q)]
        rw [ser_add, ser_trim, ser_trim, ser_mul, ser_trim, ser_cmpP]
        show _ + (PS.C x + PS.X * 0) = _
        grind
  · rintro en ⟨z, rfl⟩
    have e : (p.reverse.take (p.map fr).reverse.length).reverse = p := by
      rw [List.length_reverse, List.length_map, List.take_of_length_le (by simp), List.reverse_reverse]
    rw [e]
    simp [val]
end
end AW

/-! AwPo4: the product of two rows. -/
namespace AW
open PySem PySem.Spec PyProof.Rows
theorem forR_ex {g : D → En → R En} {b : En → R Fl} {ds : List D} {en : En} {Q : En → Prop} (I : Nat → En → Prop) (init : I 0 en) (step : ∀ i en d, ds[i]? = some d → I i en → ∃ en', ((g d en).bind b = .ok (.nx en') ∨ (g d en).bind b = .ok (.ct en')) ∧ I (i + 1) en') (fin : ∀ en', I ds.length en' → Q en') : ∃ en', forR g b ds en = .ok (.nx en') ∧ Q en' := by
  obtain ⟨en', h1, h2⟩ := forR_go (I := I) (k := 0) (ds := ds) (en := en) (fun i en d hd hI => by
    rw [Nat.zero_add] at hI ⊢
    exact step i en d hd hI) init
  rw [Nat.zero_add] at h2
  exact ⟨en', h1, fin en' h2⟩
theorem setD_nat {ds : List D} {n : Nat} {d : D} (h : n < ds.length) : setD ds (n : Int) d = .ok (ds.set n d) := by
  unfold setD L2.ixN
  rw [if_pos (by omega), if_pos (by omega)]
  simp
theorem ser_set : ∀ (F : List Rat) (m : Nat) (v : Rat), m < F.length → ser (F.set m v) = ser F + PS.X ^ m * PS.C (v - F.getD m 0)
  | [], m, v, h => by simp at h
  | a :: F, 0, v, _ => by
    show PS.C v + PS.X * ser F = PS.C a + PS.X * ser F + PS.X ^ 0 * PS.C (v - a)
    rw [show v - a = v + -a by grind, PS.C_add, PS.C_neg]
    grind
  | a :: F, m + 1, v, h => by
    show PS.C a + PS.X * ser (F.set m v) = PS.C a + PS.X * ser F + PS.X ^ (m + 1) * PS.C (v - F.getD m 0)
    rw [ser_set F m v (by simpa using h)]
    grind
theorem ser_take_succ {p : List Rat} {i : Nat} {x : Rat} (h : p[i]? = some x) : ser (p.take (i + 1)) = ser (p.take i) + PS.X ^ i * PS.C x := by
  have hi := (List.getElem?_eq_some_iff.mp h).1
  rw [take_snoc h, ser_append, List.length_take, Nat.min_eq_left (by omega)]
  show _ + _ * (PS.C x + PS.X * 0) = _
  grind
section
variable {G : Nat → D} {c : Nat → List Sl → R (D × Bool)} {T : List Fn} {nm : Nm}
theorem prod_ok {kN jp jb jt : Nat} (hG : G kN = fr 0) (hp : SpPlus c jp) (hb : SpBy c jb) (ht : SpTrim c jt) {p q : List Rat} {a b : Nat} (h1 : BdL a p) (h2 : BdL b q) (l1 : Ln p) (l2 : Ln q) (h3 : p.length * (a + b + 1) ≤ 40000000) :
    bo G c T (b_poly_product kN jp jb jt) [.va (pol p), .va (pol q)] 5 = va (pol (trim (mulL p q))) := by
  unfold Ln at l1 l2
  obtain ⟨n, hn, hm⟩ : ∃ n : Nat, max 0 ((p.length : Int) + (q.length : Int) - 1) = (n : Int) ∧ n = p.length + q.length - 1 := ⟨p.length + q.length - 1, by omega, rfl⟩
  have c1 : (-1000000 : Int) ≤ (n : Int) := by omega
  have c2 : (n : Int) ≤ 1000000 := by omega
  have c3 : n ≤ line := by unfold line; omega
  have c4 : (1 : Nat) ≤ line := by unfold line; omega
  have lp : sem1 .len (pol p) = v1 (.int p.length) := by simp [pol]
  have lq : sem1 .len (pol q) = v1 (.int q.length) := by simp [pol]
  have sp : seqR (pol p) = .ok (p.map fr) := rfl
  have sq : seqR (pol q) = .ok (q.map fr) := rfl
  unfold bo b_poly_product
  simp [val, hG, es_for, lp, lq, hn, c1, c2, c3, c4, sp, sq]
  have e0 : List.replicate n (fr 0) = (List.replicate n (0 : Rat)).map fr := by simp
  rw [e0, enumD_map]
  refine forR_then (P := fun r => outF (r.bind _) = _) (I := fun i en => ∃ F z3 z4 z5 z6, en = [.va (pol p), .va (pol q), .ow (F.map fr), z3, z4, z5, z6] ∧ F.length = n ∧ ser F = ser (p.take i) * ser q ∧ BdL (i * (a + b + 1)) F) ?_ ⟨List.replicate n 0, _, _, _, _, rfl, by simp, ?_, ?_⟩ ?_
  · rintro i en d hi ⟨F0, z3, z4, z5, z6, rfl, k1, k2, k3⟩
    rw [List.getElem?_map, enumN_get] at hi
    cases hx : p[i]? with
    | none => rw [hx] at hi; cases hi
    | some x =>
      rw [hx] at hi
      cases Option.some.inj hi
      have hil := (List.getElem?_eq_some_iff.mp hx).1
      have hmx : x ∈ p := List.mem_of_getElem? hx
      have hmul : (i + 1) * (a + b + 1) ≤ p.length * (a + b + 1) := Nat.mul_le_mul_right _ (by omega)
      rw [Nat.add_mul] at hmul
      simp [val, es_for, sq]
      rw [enumD_map]
      generalize hR : forR _ _ _ _ = r
      have key : ∃ en', r = .ok (.nx en') ∧ ∃ F z5 z6, en' = [.va (pol p), .va (pol q), .ow (F.map fr), .va (.int (i : Nat)), .va (fr x), z5, z6] ∧ F.length = n ∧ ser F = ser F0 + PS.X ^ i * (PS.C x * ser q) ∧ BdL (i * (a + b + 1) + (a + b + 1)) F := by
       rw [← hR]
       refine forR_ex (I := fun k en => ∃ F z5 z6, en = [.va (pol p), .va (pol q), .ow (F.map fr), .va (.int (i : Nat)), .va (fr x), z5, z6] ∧ F.length = n ∧
        ser F = ser F0 + PS.X ^ i * (PS.C x * ser (q.take k)) ∧ BdL (i * (a + b + 1) + (a + b + 1)) F ∧ ∀ m, i + k ≤ m → F.getD m 0 = F0.getD m 0) ⟨F0, _, _, rfl, k1, ?_, k3.mono (by omega), fun m _ => rfl⟩ ?_ ?_
       · rw [List.take_zero]
         show ser F0 = ser F0 + PS.X ^ i * (PS.C x * 0)
         grind
       · rintro k en d hk ⟨F, y5, y6, rfl, f1, f2, f3, f4⟩
         rw [List.getElem?_map, enumN_get] at hk
         cases hy : q[k]? with
         | none => rw [hy] at hk; cases hk
         | some y =>
           rw [hy] at hk
           cases Option.some.inj hk
           have hkl := (List.getElem?_eq_some_iff.mp hy).1
           have hmy : y ∈ q := List.mem_of_getElem? hy
           have hlt : i + k < F.length := by omega
           have eF : (F.map fr)[i + k]? = some (fr (F.getD (i + k) 0)) := by simp [hlt]
           have b0 : Bd (i * (a + b + 1)) (F.getD (i + k) 0) := by
             rw [f4 (i + k) (by omega)]
             have : (F0.getD (i + k) 0) ∈ F0 := by
               have hlt' : i + k < F0.length := by omega
               simp [hlt']
             exact k3 _ this
           have b1 : Bd (a + b) (x * y) := (h1 x hmx).mul (h2 y hmy)
           have e1 := hb x y (Ok.of (h1 x hmx) (by omega)) (Ok.of (h2 y hmy) (by omega))
           have e2 := hp (F.getD (i + k) 0) (x * y) (Ok.of b0 (by omega)) (Ok.of b1 (by omega))
           have e3 : ((i : Int) + (k : Int)) = ((i + k : Nat) : Int) := by omega
           have e4 := atD_nat eF
           have e5 : setD (F.map fr) ((i + k : Nat) : Int) (fr (F.getD (i + k) 0 + x * y)) = .ok ((F.set (i + k) (F.getD (i + k) 0 + x * y)).map fr) := by
             rw [setD_nat (by rw [List.length_map]; exact hlt), List.map_set]
           generalize hv : F.getD (i + k) 0 = v at *
           refine ⟨[.va (pol p), .va (pol q), .ow ((F.set (i + k) (v + x * y)).map fr), .va (.int (i : Nat)), .va (fr x), .va (.int (k : Nat)), .va (fr y)], .inl ?_, F.set (i + k) (v + x * y), _, _, rfl, by rw [List.length_set]; exact f1, ?_, ?_, ?_⟩
           · simp only [Nat.zero_add, bindT_tpt, bindTs_cons, bindT_nm, bindTs_nil, R.bind_ok, List.set_cons_succ, List.set_cons_zero]
             simp [val, e3, e4, e1, e2, e5, -Int.natCast_add]
           · rw [ser_set F (i + k) _ hlt, f2, ser_take_succ hy, hv, show v + x * y - v = x * y by grind, PS.C_mulC]
             grind
           · intro w hw
             rcases List.mem_or_eq_of_mem_set hw with hw | rfl
             · exact f3 w hw
             · exact (b0.add b1).mono (by omega)
           · intro m hm'
             rw [← f4 m (by omega)]
             have hne : i + k ≠ m := by omega
             simp [List.getElem?_set_ne hne]
       · rintro en ⟨F, y5, y6, rfl, f1, f2, f3, f4⟩
         refine ⟨F, _, _, rfl, f1, ?_, f3⟩
         rw [f2, List.length_map, enumN_len, List.take_length]
      obtain ⟨en', rfl, F, y5, y6, rfl, f1, f2, f3⟩ := key
      refine ⟨_, .inl rfl, F, ⟨_, _, _, _, rfl⟩, f1, ?_, ?_⟩
      · rw [f2, k2, ser_take_succ hx]
        grind
      · rw [Nat.add_mul, Nat.one_mul]
        exact f3
  · rw [ser_zeros, List.take_zero]
    show (0 : PS) = 0 * ser q
    grind
  · intro x hx
    rw [(List.mem_replicate.mp hx).2]
    exact Bd.zero _
  · rintro en ⟨F, z3, z4, z5, z6, rfl, k1, k2, k3⟩
    rw [List.length_map, enumN_len, List.take_length] at k2
    have e1 := ht.1 F
    rw [trim_ext (k2.trans (ser_mul p q).symm)] at e1
    simp [val, e1]
end
end AW

/-! AwLaw1: the laws' own reckoning with fractions and rows. -/
namespace AW
open PySem PySem.Spec PyProof.Rows
theorem z01 : PyData.tuple [.int 0, .int 1] = fr 0 := rfl
theorem shp_row (p : List Rat) : Shp 2 (.list (p.map fr)) := Shp.lst fun d hd => by
  obtain ⟨x, _, rfl⟩ := List.mem_map.mp hd
  exact Shp.fr x
theorem ne_row (p : List Rat) : sem2 .ne (.list (p.map fr)) (.list []) = v1 (.bool (!p.isEmpty)) := by
  rw [s2_ne, if_pos ⟨(shp_row p).ok (by decide), (shp_row []).ok (by decide)⟩]
  cases p <;> rfl
theorem hv_take_succ : ∀ {p : List Rat} {i : Nat} {a : Rat} (x : Rat), p[i]? = some a → hv (p.take (i + 1)) x = hv (p.take i) x + a * x ^ i
  | [], i, a, x, h => by simp at h
  | b :: p, 0, a, x, h => by
    cases Option.some.inj h
    show b + x * 0 = 0 + b * x ^ 0
    grind
  | b :: p, i + 1, a, x, h => by
    have h : p[i]? = some a := h
    show b + x * hv (p.take (i + 1)) x = b + x * hv (p.take i) x + a * x ^ (i + 1)
    rw [hv_take_succ x h]
    grind
theorem Bd.pow {d : Nat} {x : Rat} (h : Bd d x) : ∀ i : Nat, Bd (i * d) (x ^ i)
  | 0 => by rw [Rat.pow_zero]; exact Bd.one _
  | i + 1 => by
    rw [Rat.pow_succ, Nat.add_mul, Nat.one_mul]
    exact (Bd.pow h i).mul h
theorem ser_cmpP_take {p q : List Rat} : ∀ {i : Nat} {a : Rat}, p[i]? = some a → ser (cmpP (p.take (i + 1)) q) = ser (cmpP (p.take i) q) + PS.C a * ser q ^ i := by
  induction p with
  | nil => intro i a h; simp at h
  | cons b p ih =>
    intro i a h
    cases i with
    | zero =>
      cases Option.some.inj h
      show ser (cmpP [b] q) = ser (cmpP [] q) + _
      rw [ser_cmpP]
      show (0 : PS) * ser q + PS.C b = 0 + PS.C b * ser q ^ 0
      grind
    | succ i =>
      have h : p[i]? = some a := h
      show ser (cmpP (b :: p.take (i + 1)) q) = ser (cmpP (b :: p.take i) q) + _
      rw [ser_cmpP, ser_cmpP, ih h]
      grind
/-- the row of q's i-th power -/
def powP (q : List Rat) (i : Nat) : List Rat := cmpP (List.replicate i 0 ++ [1]) q
theorem ser_powP (q : List Rat) : ∀ i, ser (powP q i) = ser q ^ i
  | 0 => by
    show ser (cmpP [1] q) = _
    rw [ser_cmpP, PS.C_one]
    show (0 : PS) * ser q + 1 = ser q ^ 0
    grind
  | i + 1 => by
    show ser (cmpP (0 :: (List.replicate i 0 ++ [1])) q) = _
    rw [ser_cmpP, PS.C_zero]
    show ser (powP q i) * ser q + 0 = _
    rw [ser_powP q i]
    grind
theorem powP_bd {q : List Rat} {l b : Nat} (a : Nat) (hl : q.length ≤ l) (hq : BdL b q) (i : Nat) : BdL (cpb l b a (i + 1)) (powP q i) ∧ (powP q i).length ≤ cpl l (i + 1) := by
  have h1 : BdL a (List.replicate i 0 ++ [1]) := fun x hx => by
    rcases List.mem_append.mp hx with hx | hx
    · rw [(List.mem_replicate.mp hx).2]; exact Bd.zero _
    · rcases List.mem_cons.mp hx with rfl | hx
      · exact Bd.one _
      · cases hx
  have e : (List.replicate i (0 : Rat) ++ [1]).length = i + 1 := by simp
  have h2 := cmpP_bd hl hq h1
  have h3 := cmpP_len hl (List.replicate i (0 : Rat) ++ [1])
  rw [e] at h2 h3
  exact ⟨h2, h3⟩
section
variable {G : Nat → D} {c : Nat → List Sl → R (D × Bool)} {T : List Fn} {nm : Nm}
theorem low_ok {a b : Int} (hb : b ≠ 0) : bo G c T b_law_low [.va (.int a), .va (.int b)] 2 = va (fr (Rat.divInt a b)) := by
  have h0 : Nat.gcd a.natAbs b.natAbs ≠ 0 := by
    have := Nat.gcd_pos_of_pos_right a.natAbs (show 0 < b.natAbs by omega)
    omega
  rw [fr_made hb]
  unfold bo b_law_low
  simp [val, es_whl]
  refine whileR_then (P := fun r => outF (r.bind _) = _) (I := fun en => ∃ m n : Nat, en = [.va (.int a), .va (.int b), .va (.int m), .va (.int n)] ∧ Nat.gcd m n = Nat.gcd a.natAbs b.natAbs) (m := fun en => match en with
    | [_, _, _, .va (.int n)] => n.toNat
    | _ => 0) ?_ ⟨_, _, rfl, rfl⟩
  rintro en ⟨m, n, rfl, hg⟩
  by_cases hn : n = 0
  · subst hn
    left
    rw [Nat.gcd_zero_right] at hg
    subst hg
    refine ⟨by simp [val], ?_⟩
    by_cases h : b < 0
    · simp [val, h, hb, h0, line]
    · simp [val, h, hb, h0, line]
  · right
    have hm : (m : Int).fmod (n : Int) = ((m % n : Nat) : Int) := by rw [Int.fmod_eq_emod_of_nonneg _ (by omega)]; rfl
    refine ⟨by simp [val]; omega, [.va (.int a), .va (.int b), .va (.int n), .va (.int (m % n : Nat))], by simp [val, hn, hm], ⟨n, m % n, rfl, ?_⟩, ?_⟩
    · rw [← hg, Nat.gcd_comm n, Nat.gcd_comm m n]
      exact (Nat.gcd_rec n m).symm
    · simp
      have := Nat.mod_lt m (show 0 < n by omega)
      omega
theorem short_go (p : List Rat) (d : D) (h1 : sem1 .list d = .ok (.list (p.map fr), true)) : bo G c T b_law_short [.va d] 0 = va (pol (trim p)) := by
  have c0 : (0 : Nat) ≤ line := Nat.zero_le _
  have c2 : (2 : Nat) ≤ line := by unfold line; omega
  unfold bo b_law_short
  simp [val, es_whl, h1]
  refine whileR_then (P := fun r => outF (r.bind _) = _) (I := fun en => ∃ p' : List Rat, en = [.ow (p'.map fr)] ∧ trim p' = trim p) (m := fun en => match en with
    | [.ow ds] => ds.length
    | _ => 0) ?_ ⟨p, rfl, rfl⟩
  rintro en ⟨p', rfl, hp⟩
  rcases List.eq_nil_or_concat p' with rfl | ⟨r, a, rfl⟩
  · left
    have e := ne_row []
    refine ⟨by simp [c0] at e ⊢; rw [e]; simp, ?_⟩
    simp [val]
    rw [← hp]
    rfl
  · have hne : (r ++ [a]).isEmpty = false := by cases r <;> rfl
    have e := ne_row (r ++ [a])
    rw [hne, List.map_append] at e
    have e' : sem2 .ne (.list (r.map fr ++ [fr a])) (.list []) = v1 (.bool true) := e
    have e2 : atD (r.map fr ++ [fr a]) (-1) = v1 (fr a) := atD_last
    rw [List.concat_eq_append] at hp
    rw [trim_snoc] at hp
    by_cases h0 : a = 0
    · right
      rw [if_pos h0] at hp
      subst h0
      refine ⟨by simp [val, c0, c2, e', e2, z01], [.ow (r.map fr)], by simp, ⟨r, rfl, hp⟩, by simp⟩
    · left
      rw [if_neg h0] at hp
      refine ⟨by simp [val, c0, c2, e', e2, z01, h0], ?_⟩
      simp [val]
      rw [← hp]
      simp [pol]
theorem short_ok (p : List Rat) : bo G c T b_law_short [.va (.list (p.map fr))] 0 = va (pol (trim p)) := short_go p _ (by simp)
theorem short_ok' (p : List Rat) : bo G c T b_law_short [.va (pol p)] 0 = va (pol (trim p)) := short_go p _ (by simp [pol])
theorem added_ok {jt jp : Nat} (ht : SpTrim c jt) (hp : SpPlus c jp) {p q : List Rat} (h1 : OkL p) (h2 : OkL q) (l1 : Ln p) (l2 : Ln q) :
    bo G c T (b_law_added jt jp) [.va (pol p), .va (pol q)] 5 = va (pol (trim (addL p q))) := by
  unfold Ln at l1 l2
  have m1 : max (p.length : Int) (q.length : Int) - (p.length : Int) = ((max p.length q.length - p.length : Nat) : Int) := by omega
  have m2 : max (p.length : Int) (q.length : Int) - (q.length : Int) = ((max p.length q.length - q.length : Nat) : Int) := by omega
  have hn : max p.length q.length ≤ 100000 := by omega
  have z : zipD ((p ++ List.replicate (max p.length q.length - p.length) 0).map fr) ((q ++ List.replicate (max p.length q.length - q.length) 0).map fr) = _ := zipD_map _ _
  have hl := zip_pad p q
  have hlen : ((p ++ List.replicate (max p.length q.length - p.length) 0).zip (q ++ List.replicate (max p.length q.length - q.length) 0)).length ≤ 100000 := by simp; omega
  have k1 : OkL (p ++ List.replicate (max p.length q.length - p.length) 0) := h1.pad _
  have k2 : OkL (q ++ List.replicate (max p.length q.length - q.length) 0) := h2.pad _
  have len1 : p.length + (max p.length q.length - p.length) ≤ 100000 := by omega
  have len2 : q.length + (max p.length q.length - q.length) ≤ 100000 := by omega
  unfold bo b_law_added
  generalize max p.length q.length - p.length = n at *
  generalize max p.length q.length - q.length = m at *
  have c1 : (n : Int) ≤ 1000000 := by omega
  have c2 : (m : Int) ≤ 1000000 := by omega
  have c3 : (-1000000 : Int) ≤ (n : Int) := by omega
  have c4 : (-1000000 : Int) ≤ (m : Int) := by omega
  have c5 : n ≤ line := by unfold line; omega
  have c6 : m ≤ line := by unfold line; omega
  have c7 : p.length + n ≤ line := by unfold line; omega
  have c8 : q.length + m ≤ line := by unfold line; omega
  have c9 : (1 : Nat) ≤ line := by unfold line; omega
  have c11 : (2 : Nat) ≤ line := by unfold line; omega
  have r1 : p.map fr ++ List.replicate n (fr 0) = (p ++ List.replicate n 0).map fr := by simp
  have r2 : q.map fr ++ List.replicate m (fr 0) = (q ++ List.replicate m 0).map fr := by simp
  have c10 : ((p ++ List.replicate n 0).zip (q ++ List.replicate m 0)).length ≤ line := Nat.le_trans hlen (by unfold line; omega)
  simp [val, pol, z01, m1, m2, c1, c2, c3, c4, c5, c6, c7, c8, c9, c11, rep_fr]
  rw [r1, r2, cmp_of (xs := (p ++ List.replicate n 0).zip (q ++ List.replicate m 0)) (e := fun (z : Rat × Rat) => .tuple [fr z.1, fr z.2]) (h := fun (z : Rat × Rat) => fr (z.1 + z.2)) ?_ c10 ?_]
  · have e : ((p ++ List.replicate n 0).zip (q ++ List.replicate m 0)).map (fun (z : Rat × Rat) => fr (z.1 + z.2)) = (((p ++ List.replicate n 0).zip (q ++ List.replicate m 0)).map fun (z : Rat × Rat) => z.1 + z.2).map fr := by rw [List.map_map]; rfl
    rw [e]
    simp only [R.bind_ok, List.nil_append, List.append_nil]
    rw [ht.1]
    rw [trim_ext (hl.trans (ser_add p q).symm)]
    rfl
  · simp only [evI_zip, ev_var, val]
    show zipR (.list _) (.list _) = _
    exact congrArg R.ok z
  · intro w hw
    obtain ⟨h3, h4⟩ := List.of_mem_zip (a := w.1) (b := w.2) hw
    have := hp w.1 w.2 (k1 _ h3) (k2 _ h4)
    simp [val, wipe, this]
def SpMul (c : Nat → List Sl → R (D × Bool)) (j : Nat) : Prop := ∀ (p q : List Rat) (a b : Nat), BdL a p → BdL b q → p.length ≤ 50000 → q.length ≤ 50000 → q.length * (a + b + 1) ≤ 40000000 → c j [.va (pol p), .va (pol q)] = va (pol (trim (mulL p q)))
theorem multiplied_ok {jt ja js : Nat} (ht : SpBy c jt) (ha : SpSum c ja) (hs : SpTrim c js) {p q : List Rat} {a b : Nat} (h1 : BdL a p) (h2 : BdL b q) (l1 : p.length ≤ 50000) (l2 : q.length ≤ 50000) (h3 : q.length * (a + b + 1) ≤ 40000000) :
    bo G c T (b_law_multiplied jt ja js) [.va (pol p), .va (pol q)] 5 = va (pol (trim (mulL p q))) := by
  have c0 : (0 : Nat) ≤ line := Nat.zero_le _
  have c1 : (1 : Nat) ≤ line := by unfold line; omega
  have c2 : (2 : Nat) ≤ line := by unfold line; omega
  have hn : pol [] = .tuple [] := rfl
  have sp : seqR (pol p) = .ok (p.map fr) := rfl
  have sq : seqR (pol q) = .ok (q.map fr) := rfl
  unfold bo b_law_multiplied
  simp [val, es_for, c0, ← hn, sq]
  rw [enumD_map]
  refine forR_then (P := fun r => outF (r.bind _) = _) (I := fun k en => ∃ F, (∃ z3 z4 z5 z6, en = [.va (pol p), .va (pol q), .va (pol F), z3, z4, z5, z6]) ∧ ser F = ser p * ser (q.take k) ∧ trim F = F ∧ BdL (k * (a + b + 1)) F ∧ F.length ≤ p.length + k) ?_
    ⟨[], ⟨_, _, _, _, rfl⟩, ?_, rfl, BdL.nil _, by simp⟩ ?_
  · rintro k en d hk ⟨F, ⟨z3, z4, z5, z6, rfl⟩, f1, f2, f3, f4⟩
    rw [List.getElem?_map, enumN_get] at hk
    cases hy : q[k]? with
    | none => rw [hy] at hk; cases hk
    | some y =>
      rw [hy] at hk
      cases Option.some.inj hk
      have hkl := (List.getElem?_eq_some_iff.mp hy).1
      have hmy : y ∈ q := List.mem_of_getElem? hy
      have hmul : (k + 1) * (a + b + 1) ≤ q.length * (a + b + 1) := Nat.mul_le_mul_right _ (by omega)
      rw [Nat.add_mul] at hmul
      have d1 : (k : Int) ≤ 1000000 := by omega
      have d2 : (-1000000 : Int) ≤ (k : Int) := by omega
      have d3 : k ≤ line := by unfold line; omega
      have d4 : k + p.length ≤ line := by unfold line; omega
      have hc : ∀ z5 z6, evF G c (dflT T) (.cmp (.call jt (.cons (.var 4) (.cons (.var 6) .nil)) 0) (.nm 6) (.seq (.var 0)) .none [(Nm.n 6, 6)]) [.va (pol p), .va (pol q), .va (pol F), .va (.int (k : Nat)), .va (fr y), z5, z6] = .ok (.list ((p.map fun x => y * x).map fr), true) := fun z5 z6 => by
        have z := cmp_of (G := G) (c := c) (dfl := dflT T) (elt := (.call jt (.cons (.var 4) (.cons (.var 6) .nil)) 0)) (tg := .nm 6) (it := .seq (.var 0)) (ifs := .none) (own := [(Nm.n 6, 6)]) (en := [.va (pol p), .va (pol q), .va (pol F), .va (.int (k : Nat)), .va (fr y), z5, z6])
          (xs := p) (e := fr) (h := fun x => fr (y * x)) (by simp [val, sp]) (by unfold line; omega) (fun x hx => by
            have := ht y x (Ok.of (h2 y hmy) (by omega)) (Ok.of (h1 x hx) (by omega))
            simp [val, wipe, this])
        rw [z, List.map_map]
        rfl
      have e1 := hs.1 (List.replicate k 0 ++ p.map fun x => y * x)
      rw [List.map_append, ← rep_fr] at e1
      have bR : BdL (a + b) (List.replicate k 0 ++ p.map fun x => y * x) := fun x hx => by
        rcases List.mem_append.mp hx with hx | hx
        · rw [(List.mem_replicate.mp hx).2]; exact Bd.zero _
        · rw [Nat.add_comm a b]
          exact BdL.smul (h2 y hmy) h1 x hx
      have lR := trim_len (List.replicate k 0 ++ p.map fun x => y * x)
      rw [List.length_append, List.length_replicate, List.length_map] at lR
      have e2 := ha F (trim (List.replicate k 0 ++ p.map fun x => y * x)) (OkL.of f3 (by omega)) (OkL.of bR.trim (by omega)) (by unfold Ln; omega) (by unfold Ln; omega)
      refine ⟨[.va (pol p), .va (pol q), .va (pol (trim (addL F (trim (List.replicate k 0 ++ p.map fun x => y * x))))), .va (.int (k : Nat)), .va (fr y), .va (.list ((List.replicate k [fr 0]).flatten ++ (p.map fun x => y * x).map fr)), z6], .inl ?_, _, ⟨_, _, _, _, rfl⟩, ?_, trim_trim _, ?_, ?_⟩
      · simp only [Nat.zero_add, bindT_tpt, bindTs_cons, bindT_nm, bindTs_nil, R.bind_ok, List.set_cons_succ, List.set_cons_zero]
        simp only [ess_cons, es_asg, ev_op2, rd1_rep, rd1_cmp, hc]
        simp [val, z01, c1, c2, d1, d2, d3, d4, -List.map_map] at e1 ⊢
        rw [e1]
        simp [val, e2]
      · rw [ser_trim, ser_add, f1, ser_trim, ser_append, ser_zeros, ser_smul, List.length_replicate, ser_take_succ hy]
        grind
      · rw [Nat.add_mul, Nat.one_mul]
        exact (BdL.add f3 bR.trim).trim.mono (by omega)
      · have := trim_len (addL F (trim (List.replicate k 0 ++ p.map fun x => y * x)))
        rw [addL_len] at this
        omega
  · rw [List.take_zero]
    show (0 : PS) = ser p * 0
    grind
  · rintro en ⟨F, ⟨z3, z4, z5, z6, rfl⟩, f1, f2, f3, f4⟩
    rw [List.length_map, enumN_len, List.take_length] at f1
    have e : F = trim (mulL p q) := by rw [← f2]; exact trim_ext (f1.trans (ser_mul p q).symm)
    simp [val]
    rw [e]
end
end AW

/-! AwLaw2: the laws' slopes, values, rows put in; the drawn parts. -/
namespace AW
open PySem PySem.Spec PyProof.Rows
theorem enumN_shift {α β : Type} (f : Nat × α → β) (xs : List α) : ∀ k : Nat, (enumN (k + 1) xs).map f = (enumN k xs).map fun z => f (z.1 + 1, z.2) := by
  induction xs with
  | nil => intro k; rfl
  | cons x xs ih => intro k; show f (k + 1, x) :: (enumN (k + 1 + 1) xs).map f = _; rw [ih]; rfl
theorem derL_eq (p : List Rat) : ((enumN 0 p).map fun (z : Nat × Rat) => ((z.1 : Int) : Rat) * z.2).drop 1 = derL p := by
  cases p with
  | nil => rfl
  | cons x p =>
    show (enumN 1 p).map _ = (enumN 0 p).map _
    rw [enumN_shift (fun (z : Nat × Rat) => ((z.1 : Int) : Rat) * z.2) p 0]
section
variable {G : Nat → D} {c : Nat → List Sl → R (D × Bool)} {T : List Fn} {nm : Nm}
theorem sloped_ok {jt jb : Nat} (ht : SpTrim c jt) (hb : SpBy c jb) {p : List Rat} (h1 : OkL p) (l1 : Ln p) : bo G c T (b_law_sloped jt jb) [.va (pol p)] 2 = va (pol (trim (derL p))) := by
  have sp : seqR (pol p) = .ok (p.map fr) := rfl
  have c2 : (2 : Nat) ≤ line := by unfold line; omega
  unfold bo b_law_sloped
  unfold Ln at l1
  simp [val]
  rw [cmp_of (xs := enumN 0 p) (e := fun (z : Nat × Rat) => .tuple [.int (z.1 : Nat), fr z.2]) (h := fun (z : Nat × Rat) => fr (((z.1 : Int) : Rat) * z.2)) ?_ (by rw [enumN_len]; unfold line; omega) ?_]
  · have e : (enumN 0 p).map (fun (z : Nat × Rat) => fr (((z.1 : Int) : Rat) * z.2)) = ((enumN 0 p).map fun (z : Nat × Rat) => ((z.1 : Int) : Rat) * z.2).map fr := by rw [List.map_map]; rfl
    have e2 : ∀ l : List Rat, semSl (.list (l.map fr)) (some 1) none = .ok (.list ((l.drop 1).map fr), true) := fun l => by
      show R.ok (PyData.list (cutL (l.map fr) (some ((1 : Nat) : Int)) none), true) = _
      rw [cutL_from, List.map_drop]
    rw [e]
    simp only [R.bind_ok, e2]
    rw [derL_eq, ht.1]
    rfl
  · simp [val, sp]
    rw [enumD_map]
  · intro z hz
    obtain ⟨i, hi⟩ := List.mem_iff_getElem?.mp hz
    rw [enumN_get] at hi
    cases hx : p[i]? with
    | none => rw [hx] at hi; cases hi
    | some x =>
      rw [hx] at hi
      have hi : (0 + i, x) = z := Option.some.inj hi
      subst hi
      have hm : x ∈ p := List.mem_of_getElem? hx
      have hlt := (List.getElem?_eq_some_iff.mp hx).1
      have hsz : (2 : Nat) ^ 20 = 1048576 := by decide
      generalize hk : 0 + i = k at *
      have o1 : Ok ((k : Int) : Rat) := Ok.of (Bd.int (b := 20) (by omega)) (by decide)
      have e2 := hb _ x o1 (h1 x hm)
      rw [fr_int] at e2
      simp [val, wipe, c2] at e2 ⊢
      rw [e2]
      simp
theorem value_ok {jp jb : Nat} (hp : SpPlus c jp) (hb : SpBy c jb) {p : List Rat} {x : Rat} {b d : Nat} (h1 : BdL b p) (h2 : Bd d x) (h3 : (p.length + 1) * (b + d + 1) ≤ 40000000) :
    bo G c T (b_law_value jp jb) [.va (pol p), .va (fr x)] 3 = va (fr (hv p x)) := by
  have sp : seqR (pol p) = .ok (p.map fr) := rfl
  have c2 : (2 : Nat) ≤ line := by unfold line; omega
  have z11 : PyData.tuple [.int 1, .int 1] = fr 1 := rfl
  rw [Nat.add_mul] at h3
  unfold bo b_law_value
  simp [val, es_for, sp, c2, z01, z11]
  refine forR_then (P := fun r => outF (r.bind _) = _) (I := fun i en => ∃ z, en = [.va (pol p), .va (fr x), .va (fr (hv (p.take i) x)), .va (fr (x ^ i)), z]) ?_ ⟨.un, by rw [Rat.pow_zero]; rfl⟩ ?_
  · rintro i en dd hi ⟨z, rfl⟩
    rw [List.getElem?_map] at hi
    cases ha : p[i]? with
    | none => rw [ha] at hi; cases hi
    | some a =>
      rw [ha] at hi
      cases Option.some.inj hi
      have hm : a ∈ p := List.mem_of_getElem? ha
      have hlt : i < p.length := (List.getElem?_eq_some_iff.mp ha).1
      have hB : BdL b (p.take i) := fun y hy => h1 y (List.mem_of_mem_take hy)
      have hv1 := Bd.hv h2 hB
      rw [List.length_take, Nat.min_eq_left (by omega)] at hv1
      have hle : i * (b + d + 1) ≤ p.length * (b + d + 1) := Nat.mul_le_mul_right _ (by omega)
      have hle2 : i * d ≤ i * (b + d + 1) := Nat.mul_le_mul_left _ (by omega)
      have o1 : Ok (hv (p.take i) x) := Ok.of hv1 (by omega)
      have o2 : Ok x := Ok.of h2 (by omega)
      have o3 : Ok (x ^ i) := Ok.of (h2.pow i) (by omega)
      have o4 : Ok (a * x ^ i) := Ok.of ((h1 a hm).mul (h2.pow i)) (by omega)
      have e1 := hb a _ (Ok.of (h1 a hm) (by omega)) o3
      have e2 := hp _ _ o1 o4
      have e3 := hb _ _ o3 o2
      rw [← hv_take_succ x ha] at e2
      rw [← Rat.pow_succ] at e3
      refine ⟨_, .inl ?_, .va (fr a), rfl⟩
      simp [val, e1, e2, e3]
  · rintro en ⟨z, rfl⟩
    rw [List.length_map, List.take_length]
    simp [val]
theorem inside_ok {ja jm js : Nat} (ha : SpSum c ja) (hm : SpMul c jm) (hs : SpTrim c js) {p q : List Rat} {a b : Nat} (h1 : BdL a p) (h2 : BdL b q) (l1 : p.length ≤ 500) (l2 : q.length ≤ 90) (hab : a ≤ 4000000)
    (hB : ∀ i, i ≤ p.length → cpl q.length i * (cpb q.length b a i + b + 1) ≤ 30000000 ∧ cpb q.length b a i ≤ 400000) : bo G c T (b_law_inside ja jm js) [.va (pol p), .va (pol q)] 3 = va (pol (trim (cmpP p q))) := by
  have sp : seqR (pol p) = .ok (p.map fr) := rfl
  have c0 : (0 : Nat) ≤ line := Nat.zero_le _
  have c1 : (1 : Nat) ≤ line := by unfold line; omega
  have c2 : (2 : Nat) ≤ line := by unfold line; omega
  have hn : pol [] = .tuple [] := rfl
  have z11 : PyData.tuple [PyData.tuple [.int 1, .int 1]] = pol (trim (powP q 0)) := by
    rw [trim_ext (q := [1]) (by rw [ser_powP]; show ser q ^ 0 = PS.C 1 + PS.X * 0; rw [PS.C_one]; grind)]
    have : trim [1] = [1] := by decide
    rw [this]
    rfl
  unfold bo b_law_inside
  simp [val, es_for, sp, c0, c1, c2, ← hn, z11]
  refine forR_then (P := fun r => outF (r.bind _) = _) (I := fun i en => ∃ z, en = [.va (pol p), .va (pol q), .va (pol (trim (cmpP (p.take i) q))), .va (pol (trim (powP q i))), z]) ?_ ⟨.un, rfl⟩ ?_
  · rintro i en dd hi ⟨z, rfl⟩
    rw [List.getElem?_map] at hi
    cases hx : p[i]? with
    | none => rw [hx] at hi; cases hi
    | some x =>
      rw [hx] at hi
      cases Option.some.inj hi
      have hmx : x ∈ p := List.mem_of_getElem? hx
      have hlt : i < p.length := (List.getElem?_eq_some_iff.mp hx).1
      obtain ⟨w1, w2⟩ := hB i (by omega)
      obtain ⟨w3, w4⟩ := hB (i + 1) (by omega)
      obtain ⟨g1, g2⟩ := powP_bd a (Nat.le_refl _) h2 i
      have hR : BdL a (p.take i) := fun y hy => h1 y (List.mem_of_mem_take hy)
      have k1 := cmpP_bd (Nat.le_refl _) h2 hR
      have k2 := cmpP_len (q := q) (Nat.le_refl _) (p.take i)
      rw [List.length_take, Nat.min_eq_left (by omega)] at k1 k2
      have q1 : cpl q.length i ≤ 500 * 91 := Nat.mul_le_mul (by omega) (by omega)
      have q2 : cpl q.length (i + 1) ≤ 500 * 91 := Nat.mul_le_mul (by omega) (by omega)
      have t1 := trim_len (cmpP (p.take i) q)
      have t2 := trim_len (powP q i)
      have t3 := trim_len [x]
      simp only [List.length_cons, List.length_nil] at t3
      have bx : BdL a (trim [x]) := (BdL.cons (h1 x hmx) (BdL.nil a)).trim
      have e0 : c js [.va (.list [fr x])] = va (pol (trim [x])) := hs.1 [x]
      have m1 : (trim [x]).length * (cpb q.length b a (i + 1) + a + 1) ≤ 1 * (cpb q.length b a (i + 1) + a + 1) := Nat.mul_le_mul_right _ (by omega)
      have e1 := hm (trim (powP q i)) (trim [x]) _ a g1.trim bx (by omega) (by omega) (by omega)
      have sw : trim (mulL (trim (powP q i)) (trim [x])) = trim (mulL [x] (trim (powP q i))) := trim_ext (by rw [ser_mul, ser_mul, ser_trim, ser_trim]; grind)
      have bm := BdL.mul (BdL.cons (h1 x hmx) (BdL.nil a)) g1.trim
      simp only [List.length_cons, List.length_nil] at bm
      have lm := trim_len (mulL [x] (trim (powP q i)))
      have lm2 := mulL_len [x] (trim (powP q i))
      simp only [List.length_cons, List.length_nil] at lm2
      rw [sw] at e1
      have e2 := ha (trim (cmpP (p.take i) q)) (trim (mulL [x] (trim (powP q i)))) (OkL.of k1.trim (by omega)) (OkL.of bm.trim (by omega)) (by unfold Ln; omega) (by unfold Ln; omega)
      have m2 : q.length * (cpb q.length b a (i + 1) + b + 1) ≤ cpl q.length (i + 1) * (cpb q.length b a (i + 1) + b + 1) := Nat.mul_le_mul_right _ (by unfold cpl; rw [Nat.add_mul]; omega)
      have e3 := hm (trim (powP q i)) q _ b g1.trim h2 (by omega) (by omega) (by omega)
      have r2 : trim (addL (trim (cmpP (p.take i) q)) (trim (mulL [x] (trim (powP q i))))) = trim (cmpP (p.take (i + 1)) q) := trim_ext (by
        rw [ser_add, ser_trim, ser_trim, ser_mul, ser_trim, ser_powP, ser_cmpP_take hx]
        show _ + (PS.C x + PS.X * 0) * _ = _
        grind)
      have r3 : trim (mulL (trim (powP q i)) q) = trim (powP q (i + 1)) := trim_ext (by rw [ser_mul, ser_trim, ser_powP, ser_powP]; grind)
      rw [r2] at e2
      rw [r3] at e3
      refine ⟨_, .inl ?_, .va (fr x), rfl⟩
      simp [val, c1, e0, e1, e2, e3]
  · rintro en ⟨z, rfl⟩
    rw [List.length_map, List.take_length]
    simp [val]

/-! ### drawn parts -/
def mixV (x k : Int) : Int := ((((x + 7919 * k) * 48271).fmod 2147483647) * ((((x + 7919 * k) * 48271).fmod 2147483647) + 2 * k + 1)).fmod 2147483629
theorem mixV_nn (x k : Int) : 0 ≤ mixV x k ∧ mixV x k < 2147483629 := by
  unfold mixV
  rw [Int.fmod_eq_emod_of_nonneg _ (by decide)]
  exact ⟨Int.emod_nonneg _ (by decide), Int.emod_lt_of_pos _ (by decide)⟩
def SpMix (c : Nat → List Sl → R (D × Bool)) (j : Nat) : Prop := ∀ x k : Int, k.natAbs < 2 ^ 60 → c j [.va (.int x), .va (.int k)] = va (.int (mixV x k))
theorem mixed_ok (x k : Int) (hk : k.natAbs < 2 ^ 60) : bo G c T b_law_mixed [.va (.int x), .va (.int k)] 1 = va (.int (mixV x k)) := by
  have m1 : mulOk 7919 k = true := mulOk_small_l (by decide)
  have m2 : mulOk (x + 7919 * k) 48271 = true := mulOk_small_r (by decide)
  have m3 : mulOk 2 k = true := mulOk_small_l (by decide)
  have h1 : 0 ≤ ((x + 7919 * k) * 48271).fmod 2147483647 ∧ ((x + 7919 * k) * 48271).fmod 2147483647 < 2147483647 := by
    rw [Int.fmod_eq_emod_of_nonneg _ (by decide)]
    exact ⟨Int.emod_nonneg _ (by decide), Int.emod_lt_of_pos _ (by decide)⟩
  unfold mixV
  unfold bo b_law_mixed
  generalize hg : ((x + 7919 * k) * 48271).fmod 2147483647 = g at *
  have m4 : ∀ z, mulOk g z = true := fun z => mulOk_small_l (by omega)
  simp [val, m1, m2, m3, hg, m4]
end
end AW

/-! AwLaw3: k01's drawn parts and its law. -/
namespace AW
open PySem PySem.Spec PyProof.Rows
theorem pow93 : (2 : Nat) ^ 93 = 9903520314283042199192993792 := by decide
theorem Bd.div {o u : Int} {b : Nat} (hu : u ≠ 0) (h1 : o.natAbs ≤ 2 ^ b) (h2 : u.natAbs ≤ 2 ^ b) : Bd b (Rat.divInt o u) := by
  obtain ⟨k1, k2⟩ := divInt_le (a := o) hu
  exact ⟨Nat.le_trans k1 h1, Nat.le_trans k2 h2⟩
theorem atD_3 (a b e d : D) (xs : List D) : atD (a :: b :: e :: d :: xs) 3 = v1 d := atD_nat (n := 3) rfl
theorem atD_4 (a b e d f : D) (xs : List D) : atD (a :: b :: e :: d :: f :: xs) 4 = v1 f := atD_nat (n := 4) rfl
theorem atD_5 (a b e d f g : D) (xs : List D) : atD (a :: b :: e :: d :: f :: g :: xs) 5 = v1 g := atD_nat (n := 5) rfl
theorem atD_6 (a b e d f g h : D) (xs : List D) : atD (a :: b :: e :: d :: f :: g :: h :: xs) 6 = v1 h := atD_nat (n := 6) rfl
theorem atD_7 (a b e d f g h i : D) (xs : List D) : atD (a :: b :: e :: d :: f :: g :: h :: i :: xs) 7 = v1 i := atD_nat (n := 7) rfl
section
variable {G : Nat → D} {c : Nat → List Sl → R (D × Bool)} {T : List Fn} {nm : Nm}
def SpPart (c : Nat → List Sl → R (D × Bool)) (j : Nat) : Prop := ∃ f : Int → Rat, ∀ x : Int, 0 ≤ x → x < 2147483629 → Bd 93 (f x) ∧ c j [.va (.int x)] = va (fr (f x))
theorem far_le {a b x : Int} (ha : 0 ≤ a ∧ a < 2147483629) (hb : 0 ≤ b ∧ b < 2147483629) (hx : 0 ≤ x ∧ x < 2147483629) : (a * b * (x + 1)).natAbs ≤ 2 ^ 93 ∧ 0 ≤ a * b * (x + 1) := by
  have h1 : 0 ≤ a * b := Int.mul_nonneg ha.1 hb.1
  refine ⟨?_, Int.mul_nonneg h1 (by omega)⟩
  rw [Int.natAbs_mul, Int.natAbs_mul, show (2 : Nat) ^ 93 = 2 ^ 31 * 2 ^ 31 * 2 ^ 31 by decide]
  have e : (2 : Nat) ^ 31 = 2147483648 := by decide
  exact Nat.mul_le_mul (Nat.mul_le_mul (by omega) (by omega)) (by omega)
theorem part_go {jm jl : Nat} (hm : SpMix c jm) (x : Int) (hx : 0 ≤ x ∧ x < 2147483629) : ∃ o u : Int, o.natAbs ≤ 2 ^ 93 ∧ u.natAbs ≤ 2 ^ 93 ∧ u ≠ 0 ∧ ∀ d, c jl [.va (.int o), .va (.int u)] = va d → bo G c T (b_law_part jm jl) [.va (.int x)] 3 = va d := by
  have e1 := hm x 91 (by decide)
  have e2 := hm x 92 (by decide)
  have n1 := mixV_nn x 91
  have n2 := mixV_nn x 92
  have hp := pow93
  unfold bo b_law_part
  generalize mixV x 91 = a at *
  generalize mixV x 92 = b at *
  obtain ⟨f1, f2⟩ := far_le n1 n2 hx
  have m1 : mulOk a b = true := mulOk_small_l (by omega)
  have m2 : mulOk (a * b) (x + 1) = true := mulOk_small_r (by omega)
  have c8 : (8 : Nat) ≤ line := by unfold line; omega
  have c5 : (5 : Nat) ≤ line := by unfold line; omega
  generalize hf : a * b * (x + 1) = far at *
  have k8 : x.fmod 8 = 0 ∨ x.fmod 8 = 1 ∨ x.fmod 8 = 2 ∨ x.fmod 8 = 3 ∨ x.fmod 8 = 4 ∨ x.fmod 8 = 5 ∨ x.fmod 8 = 6 ∨ x.fmod 8 = 7 := by
    rw [Int.fmod_eq_emod_of_nonneg _ (by decide)]; omega
  have q1 : (x.fdiv 8).fmod 19 = x / 8 % 19 := by rw [Int.fdiv_eq_ediv_of_nonneg _ (by decide), Int.fmod_eq_emod_of_nonneg _ (by decide)]
  have q2 : (x.fdiv 8).fmod 5 = x / 8 % 5 := by rw [Int.fdiv_eq_ediv_of_nonneg _ (by decide), Int.fmod_eq_emod_of_nonneg _ (by decide)]
  have q3 : (x.fdiv 8).fmod 199 = x / 8 % 199 := by rw [Int.fdiv_eq_ediv_of_nonneg _ (by decide), Int.fmod_eq_emod_of_nonneg _ (by decide)]
  have q4 : (x.fdiv 152).fmod 3 = x / 152 % 3 := by rw [Int.fdiv_eq_ediv_of_nonneg _ (by decide), Int.fmod_eq_emod_of_nonneg _ (by decide)]
  have q5 : (x.fdiv 152).fmod 9 = x / 152 % 9 := by rw [Int.fdiv_eq_ediv_of_nonneg _ (by decide), Int.fmod_eq_emod_of_nonneg _ (by decide)]
  have q6 : far.fmod 1000000000 = far % 1000000000 := by rw [Int.fmod_eq_emod_of_nonneg _ (by decide)]
  have q7 : (x.fdiv 2000).fmod 5 = x / 2000 % 5 := by rw [Int.fdiv_eq_ediv_of_nonneg _ (by decide), Int.fmod_eq_emod_of_nonneg _ (by decide)]
  have k5 : x / 2000 % 5 = 0 ∨ x / 2000 % 5 = 1 ∨ x / 2000 % 5 = 2 ∨ x / 2000 % 5 = 3 ∨ x / 2000 % 5 = 4 := by omega
  rcases k8 with h | h | h | h | h | h | h | h <;>
  · simp [val, e1, e2, m1, m2, c8, c5, hf, h, atD_3, atD_4, atD_5, atD_6, atD_7, q1, q2, q3, q4, q5, q6, q7]
    rcases k5 with h' | h' | h' | h' | h' <;>
    · simp [val, h', atD_3, atD_4]
      refine ⟨_, ?_, _, ?_, ?_, fun d hd => by rw [hd]; rfl⟩ <;> omega
theorem part_ok {jm jl : Nat} (hm : SpMix c jm) (hl : SpFrac c jl) : ∃ f : Int → Rat, ∀ x : Int, 0 ≤ x → x < 2147483629 → Bd 93 (f x) ∧ bo G c T (b_law_part jm jl) [.va (.int x)] 3 = va (fr (f x)) := by
  have h : ∀ x : Int, ∃ q : Rat, 0 ≤ x → x < 2147483629 → Bd 93 q ∧ bo G c T (b_law_part jm jl) [.va (.int x)] 3 = va (fr q) := fun x => by
    by_cases hx : 0 ≤ x ∧ x < 2147483629
    · obtain ⟨o, u, h1, h2, h3, h4⟩ := part_go (G := G) (T := T) (jl := jl) hm x hx
      exact ⟨Rat.divInt o u, fun _ _ => ⟨Bd.div h3 h1 h2, h4 _ (hl o u h3)⟩⟩
    · exact ⟨0, fun a b => absurd ⟨a, b⟩ hx⟩
  exact ⟨fun x => Classical.choose (h x), fun x => Classical.choose_spec (h x)⟩
end
end AW

/-! AwLaw4: k01: drawn rows, what is told of them, the law. -/
namespace AW
open PySem PySem.Spec PyProof.Rows
/-- a drawn row -/
structure Dr (n : Nat) (p : List Rat) : Prop where
  tr : trim p = p
  bd : BdL 93 p
  len : p.length ≤ n
theorem small_nat (s : Nat) (h : s ≤ 1000000) : small (s : Int) = true := by
  have e : (2 : Nat) ^ 20 = 1048576 := by decide
  have := log2_of_le (n := (s : Int).natAbs) (b := 20) (by omega)
  exact Nat.ble_eq_true_of_le (by omega)
theorem rngR_nat (s : Nat) (h : s ≤ 1000000) : rngR 0 (s : Int) = .ok ((List.range s).map fun (k : Nat) => .int (k : Int)) := by
  have h0 : ((s : Int) - 0).toNat = s := by omega
  unfold rngR
  rw [show small 0 = true from small_nat 0 (by omega), small_nat s h, h0]
  simp [rngD]
section
variable {G : Nat → D} {c : Nat → List Sl → R (D × Bool)} {T : List Fn} {nm : Nm}
def SpDrawn (c : Nat → List Sl → R (D × Bool)) (j : Nat) : Prop := ∀ (x : Int) (n : Nat), n ≤ 1000 → ∃ p, Dr (n + 1) p ∧ c j [.va (.int x), .va (.int n)] = va (pol p)
theorem drawn_ok {jm js jp : Nat} (hm : SpMix c jm) (hs : SpTrim c js) (hp : SpPart c jp) (x : Int) (n : Nat) (hn : n ≤ 1000) : ∃ p, Dr (n + 1) p ∧ bo G c T (b_law_drawn jm js jp) [.va (.int x), .va (.int n)] 2 = va (pol p) := by
  obtain ⟨f, hf⟩ := hp
  have e1 := hm x 1 (by decide)
  obtain ⟨n1, n2⟩ := mixV_nn x 1
  generalize mixV x 1 = m at *
  obtain ⟨s, hs1, hs2⟩ : ∃ s : Nat, (m.fdiv 3).fmod ((n : Int) + 2) = (s : Int) ∧ s ≤ n + 1 := by
    rw [Int.fdiv_eq_ediv_of_nonneg _ (by decide), Int.fmod_eq_emod_of_nonneg _ (by omega)]
    have h1 := Int.emod_nonneg (m / 3) (show (n : Int) + 2 ≠ 0 by omega)
    have h2 := Int.emod_lt_of_pos (m / 3) (show 0 < (n : Int) + 2 by omega)
    exact ⟨((m / 3) % ((n : Int) + 2)).toNat, by omega, by omega⟩
  have hz : ¬ ((n : Int) + 2 = 0) := by omega
  have p60 : (2 : Nat) ^ 60 = 1152921504606846976 := by decide
  have hr := rngR_nat s (by omega)
  refine ⟨trim ((List.range s).map fun (k : Nat) => f (mixV x (10 + (k : Int)))), ⟨trim_trim _, BdL.trim fun y hy => ?_, ?_⟩, ?_⟩
  · obtain ⟨k, hk, rfl⟩ := List.mem_map.mp hy
    obtain ⟨k1, k2⟩ := mixV_nn x (10 + (k : Int))
    exact (hf _ k1 k2).1
  · have := trim_len ((List.range s).map fun (k : Nat) => f (mixV x (10 + (k : Int))))
    rw [List.length_map, List.length_range] at this
    omega
  · unfold bo b_law_drawn
    simp [val, e1, hz, hs1]
    rw [cmp_of (xs := List.range s) (e := fun (k : Nat) => .int (k : Int)) (h := fun (k : Nat) => fr (f (mixV x (10 + (k : Int))))) ?_ (by rw [List.length_range]; unfold line; omega) ?_]
    · have e : (List.range s).map (fun (k : Nat) => fr (f (mixV x (10 + (k : Int))))) = ((List.range s).map fun (k : Nat) => f (mixV x (10 + (k : Int)))).map fr := by rw [List.map_map]; rfl
      rw [e]
      simp only [R.bind_ok]
      rw [hs.1]
      simp only [lf_ok, R.bind_ok, outF_rt]
    · simp [val]
      rw [hr]
    · intro k hk
      have hk := List.mem_range.mp hk
      obtain ⟨k1, k2⟩ := mixV_nn x (10 + (k : Int))
      have g1 := hm x (10 + (k : Int)) (by omega)
      have g2 := (hf _ k1 k2).2
      simp [val, wipe, g1, g2]
def SpTold (c : Nat → List Sl → R (D × Bool)) (j : Nat) : Prop := ∀ (p q r : List Rat) (x : Rat), Dr 4 p → Dr 4 q → Dr 3 r → Bd 93 x → c j [.va (pol p), .va (pol q), .va (pol r), .va (fr x)] = va (.bool true)
theorem mulle {a b c : Nat} (h : a ≤ b) (m : b * c ≤ 40000000) : a * c ≤ 40000000 := Nat.le_trans (Nat.mul_le_mul_right _ h) m
theorem cpb_mono {l l' b a : Nat} (h : l ≤ l') : ∀ n, cpb l b a n ≤ cpb l' b a n
  | 0 => Nat.le_refl _
  | n + 1 => by
    have ih := cpb_mono (b := b) (a := a) h n
    have h2 : cpl l n ≤ cpl l' n := Nat.mul_le_mul_left _ (by omega)
    have := Nat.mul_le_mul h2 (show cpb l b a n + b + 1 ≤ cpb l' b a n + b + 1 by omega)
    show cpl l n * (cpb l b a n + b + 1) + a + 1 ≤ cpl l' n * (cpb l' b a n + b + 1) + a + 1
    omega
theorem cp_ok {l n : Nat} (hl : l ≤ 4) (hn : n ≤ 4) : ∀ i, i ≤ n → cpl l i * (cpb l 93 93 i + 93 + 1) ≤ 30000000 ∧ cpb l 93 93 i ≤ 400000 := fun i hi => by
  have h1 := cpb_mono (b := 93) (a := 93) hl i
  have h2 : cpl l i ≤ cpl 4 i := Nat.mul_le_mul_left _ (by omega)
  have h3 := Nat.mul_le_mul h2 (show cpb l 93 93 i + 93 + 1 ≤ cpb 4 93 93 i + 93 + 1 by omega)
  have h4 : i = 0 ∨ i = 1 ∨ i = 2 ∨ i = 3 ∨ i = 4 := by omega
  rcases h4 with rfl | rfl | rfl | rfl | rfl <;> exact ⟨Nat.le_trans h3 (by decide), Nat.le_trans h1 (by decide)⟩
theorem told_ok {js ja jp jm jc jt jl jo ji jn : Nat} (hs : SpSum c js) (ha : SpSum c ja) (hp : SpProd c jp) (hm : SpMul c jm) (hc : SpScaled c jc) (ht : SpTrim c jt) (hl : SpSlope c jl) (ho : SpSlope c jo) (hi : SpPutIn c ji)
    (hn : ∀ (p q : List Rat), Dr 4 p → Dr 4 q → c jn [.va (pol p), .va (pol q)] = va (pol (trim (cmpP p q))))
    {p q r : List Rat} {x : Rat} (h1 : Dr 4 p) (h2 : Dr 4 q) (h3 : Dr 3 r) (hx : Bd 93 x) :
    bo G c T (b_law_told_right js ja jp jm jc jt jl jo ji jn) [.va (pol p), .va (pol q), .va (pol r), .va (fr x)] 0 = va (.bool true) := by
  have l1 := h1.len
  have l2 := h2.len
  have l3 := h3.len
  have h3' : Dr 4 r := ⟨h3.tr, h3.bd, by omega⟩
  have o1 := OkL.of h1.bd (by decide)
  have o2 := OkL.of h2.bd (by decide)
  have n1 : Ln p := by unfold Ln; omega
  have n2 : Ln q := by unfold Ln; omega
  have c1 : (1 : Nat) ≤ line := by unfold line; omega
  have e1 := hs p q o1 o2 n1 n2
  have e2 := ha p q o1 o2 n1 n2
  have e3 := hp p q 93 93 h1.bd h2.bd n1 n2 (mulle l1 (by decide))
  have e4 := hm p q 93 93 h1.bd h2.bd (by omega) (by omega) (mulle l2 (by decide))
  have e5 := hc p x o1 (Ok.of hx (by decide)) n1
  have e6 : c jt [.va (.list [fr x])] = va (pol (trim [x])) := ht.1 [x]
  have lt := trim_len [x]
  simp only [List.length_cons, List.length_nil] at lt
  have e7 := hm p (trim [x]) 93 93 h1.bd (BdL.cons hx (BdL.nil 93)).trim (by omega) (by omega) (mulle lt (by decide))
  rw [trim_ext (p := mulL p (trim [x])) (q := p.map fun y => x * y) (by
    rw [ser_mul, ser_trim, ser_smul]
    show _ * (PS.C x + PS.X * 0) = _
    grind)] at e7
  have e8 := hl p o1 n1
  have e9 := ho p o1 n1
  have w1 := cp_ok (l := p.length) (n := r.length) l1 (by omega)
  have w2 := cp_ok (l := r.length) (n := p.length) (by omega) l1
  have e10 := hi r p 93 93 h3.bd h1.bd (by omega) (by omega) (by decide) (fun i hi => ⟨(w1 i hi).1, Nat.le_trans (w1 i hi).2 (by decide)⟩)
  have e11 := hi p r 93 93 h1.bd h3.bd (by omega) (by omega) (by decide) (fun i hi => ⟨(w2 i hi).1, Nat.le_trans (w2 i hi).2 (by decide)⟩)
  have e12 := hn r p h3' h1
  have e13 := hn p r h1 h3'
  unfold bo b_law_told_right
  simp [val, e1, e2, e3, e4, e5, e6, e7, e8, e9, e10, e11, e12, e13, c1]
def SpVals (c : Nat → List Sl → R (D × Bool)) (j : Nat) : Prop := SpTold c j
theorem vals_ok {jv ja js jl jp jt ji : Nat} (hv_ : SpAt c jv) (ha : SpAt c ja) (hs : SpSum c js) (hl : SpPlus c jl) (hp : SpProd c jp) (ht : SpBy c jt) (hi : SpPutIn c ji)
    {p q r : List Rat} {x : Rat} (h1 : Dr 4 p) (h2 : Dr 4 q) (h3 : Dr 3 r) (hx : Bd 93 x) :
    bo G c T (b_law_values_right jv ja js jl jp jt ji) [.va (pol p), .va (pol q), .va (pol r), .va (fr x)] 2 = va (.bool true) := by
  have l1 := h1.len
  have l2 := h2.len
  have l3 := h3.len
  have o1 := OkL.of h1.bd (by decide)
  have o2 := OkL.of h2.bd (by decide)
  have n1 : Ln p := by unfold Ln; omega
  have n2 : Ln q := by unfold Ln; omega
  have b1 : Bd 748 (hv p x) := (Bd.hv hx h1.bd).mono (Nat.mul_le_mul_right 187 l1)
  have b2 : Bd 748 (hv q x) := (Bd.hv hx h2.bd).mono (Nat.mul_le_mul_right 187 l2)
  have e1 := hv_ p x 93 93 h1.bd hx (mulle (b := 5) (by omega) (by decide))
  have e2 := hv_ q x 93 93 h2.bd hx (mulle (b := 5) (by omega) (by decide))
  have e3 := ha p x 93 93 h1.bd hx (mulle (b := 5) (by omega) (by decide))
  have e4 := hs p q o1 o2 n1 n2
  have ll := addL_len p q
  have lt := trim_len (addL p q)
  have e5 := ha (trim (addL p q)) x 187 93 (BdL.add h1.bd h2.bd).trim hx (mulle (b := 5) (by omega) (by decide))
  rw [hv_trim, hv_add] at e5
  have e6 := hl (hv p x) (hv q x) (Ok.of b1 (by decide)) (Ok.of b2 (by decide))
  have e7 := hp p q 93 93 h1.bd h2.bd n1 n2 (mulle l1 (by decide))
  have ml := mulL_len p q
  have mt := trim_len (mulL p q)
  have bm : BdL 748 (trim (mulL p q)) := (BdL.mul h1.bd h2.bd).trim.mono (Nat.mul_le_mul_right 187 l1)
  have e8 := ha (trim (mulL p q)) x 748 93 bm hx (mulle (b := 9) (by omega) (by decide))
  rw [hv_trim, hv_mul] at e8
  have e9 := ht (hv p x) (hv q x) (Ok.of b1 (by decide)) (Ok.of b2 (by decide))
  have w1 := cp_ok (l := p.length) (n := r.length) l1 (by omega)
  have e10 := hi r p 93 93 h3.bd h1.bd (by omega) (by omega) (by decide) (fun i hi => ⟨(w1 i hi).1, Nat.le_trans (w1 i hi).2 (by decide)⟩)
  have cb := (cmpP_bd (Nat.le_refl _) h1.bd h3.bd).trim.mono (w1 r.length (Nat.le_refl _)).2
  have cl := cmpP_len (q := p) (Nat.le_refl _) r
  have cl2 : cpl p.length r.length ≤ 3 * 5 := Nat.mul_le_mul l3 (by omega)
  have ct := trim_len (cmpP r p)
  have e11 := ha (trim (cmpP r p)) x 400000 93 cb hx (mulle (b := 16) (by omega) (by decide))
  rw [hv_trim, hv_cmpP] at e11
  have e12 := hv_ r (hv p x) 93 748 h3.bd b1 (mulle (b := 4) (by omega) (by decide))
  unfold bo b_law_values_right
  simp [val, e1, e2, e3, e4, e5, e6, e7, e8, e9, e10, e11, e12]
end
end AW

/-! AwDg: degrees of series that end; division with rest; divisors. -/
namespace AW
open PS
/-- nothing from place n on -/
def Lt (s : PS) (n : Nat) : Prop := ∀ k, n ≤ k → s.f k = 0
theorem Lt.mono {s : PS} {m n : Nat} (h : Lt s m) (l : m ≤ n) : Lt s n := fun k hk => h k (Nat.le_trans l hk)
theorem Lt.zero (n : Nat) : Lt 0 n := fun k _ => zero_f k
theorem Lt.add {a b : PS} {n : Nat} (h1 : Lt a n) (h2 : Lt b n) : Lt (a + b) n := fun k hk => by rw [add_f, h1 k hk, h2 k hk]; grind
theorem Lt.sub {a b : PS} {n : Nat} (h1 : Lt a n) (h2 : Lt b n) : Lt (a - b) n := fun k hk => by rw [sub_f, h1 k hk, h2 k hk]; grind
theorem Lt.neg {a : PS} {n : Nat} (h1 : Lt a n) : Lt (-a) n := fun k hk => by rw [neg_f, h1 k hk]; grind
theorem Lt.C (c : Rat) : Lt (PS.C c) 1 := fun k hk => by show (if k = 0 then c else 0) = 0; rw [if_neg (by omega)]
theorem Lt.one : Lt 1 1 := Lt.C 1
theorem Lt.smul {a : PS} {n : Nat} (c : Rat) (h : Lt a n) : Lt (PS.C c * a) n := fun k hk => by rw [C_mul, h k hk]; grind
theorem Lt.X_mul {a : PS} {n : Nat} (h : Lt a n) : Lt (X * a) (n + 1) := fun k hk => by
  rw [PS.X_mul]
  cases k with
  | zero => rfl
  | succ k => exact h k (by omega)
theorem Lt.nil {a : PS} (h : Lt a 0) : a = 0 := by ext k; rw [h k (by omega), zero_f]
theorem Lt.ext {a b : PS} {n : Nat} (h1 : Lt a n) (h2 : Lt b n) (h : ∀ k, k < n → a.f k = b.f k) : a = b := by
  ext k
  rcases Nat.lt_or_ge k n with hk | hk
  · exact h k hk
  · rw [h1 k hk, h2 k hk]
/-- without the first one -/
def sh (a : PS) : PS := ⟨fun k => a.f (k + 1)⟩
theorem sh_eq (a : PS) : a = PS.C (a.f 0) + X * sh a := by
  ext k
  rw [add_f, PS.X_mul]
  cases k with
  | zero => show _ = (if 0 = 0 then a.f 0 else 0) + 0; rw [if_pos rfl]; grind
  | succ k => show _ = (if k + 1 = 0 then a.f 0 else 0) + a.f (k + 1); rw [if_neg (by omega)]; grind
theorem Lt.sh {a : PS} {n : Nat} (h : Lt a (n + 1)) : Lt (AW.sh a) n := fun k hk => h (k + 1) (by omega)
theorem Lt.mul {b : PS} {n : Nat} (h2 : Lt b n) : ∀ {m : Nat} {a : PS}, Lt a m → Lt (a * b) (m + n - 1)
  | 0, a, h => by rw [h.nil, show (0 : PS) * b = 0 by grind]; exact Lt.zero _
  | m + 1, a, h => by
    have ih := Lt.mul h2 h.sh
    cases n with
    | zero => rw [h2.nil, show a * 0 = 0 by grind]; exact Lt.zero _
    | succ n =>
      rw [sh_eq a, show (PS.C (a.f 0) + X * AW.sh a) * b = PS.C (a.f 0) * b + X * (AW.sh a * b) by grind]
      cases m with
      | zero =>
        rw [h.sh.nil, show X * (0 * b) = 0 by grind]
        exact (h2.smul _).add (Lt.zero _) |>.mono (by omega)
      | succ m => exact Lt.add ((h2.smul _).mono (by omega)) (ih.X_mul.mono (by omega))
theorem Lt.mul' {a b : PS} {m n k : Nat} (h1 : Lt a m) (h2 : Lt b n) (l : m + n ≤ k + 1) : Lt (a * b) k := (Lt.mul h2 h1).mono (by omega)
theorem top_mul {b : PS} {n : Nat} (h2 : Lt b (n + 1)) : ∀ {m : Nat} {a : PS}, Lt a (m + 1) → (a * b).f (m + n) = a.f m * b.f n
  | 0, a, h => by
    have e : a = PS.C (a.f 0) := by
      have := sh_eq a
      rw [h.sh.nil] at this
      rw [show PS.C (a.f 0) + X * 0 = PS.C (a.f 0) by grind] at this
      exact this
    rw [e, C_mul, Nat.zero_add]
    show _ = (if 0 = 0 then a.f 0 else 0) * b.f n
    rw [if_pos rfl]
  | m + 1, a, h => by
    have ih := top_mul h2 h.sh
    have e := sh_eq a
    have e2 : a * b = PS.C (a.f 0) * b + X * (sh a * b) := by
      conv => lhs; rw [e]
      grind
    rw [e2, add_f, C_mul, PS.X_mul, show m + 1 + n = m + n + 1 by omega]
    show a.f 0 * b.f (m + n + 1) + (sh a * b).f (m + n) = _
    rw [ih, h2 _ (by omega)]
    show _ + a.f (m + 1) * b.f n = _
    grind
/-- a series that ends -/
def Pl (s : PS) : Prop := ∃ n, Lt s n
theorem Pl.zero : Pl 0 := ⟨0, Lt.zero 0⟩
theorem Pl.one : Pl 1 := ⟨1, Lt.one⟩
theorem Pl.C (c : Rat) : Pl (PS.C c) := ⟨1, Lt.C c⟩
theorem Pl.X : Pl X := ⟨2, fun k hk => by show (if k = 1 then (1 : Rat) else 0) = 0; rw [if_neg (by omega)]⟩
theorem Pl.add {a b : PS} : Pl a → Pl b → Pl (a + b) := fun ⟨m, h⟩ ⟨n, k⟩ => ⟨max m n, (h.mono (Nat.le_max_left _ _)).add (k.mono (Nat.le_max_right _ _))⟩
theorem Pl.sub {a b : PS} : Pl a → Pl b → Pl (a - b) := fun ⟨m, h⟩ ⟨n, k⟩ => ⟨max m n, (h.mono (Nat.le_max_left _ _)).sub (k.mono (Nat.le_max_right _ _))⟩
theorem Pl.neg {a : PS} : Pl a → Pl (-a) := fun ⟨m, h⟩ => ⟨m, h.neg⟩
theorem Pl.mul {a b : PS} : Pl a → Pl b → Pl (a * b) := fun ⟨m, h⟩ ⟨n, k⟩ => ⟨_, Lt.mul k h⟩
theorem Pl.pow {a : PS} (h : Pl a) : ∀ n : Nat, Pl (a ^ n)
  | 0 => Pl.one
  | n + 1 => (Pl.pow h n).mul h
/-- degree n just -/
def Dg (s : PS) (n : Nat) : Prop := Lt s (n + 1) ∧ s.f n ≠ 0
theorem Dg.ne {s : PS} {n : Nat} (h : Dg s n) : s ≠ 0 := fun e => h.2 (by rw [e, zero_f])
theorem Pl.dg {s : PS} : Pl s → s ≠ 0 → ∃ n, Dg s n := fun ⟨n, h⟩ => by
  induction n with
  | zero => intro z; exact absurd h.nil z
  | succ n ih =>
    intro z
    by_cases e : s.f n = 0
    · exact ih (fun k hk => by
        rcases Nat.eq_or_lt_of_le hk with rfl | hk
        · exact e
        · exact h k hk) z
    · exact ⟨n, h, e⟩
theorem Dg.mul {a b : PS} {m n : Nat} (h : Dg a m) (k : Dg b n) : Dg (a * b) (m + n) := ⟨(Lt.mul k.1 h.1).mono (by omega), by
  rw [top_mul k.1 h.1]
  exact fun z => by
    rcases (by grind : a.f m = 0 ∨ b.f n = 0) with e | e
    · exact h.2 e
    · exact k.2 e⟩
theorem Dg.lt {s : PS} {m n : Nat} (h : Dg s m) (k : Lt s n) : m < n := by
  rcases Nat.lt_or_ge m n with z | z
  · exact z
  · exact absurd (k m z) h.2
theorem Dg.uniq {s : PS} {m n : Nat} (h : Dg s m) (k : Dg s n) : m = n := by
  have h1 := h.lt k.1
  have h2 := k.lt h.1
  omega
theorem Dg.pl {s : PS} {n : Nat} (h : Dg s n) : Pl s := ⟨_, h.1⟩
theorem Pl.mul_ne {a b : PS} (h1 : Pl a) (h2 : Pl b) (n1 : a ≠ 0) (n2 : b ≠ 0) : a * b ≠ 0 := by
  obtain ⟨m, h⟩ := h1.dg n1
  obtain ⟨n, k⟩ := h2.dg n2
  exact (h.mul k).ne
theorem Pl.cancel {a b c : PS} (ha : Pl a) (hb : Pl b) (hc : Pl c) (n : c ≠ 0) (h : a * c = b * c) : a = b := by
  have e : (a - b) * c = 0 := by grind
  by_cases z : a - b = 0
  · grind
  · exact absurd e (Pl.mul_ne (ha.sub hb) hc z n)
theorem Dg.C {c : Rat} (h : c ≠ 0) : Dg (PS.C c) 0 := ⟨Lt.C c, by show (if 0 = 0 then c else 0) ≠ 0; rw [if_pos rfl]; exact h⟩
theorem Dg.const {s : PS} (h : Lt s 1) : s = PS.C (s.f 0) := Lt.ext h (Lt.C _) fun k hk => by
  have : k = 0 := by omega
  subst this
  rfl
theorem Xpow_f : ∀ (m k : Nat), (X ^ m : PS).f k = if k = m then 1 else 0
  | 0, k => rfl
  | m + 1, k => by
    have e : (X ^ (m + 1) : PS) = X * X ^ m := by grind
    rw [e, PS.X_mul]
    cases k with
    | zero => show (0 : Rat) = _; rw [if_neg (by omega)]
    | succ k =>
      show (X ^ m : PS).f k = _
      rw [Xpow_f m k]
      by_cases h : k = m
      · rw [if_pos h, if_pos (by omega)]
      · rw [if_neg h, if_neg (by omega)]
theorem Xpow_lt (m : Nat) : Lt (X ^ m) (m + 1) := fun k hk => by rw [Xpow_f, if_neg (by omega)]
theorem Xpow_dg (m : Nat) : Dg (X ^ m) m := ⟨Xpow_lt m, by rw [Xpow_f, if_pos rfl]; decide⟩
/-- division with rest -/
theorem div_ex {b : PS} {n : Nat} (hb : Dg b n) : ∀ {m : Nat} {a : PS}, Lt a m → ∃ s r, a = s * b + r ∧ Lt r n ∧ Lt s (m - n)
  | 0, a, h => ⟨0, 0, by rw [h.nil]; grind, Lt.zero _, Lt.zero _⟩
  | m + 1, a, h => by
    rcases Nat.lt_or_ge m n with hm | hm
    · exact ⟨0, a, by grind, h.mono (by omega), Lt.zero _⟩
    · have hq := hb.2
      have t : Dg (X ^ (m - n) * b) (m - n + n) := (Xpow_dg _).mul hb
      have ht : (X ^ (m - n) * b).f m = b.f n := by
        have e := top_mul hb.1 (Xpow_lt (m - n))
        rw [show m - n + n = m by omega, Xpow_f, if_pos rfl] at e
        rw [e]; grind
      have h' : Lt (a - PS.C (a.f m / b.f n) * (X ^ (m - n) * b)) m := fun k hk => by
        rw [sub_f, C_mul]
        rcases Nat.eq_or_lt_of_le hk with rfl | hk
        · rw [ht]; grind
        · rw [h k hk, t.1 k (by omega)]; grind
      obtain ⟨s, r, e, h1, h2⟩ := div_ex hb h'
      refine ⟨s + PS.C (a.f m / b.f n) * X ^ (m - n), r, by grind, h1, ?_⟩
      exact (h2.mono (by omega)).add (((Xpow_lt _).smul _).mono (by omega))
theorem div_uniq {b s r s' r' : PS} {n : Nat} (hb : Dg b n) (ps : Pl s) (ps' : Pl s') (h : s * b + r = s' * b + r') (h1 : Lt r n) (h2 : Lt r' n) : s = s' ∧ r = r' := by
  have e : (s - s') * b = r' - r := by grind
  by_cases z : s - s' = 0
  · rw [z] at e
    exact ⟨by grind, by grind⟩
  · obtain ⟨k, hk⟩ := (ps.sub ps').dg z
    have := (hk.mul hb)
    rw [e] at this
    have := this.lt (h2.sub h1)
    omega
/-- divides -/
def Dv (g a : PS) : Prop := ∃ s, Pl s ∧ a = s * g
theorem Dv.zero (g : PS) : Dv g 0 := ⟨0, Pl.zero, by grind⟩
theorem Dv.refl (g : PS) : Dv g g := ⟨1, Pl.one, by grind⟩
theorem Dv.add {g a b : PS} : Dv g a → Dv g b → Dv g (a + b) := fun ⟨s, h, e⟩ ⟨t, k, f⟩ => ⟨s + t, h.add k, by grind⟩
theorem Dv.sub {g a b : PS} : Dv g a → Dv g b → Dv g (a - b) := fun ⟨s, h, e⟩ ⟨t, k, f⟩ => ⟨s - t, h.sub k, by grind⟩
theorem Dv.mul {g a : PS} (b : PS) (hb : Pl b) : Dv g a → Dv g (b * a) := fun ⟨s, h, e⟩ => ⟨b * s, hb.mul h, by grind⟩
theorem Dv.mul_r {g a : PS} (b : PS) (hb : Pl b) : Dv g a → Dv g (a * b) := fun ⟨s, h, e⟩ => ⟨s * b, h.mul hb, by grind⟩
theorem Dv.trans {g a b : PS} : Dv g a → Dv a b → Dv g b := fun ⟨s, h, e⟩ ⟨t, k, f⟩ => ⟨t * s, k.mul h, by grind⟩
theorem Dv.mul_mul {a b c d : PS} : Dv a b → Dv c d → Dv (a * c) (b * d) := fun ⟨s, h, e⟩ ⟨t, k, f⟩ => ⟨s * t, h.mul k, by grind⟩
theorem Dv.dg {g a : PS} {m n : Nat} (h : Dv g a) (hg : Dg g m) (ha : Dg a n) : m ≤ n := by
  obtain ⟨s, k, e⟩ := h
  have z : s ≠ 0 := fun z => ha.ne (by rw [e, z]; grind)
  obtain ⟨l, hl⟩ := k.dg z
  have := hl.mul hg
  rw [← e] at this
  have := this.uniq ha
  omega
theorem Dv.pl {g a : PS} (hg : Pl g) : Dv g a → Pl a := fun ⟨s, h, e⟩ => by rw [e]; exact h.mul hg
/-- monic of degree n -/
def Mn (s : PS) (n : Nat) : Prop := Lt s (n + 1) ∧ s.f n = 1
theorem Mn.dg {s : PS} {n : Nat} (h : Mn s n) : Dg s n := ⟨h.1, by rw [h.2]; decide⟩
theorem Mn.mul {a b : PS} {m n : Nat} (h : Mn a m) (k : Mn b n) : Mn (a * b) (m + n) := ⟨(h.dg.mul k.dg).1, by rw [top_mul k.1 h.1, h.2, k.2]; grind⟩
theorem Mn.one : Mn 1 0 := ⟨Lt.one, rfl⟩
theorem Mn.pow {a : PS} {m : Nat} (h : Mn a m) : ∀ k, Mn (a ^ k) (m * k)
  | 0 => Mn.one
  | k + 1 => (Mn.pow h k).mul h
theorem Mn.eq {a b : PS} {m n : Nat} (h : Mn a m) (k : Mn b n) (h1 : Dv a b) (h2 : Dv b a) : a = b := by
  have l1 := h1.dg h.dg k.dg
  have l2 := h2.dg k.dg h.dg
  have e : m = n := by omega
  subst e
  obtain ⟨s, ps, e⟩ := h1
  have z : s ≠ 0 := fun z => k.dg.ne (by rw [e, z]; grind)
  obtain ⟨l, hl⟩ := ps.dg z
  have q := hl.mul h.dg
  rw [← e] at q
  have q := q.uniq k.dg
  have hl0 : l = 0 := by omega
  subst hl0
  have c := Dg.const hl.1
  have t := k.2
  rw [e, c, C_mul, h.2] at t
  rw [e, c, show s.f 0 = 1 by grind, C_one]
  grind
/-- made monic -/
theorem Dg.mon {s : PS} {n : Nat} (h : Dg s n) : Mn (PS.C (s.f n)⁻¹ * s) n := ⟨h.1.smul _, by rw [C_mul]; have := h.2; grind⟩
end AW

/-! AwHt: how great the numbers of a rest can get: small solutions of few equations. -/
namespace AW
open PS
/-! ### more numbers than places -/
theorem pigeon : ∀ (N M : Nat) (f : Nat → Nat), M < N → (∀ i, i < N → f i < M) → ∃ i j, i < j ∧ j < N ∧ f i = f j
  | 0, M, f, h, _ => by omega
  | N + 1, M, f, h, hf => by
    by_cases z : ∃ i, i < N ∧ f i = f N
    · obtain ⟨i, hi, e⟩ := z
      exact ⟨i, N, hi, by omega, e⟩
    · cases M with
      | zero => exact absurd (hf 0 (by omega)) (by omega)
      | succ M =>
        have hne : ∀ i, i < N → f i ≠ f N := fun i hi e => z ⟨i, hi, e⟩
        have hN := hf N (by omega)
        obtain ⟨i, j, h1, h2, e⟩ := pigeon N M (fun i => if f i < f N then f i else f i - 1) (by omega) fun i hi => by
          have := hf i (by omega)
          have := hne i hi
          show (if f i < f N then f i else f i - 1) < M
          split <;> omega
        refine ⟨i, j, h1, by omega, ?_⟩
        have n1 := hne i (by omega)
        have n2 := hne j h2
        have e : (if f i < f N then f i else f i - 1) = (if f j < f N then f j else f j - 1) := e
        split at e <;> split at e <;> omega
/-- the sum of the first ones -/
def sm (f : Nat → Int) : Nat → Int
  | 0 => 0
  | n + 1 => sm f n + f n
theorem sm_sub (f g : Nat → Int) : ∀ n, sm (fun k => f k - g k) n = sm f n - sm g n
  | 0 => rfl
  | n + 1 => by simp only [sm]; rw [sm_sub f g n]; omega
theorem sm_le {f : Nat → Int} {B : Nat} : ∀ {n : Nat}, (∀ k, k < n → (f k).natAbs ≤ B) → (sm f n).natAbs ≤ n * B
  | 0, _ => by show (0 : Int).natAbs ≤ _; omega
  | n + 1, h => by
    have h1 := sm_le (n := n) fun k hk => h k (by omega)
    have h2 := h n (by omega)
    have h3 := Int.natAbs_add_le (sm f n) (f n)
    show (sm f n + f n).natAbs ≤ _
    rw [Nat.add_mul]
    omega
theorem sm_zero {f : Nat → Int} {n : Nat} (h : ∀ k, k < n → f k = 0) : sm f n = 0 := by
  have := sm_le (f := f) (B := 0) (n := n) fun k hk => by rw [h k hk]; decide
  omega
theorem sm_congr {f g : Nat → Int} : ∀ {n : Nat}, (∀ k, k < n → f k = g k) → sm f n = sm g n
  | 0, _ => rfl
  | n + 1, h => by simp only [sm]; rw [sm_congr fun k hk => h k (by omega), h n (by omega)]
/-- figures -/
def fig (Y : Nat) (f : Nat → Nat) : Nat → Nat
  | 0 => 0
  | n + 1 => f 0 + Y * fig Y (fun k => f (k + 1)) n
theorem fig_lt {Y : Nat} : ∀ {n : Nat} {f : Nat → Nat}, (∀ k, k < n → f k < Y) → fig Y f n < Y ^ n
  | 0, _, _ => by show 0 < 1; omega
  | n + 1, f, h => by
    have h0 := h 0 (by omega)
    have ih := fig_lt (n := n) (f := fun k => f (k + 1)) fun k hk => h (k + 1) (by omega)
    show f 0 + Y * _ < Y ^ n * Y
    have : Y * (fig Y (fun k => f (k + 1)) n + 1) ≤ Y * Y ^ n := Nat.mul_le_mul_left _ ih
    rw [Nat.mul_comm (Y ^ n) Y]
    rw [Nat.mul_add] at this
    omega
theorem fig_inj {Y : Nat} : ∀ {n : Nat} {f g : Nat → Nat}, (∀ k, k < n → f k < Y) → (∀ k, k < n → g k < Y) → fig Y f n = fig Y g n → ∀ k, k < n → f k = g k
  | 0, _, _, _, _, _, k, hk => by omega
  | n + 1, f, g, hf, hg, e, k, hk => by
    have e : f 0 + Y * fig Y (fun k => f (k + 1)) n = g 0 + Y * fig Y (fun k => g (k + 1)) n := e
    have f0 := hf 0 (by omega)
    have g0 := hg 0 (by omega)
    have m1 : (f 0 + Y * fig Y (fun k => f (k + 1)) n) % Y = f 0 := by rw [Nat.add_mul_mod_self_left, Nat.mod_eq_of_lt f0]
    have m2 : (g 0 + Y * fig Y (fun k => g (k + 1)) n) % Y = g 0 := by rw [Nat.add_mul_mod_self_left, Nat.mod_eq_of_lt g0]
    have e0 : f 0 = g 0 := by rw [← m1, e, m2]
    cases k with
    | zero => exact e0
    | succ k =>
      have e1 : Y * fig Y (fun k => f (k + 1)) n = Y * fig Y (fun k => g (k + 1)) n := by omega
      have e2 := Nat.eq_of_mul_eq_mul_left (by omega) e1
      exact fig_inj (fun k hk => hf (k + 1) (by omega)) (fun k hk => hg (k + 1) (by omega)) e2 k (by omega)
/-- the k-th figure of a number -/
def dig (Y c : Nat) (k : Nat) : Nat := c / Y ^ k % Y
theorem dig_fig {Y : Nat} (hY : 0 < Y) : ∀ (n c : Nat), c < Y ^ n → fig Y (dig Y c) n = c
  | 0, c, h => by have : c < 1 := h; show 0 = c; omega
  | n + 1, c, h => by
    have hd : c / Y < Y ^ n := Nat.div_lt_of_lt_mul (by rw [Nat.mul_comm]; exact h)
    have ih := dig_fig hY n (c / Y) hd
    show dig Y c 0 + Y * fig Y (fun k => dig Y c (k + 1)) n = c
    have e : (fun k => dig Y c (k + 1)) = dig Y (c / Y) := by
      funext k
      unfold dig
      rw [Nat.pow_succ, Nat.mul_comm, Nat.div_div_eq_div_mul]
    rw [e, ih]
    unfold dig
    rw [Nat.pow_zero, Nat.div_one]
    have := Nat.mod_add_div c Y
    omega
/-- fewer equations than numbers looked for: a small solution that isn't nought -/
theorem siegel (K M H : Nat) (hM : M < K) (A : Nat → Nat → Int) (hA : ∀ i k, i < M → k < K → (A i k).natAbs ≤ H) :
    ∃ x : Nat → Int, (∃ k, k < K ∧ x k ≠ 0) ∧ (∀ k, k < K → (x k).natAbs ≤ (2 * K * H + 1) ^ M) ∧ ∀ i, i < M → sm (fun k => A i k * x k) K = 0 := by
  generalize hW : (2 * K * H + 1) ^ M = W
  have hW0 : 0 < W := by rw [← hW]; exact Nat.pow_pos (by omega)
  obtain ⟨V, hV⟩ : ∃ V, V = K * (H * W) := ⟨_, rfl⟩
  have hVW : 2 * V + 1 ≤ (2 * K * H + 1) * (W + 1) := by
    rw [hV, Nat.add_mul, Nat.mul_add, show 2 * (K * (H * W)) = 2 * K * H * W by simp only [Nat.mul_assoc]]
    omega
  have hYM : (2 * V + 1) ^ M < (W + 1) ^ K := by
    have h1 : (2 * V + 1) ^ M ≤ ((2 * K * H + 1) * (W + 1)) ^ M := Nat.pow_le_pow_left hVW M
    rw [Nat.mul_pow, hW] at h1
    have h2 : W * (W + 1) ^ M < (W + 1) ^ (M + 1) := by
      rw [Nat.pow_succ, Nat.mul_comm ((W + 1) ^ M)]
      exact Nat.mul_lt_mul_of_pos_right (by omega) (Nat.pow_pos (by omega))
    have h3 : (W + 1) ^ (M + 1) ≤ (W + 1) ^ K := Nat.pow_le_pow_right (by omega) hM
    omega
  let y : Nat → Nat → Int := fun c i => sm (fun k => A i k * (dig (W + 1) c k : Int)) K
  have hd : ∀ c k, dig (W + 1) c k < W + 1 := fun c k => Nat.mod_lt _ (by omega)
  have hy : ∀ c i, i < M → (y c i).natAbs ≤ V := fun c i hi => by
    rw [hV]
    refine sm_le fun k hk => ?_
    rw [Int.natAbs_mul]
    exact Nat.mul_le_mul (hA i k hi hk) (by have := hd c k; simp; omega)
  let z : Nat → Nat → Nat := fun c i => (y c i + V).toNat
  have hz : ∀ c i, i < M → z c i < 2 * V + 1 := fun c i hi => by
    have := hy c i hi
    show (y c i + V).toNat < _
    omega
  obtain ⟨c, d, hcd, hdW, e⟩ := pigeon ((W + 1) ^ K) ((2 * V + 1) ^ M) (fun c => fig (2 * V + 1) (z c) M) hYM fun c _ => fig_lt (hz c)
  have ez := fig_inj (hz c) (hz d) e
  refine ⟨fun k => (dig (W + 1) c k : Int) - dig (W + 1) d k, ?_, ?_, ?_⟩
  · refine Classical.byContradiction fun q => ?_
    have q' : ∀ k, k < K → dig (W + 1) c k = dig (W + 1) d k := fun k hk => by
      refine Classical.byContradiction fun r => q ⟨k, hk, ?_⟩
      show (dig (W + 1) c k : Int) - dig (W + 1) d k ≠ 0
      omega
    have e1 := dig_fig (show 0 < W + 1 by omega) K c (by omega)
    have e2 := dig_fig (show 0 < W + 1 by omega) K d hdW
    have e3 : ∀ (n : Nat) (f g : Nat → Nat), (∀ k, k < n → f k = g k) → fig (W + 1) f n = fig (W + 1) g n := fun n => by
      induction n with
      | zero => intro f g _; rfl
      | succ n ih =>
        intro f g h
        show f 0 + (W + 1) * fig (W + 1) (fun k => f (k + 1)) n = g 0 + (W + 1) * fig (W + 1) (fun k => g (k + 1)) n
        rw [h 0 (by omega), ih _ _ fun k hk => h (k + 1) (by omega)]
    rw [e3 K _ _ q', e2] at e1
    omega
  · intro k hk
    have h1 := hd c k
    have h2 := hd d k
    show ((dig (W + 1) c k : Int) - dig (W + 1) d k).natAbs ≤ W
    omega
  · intro i hi
    have e1 := ez i hi
    have h1 := hy c i hi
    have h2 := hy d i hi
    have e2 : y c i = y d i := by
      have e1 : (y c i + V).toNat = (y d i + V).toNat := e1
      omega
    have e3 : (fun k => A i k * ((dig (W + 1) c k : Int) - dig (W + 1) d k)) = fun k => A i k * (dig (W + 1) c k : Int) - A i k * (dig (W + 1) d k : Int) := by
      funext k
      rw [Int.mul_sub]
    rw [e3, sm_sub]
    show y c i - y d i = 0
    omega
end AW

/-! AwEu: numbers over one number below; rests of rests and how great they get; common divisors. -/
namespace AW
open PS
/-- over one number all numbers are whole, and all have few bits -/
def Hb (b : Nat) (s : PS) : Prop := ∃ k : Int, k ≠ 0 ∧ k.natAbs ≤ 2 ^ b ∧ ∀ i, ∃ z : Int, (k : Rat) * s.f i = z ∧ z.natAbs ≤ 2 ^ b
theorem Hb.mono {a b : Nat} {s : PS} (h : Hb a s) (l : a ≤ b) : Hb b s := by
  obtain ⟨k, h1, h2, h3⟩ := h
  have e := Nat.pow_le_pow_right (show 0 < 2 by decide) l
  exact ⟨k, h1, Nat.le_trans h2 e, fun i => by obtain ⟨z, h4, h5⟩ := h3 i; exact ⟨z, h4, Nat.le_trans h5 e⟩⟩
theorem Hb.zero (b : Nat) : Hb b 0 := ⟨1, by decide, Nat.one_le_two_pow, fun i => ⟨0, by rw [zero_f, Rat.mul_zero]; rfl, Nat.zero_le _⟩⟩
theorem natAbs_mul_le {x y : Int} {a b : Nat} (h1 : x.natAbs ≤ 2 ^ a) (h2 : y.natAbs ≤ 2 ^ b) : (x * y).natAbs ≤ 2 ^ (a + b) := by
  rw [Int.natAbs_mul, Nat.pow_add]
  exact Nat.mul_le_mul h1 h2
theorem Hb.add {a b : Nat} {s u : PS} (h : Hb a s) (l : Hb b u) : Hb (a + b + 1) (s + u) := by
  obtain ⟨k, h1, h2, h3⟩ := h
  obtain ⟨m, l1, l2, l3⟩ := l
  refine ⟨k * m, Int.mul_ne_zero h1 l1, Nat.le_trans (natAbs_mul_le h2 l2) (Nat.pow_le_pow_right (by decide) (by omega)), fun i => ?_⟩
  obtain ⟨z, h4, h5⟩ := h3 i
  obtain ⟨w, l4, l5⟩ := l3 i
  refine ⟨z * m + w * k, ?_, ?_⟩
  · rw [add_f]
    grind
  · have e1 := natAbs_mul_le h5 l2
    have e2 := natAbs_mul_le l5 h2
    rw [Nat.add_comm b a] at e2
    have := Int.natAbs_add_le (z * m) (w * k)
    rw [Nat.pow_succ]
    omega
theorem Hb.smul {a b : Nat} {s : PS} {c : Rat} (hc : c.num.natAbs ≤ 2 ^ a ∧ c.den ≤ 2 ^ a) (h : Hb b s) : Hb (a + b) (PS.C c * s) := by
  obtain ⟨k, h1, h2, h3⟩ := h
  have hd := c.den_nz
  refine ⟨c.den * k, Int.mul_ne_zero (by omega) h1, natAbs_mul_le (by simpa using hc.2) h2, fun i => ?_⟩
  obtain ⟨z, h4, h5⟩ := h3 i
  refine ⟨c.num * z, ?_, natAbs_mul_le hc.1 h5⟩
  rw [C_mul]
  have e : (c.den : Rat) * c = c.num := by
    have := Rat.num_divInt_den c
    rw [Rat.divInt_eq_div] at this
    have hd' : ((c.den : Int) : Rat) ≠ 0 := fun z => hd (by have := Rat.intCast_eq_zero_iff.mp z; omega)
    have e3 : ((c.den : Int) : Rat) = (c.den : Rat) := rfl
    rw [e3] at this hd'
    rw [← this]
    grind
  have e2 : ((((c.den : Int) * k : Int) : Rat)) = (c.den : Rat) * (k : Rat) := by
    rw [Rat.intCast_mul]
    rfl
  rw [e2, Rat.intCast_mul, ← h4, ← e]
  grind
theorem Hb.neg {b : Nat} {s : PS} (h : Hb b s) : Hb b (-s) := by
  obtain ⟨k, h1, h2, h3⟩ := h
  refine ⟨k, h1, h2, fun i => ?_⟩
  obtain ⟨z, h4, h5⟩ := h3 i
  exact ⟨-z, by rw [neg_f]; grind, by omega⟩
theorem Hb.sub {a b : Nat} {s u : PS} (h : Hb a s) (l : Hb b u) : Hb (a + b + 1) (s - u) := by
  rw [show s - u = s + -u by grind]
  exact h.add l.neg
theorem Hb.X_mul {b : Nat} {s : PS} (h : Hb b s) : Hb b (X * s) := by
  obtain ⟨k, h1, h2, h3⟩ := h
  refine ⟨k, h1, h2, fun i => ?_⟩
  rw [PS.X_mul]
  cases i with
  | zero => exact ⟨0, by show (k : Rat) * 0 = 0; grind, Nat.zero_le _⟩
  | succ i => exact h3 i
theorem Hb.Xpow {b : Nat} {s : PS} (h : Hb b s) : ∀ n : Nat, Hb b (X ^ n * s)
  | 0 => by rw [show (X ^ 0 : PS) * s = s by grind]; exact h
  | n + 1 => by
    rw [show (X ^ (n + 1) : PS) * s = X * (X ^ n * s) by grind]
    exact (h.Xpow n).X_mul
theorem mul_whole {H L : Nat} {b : PS} {m : Int} (hb : ∀ i, ∃ z : Int, (m : Rat) * b.f i = z ∧ z.natAbs ≤ L) {k : Int} :
    ∀ {n : Nat} {a : PS}, Lt a n → (∀ i, ∃ z : Int, (k : Rat) * a.f i = z ∧ z.natAbs ≤ H) → ∀ i, ∃ z : Int, ((k * m : Int) : Rat) * (a * b).f i = z ∧ z.natAbs ≤ n * (H * L)
  | 0, a, h, _, i => ⟨0, by rw [h.nil, show (0 : PS) * b = 0 by grind, zero_f, Rat.mul_zero]; rfl, Nat.zero_le _⟩
  | n + 1, a, h, ha, i => by
    have e := sh_eq a
    have e2 : a * b = PS.C (a.f 0) * b + X * (sh a * b) := by
      conv => lhs; rw [e]
      grind
    obtain ⟨z0, z1, z2⟩ := ha 0
    obtain ⟨w0, w1, w2⟩ := hb i
    have q0 : (z0 * w0).natAbs ≤ H * L := by rw [Int.natAbs_mul]; exact Nat.mul_le_mul z2 w2
    rw [e2, add_f, C_mul, PS.X_mul]
    cases i with
    | zero =>
      refine ⟨z0 * w0, ?_, ?_⟩
      · show _ * (a.f 0 * b.f 0 + 0) = _
        rw [Rat.intCast_mul, Rat.intCast_mul, ← z1, ← w1]
        grind
      · rw [Nat.add_mul]
        omega
    | succ i =>
      obtain ⟨v0, v1, v2⟩ := mul_whole hb (k := k) h.sh (fun i => ha (i + 1)) i
      refine ⟨z0 * w0 + v0, ?_, ?_⟩
      · show _ * (a.f 0 * b.f (i + 1) + (sh a * b).f i) = _
        rw [Rat.intCast_add, ← v1, Rat.intCast_mul, Rat.intCast_mul, ← z1, ← w1]
        grind
      · have := Int.natAbs_add_le (z0 * w0) v0
        rw [Nat.add_mul]
        omega
theorem Hb.mul {a b l n : Nat} {s u : PS} (h : Hb a s) (k : Hb b u) (hs : Lt s n) (hl : n ≤ 2 ^ l) : Hb (a + b + l) (s * u) := by
  obtain ⟨x, h1, h2, h3⟩ := h
  obtain ⟨y, k1, k2, k3⟩ := k
  refine ⟨x * y, Int.mul_ne_zero h1 k1, Nat.le_trans (natAbs_mul_le h2 k2) (Nat.pow_le_pow_right (by decide) (by omega)), fun i => ?_⟩
  obtain ⟨z, e1, e2⟩ := mul_whole k3 hs h3 i
  refine ⟨z, e1, Nat.le_trans e2 ?_⟩
  rw [Nat.pow_add, Nat.pow_add, Nat.mul_comm]
  exact Nat.mul_le_mul (Nat.le_refl _) hl
theorem int_ne {k : Int} (h : k ≠ 0) : (k : Rat) ≠ 0 := fun e => h (Rat.intCast_eq_zero_iff.mp e)
/-- made monic it has the same bits -/
theorem Hb.mon {b n : Nat} {s : PS} (h : Hb b s) (d : Dg s n) : Hb b (PS.C (s.f n)⁻¹ * s) := by
  obtain ⟨k, h1, h2, h3⟩ := h
  obtain ⟨z, e1, e2⟩ := h3 n
  have hk := int_ne h1
  have hn := d.2
  refine ⟨z, fun e => ?_, e2, fun i => ?_⟩
  · rw [e] at e1
    have : (k : Rat) * s.f n = 0 := e1
    grind
  · obtain ⟨w, l1, l2⟩ := h3 i
    refine ⟨w, ?_, l2⟩
    rw [C_mul, ← e1, ← l1]
    grind
/-! ### small numbers for a combination of low degree -/
def psum (x : Nat → Int) : Nat → PS
  | 0 => 0
  | n + 1 => psum x n + PS.C (x n) * X ^ n
theorem psum_lt (x : Nat → Int) : ∀ n, Lt (psum x n) n
  | 0 => Lt.zero 0
  | n + 1 => ((psum_lt x n).mono (by omega)).add ((Xpow_lt n).smul _)
theorem psum_f (x : Nat → Int) : ∀ n k, k < n → (psum x n).f k = x k
  | n + 1, k, h => by
    show (psum x n + PS.C (x n) * X ^ n).f k = _
    rw [add_f, C_mul, Xpow_f]
    rcases Nat.eq_or_lt_of_le (show k ≤ n by omega) with e | e
    · subst e; rw [psum_lt x k k (by omega), if_pos rfl]; grind
    · rw [psum_f x n k e, if_neg (by omega)]; grind
theorem Xpow_mul : ∀ (n : Nat) (s : PS) (t : Nat), (X ^ n * s).f t = if n ≤ t then s.f (t - n) else 0
  | 0, s, t => by rw [show (X ^ 0 : PS) * s = s by grind, if_pos (by omega)]; rfl
  | n + 1, s, t => by
    rw [show (X ^ (n + 1) : PS) * s = X * (X ^ n * s) by grind, PS.X_mul]
    cases t with
    | zero => show (0 : Rat) = _; rw [if_neg (by omega)]
    | succ t =>
      show (X ^ n * s).f t = _
      rw [Xpow_mul n s t, show t + 1 - (n + 1) = t - n by omega]
      by_cases h : n ≤ t
      · rw [if_pos h, if_pos (by omega)]
      · rw [if_neg h, if_neg (by omega)]
theorem psum_mul {P : Nat → Int} {s : PS} (hs : ∀ i, s.f i = P i) (x : Nat → Int) (t : Nat) : ∀ n, (psum x n * s).f t = ((sm (fun k => (if k ≤ t then P (t - k) else 0) * x k) n : Int) : Rat)
  | 0 => by show ((0 : PS) * s).f t = _; rw [show (0 : PS) * s = 0 by grind, zero_f]; rfl
  | n + 1 => by
    show ((psum x n + PS.C (x n) * X ^ n) * s).f t = ((sm _ n + (if n ≤ t then P (t - n) else 0) * x n : Int) : Rat)
    rw [show (psum x n + PS.C (x n) * X ^ n) * s = psum x n * s + PS.C (x n) * (X ^ n * s) by grind, add_f, psum_mul hs x t n, C_mul, Xpow_mul, Rat.intCast_add, Rat.intCast_mul]
    by_cases h : n ≤ t
    · rw [if_pos h, if_pos h, hs]; grind
    · rw [if_neg h, if_neg h]; grind
theorem sm_two {f g : Nat → Int} {m : Nat} : ∀ n, sm (fun k => if k < m then f k else g (k - m)) (m + n) = sm f m + sm g n
  | 0 => by
    show sm _ m = sm f m + 0
    rw [Int.add_zero]
    exact sm_congr fun k hk => by rw [if_pos hk]
  | n + 1 => by
    show sm _ (m + n) + (if m + n < m then f (m + n) else g (m + n - m)) = sm f m + (sm g n + g n)
    rw [sm_two n, if_neg (by omega), show m + n - m = n by omega]
    omega
/-- the monic combination of degree j of p and q, the factors being of low degrees, has few bits -/
theorem rest_ht {p q b ub vb ua va : PS} {m n j ja h l : Nat} {d : Rat} (hp : Hb h p) (hq : Hb h q) (dp : Dg p m) (dq : Dg q n) (hb : Mn b j)
    (jm : ja ≤ m) (jn : ja ≤ n) (jj : j < ja) (lu : Lt ub (n - ja + 1)) (lv : Lt vb (m - ja + 1)) (pu : Pl ua) (pv : Pl va)
    (e : b = ub * p + vb * q) (hd : d ≠ 0) (ed : ua * vb - ub * va = PS.C d) (hl : 2 * (m + n) + 1 ≤ 2 ^ l) : Hb ((m + n) * (h + l)) b := by
  obtain ⟨kp, p1, p2, p3⟩ := hp
  obtain ⟨kq, q1, q2, q3⟩ := hq
  obtain ⟨P, hP⟩ := Classical.axiomOfChoice p3
  obtain ⟨Q, hQ⟩ := Classical.axiomOfChoice q3
  obtain ⟨K, hK⟩ : ∃ K, K = (n - j) + (m - j) := ⟨_, rfl⟩
  let s1 : PS := ⟨fun i => (P i : Rat)⟩
  let s2 : PS := ⟨fun i => (Q i : Rat)⟩
  have es1 : s1 = PS.C kp * p := by ext i; rw [C_mul]; exact (hP i).1.symm
  have es2 : s2 = PS.C kq * q := by ext i; rw [C_mul]; exact (hQ i).1.symm
  let A : Nat → Nat → Int := fun t k => if k < n - j then (if k ≤ t then P (t - k) else 0) else (if k - (n - j) ≤ t then Q (t - (k - (n - j))) else 0)
  have hA : ∀ t k, (A t k).natAbs ≤ 2 ^ h := fun t k => by
    show (if k < n - j then (if k ≤ t then P (t - k) else 0) else (if k - (n - j) ≤ t then Q (t - (k - (n - j))) else 0) : Int).natAbs ≤ _
    split
    · split
      · exact (hP _).2
      · exact Nat.zero_le _
    · split
      · exact (hQ _).2
      · exact Nat.zero_le _
  obtain ⟨x, ⟨k0, k1, k2⟩, x1, x2⟩ := siegel K (K - 1) (2 ^ h) (by omega) (fun i k => A (j + 1 + i) k) fun i k _ _ => hA _ _
  let y : Nat → Int := fun k => x (n - j + k)
  let u : PS := psum x (n - j) * PS.C kp
  let v : PS := psum y (m - j) * PS.C kq
  have wf : ∀ t, (u * p + v * q).f t = ((sm (fun k => A t k * x k) K : Int) : Rat) := fun t => by
    have e1 : u * p + v * q = psum x (n - j) * s1 + psum y (m - j) * s2 := by
      rw [es1, es2]
      show psum x (n - j) * PS.C kp * p + psum y (m - j) * PS.C kq * q = _
      grind
    rw [e1, add_f, psum_mul (P := P) (fun i => rfl), psum_mul (P := Q) (fun i => rfl), ← Rat.intCast_add]
    congr 1
    rw [hK, ← sm_two]
    refine sm_congr fun k hk => ?_
    show _ = (if k < n - j then (if k ≤ t then P (t - k) else 0) else (if k - (n - j) ≤ t then Q (t - (k - (n - j))) else 0) : Int) * x k
    by_cases z : k < n - j
    · rw [if_pos z, if_pos z]
    · rw [if_neg z, if_neg z]
      show _ * x (n - j + (k - (n - j))) = _
      rw [show n - j + (k - (n - j)) = k by omega]
  have ku := int_ne p1
  have kv := int_ne q1
  have hu : Lt u (n - j) := fun t ht => by
    show (psum x (n - j) * PS.C kp).f t = 0
    rw [PS.mulc, C_mul, psum_lt x (n - j) t ht]
    grind
  have hv : Lt v (m - j) := fun t ht => by
    show (psum y (m - j) * PS.C kq).f t = 0
    rw [PS.mulc, C_mul, psum_lt y (m - j) t ht]
    grind
  have hw : Lt (u * p + v * q) (j + 1) := fun t ht => by
    rcases Nat.lt_or_ge t (m + n - j) with z | z
    · rw [wf t]
      have := x2 (t - j - 1) (by omega)
      simp only [show j + 1 + (t - j - 1) = t by omega] at this
      rw [this]
      rfl
    · exact Lt.add (hu.mul' dp.1 (by omega)) (hv.mul' dq.1 (by omega)) t z
  -- it is a multiple of b
  have c1 : v * ub - u * vb = 0 := by
    refine Classical.byContradiction fun z => ?_
    obtain ⟨k, hk⟩ := (show Pl (v * ub - u * vb) from ⟨_, (hv.mul' lu (k := m + n) (by omega)).sub (hu.mul' lv (by omega))⟩).dg z
    have t1 := dq.mul hk
    have t2 : q * (v * ub - u * vb) = (u * p + v * q) * ub - u * b := by rw [e]; grind
    rw [t2] at t1
    have := t1.lt (Lt.sub (hw.mul' lu (k := n) (by omega)) (hu.mul' hb.1 (by omega)))
    omega
  have c2 : (u * p + v * q) * ub = u * b := by rw [e]; grind
  have c3 : (u * p + v * q) * vb = v * b := by rw [e]; grind
  have c4 : PS.C d * (u * p + v * q) = (ua * v - va * u) * b := by rw [← ed]; grind
  generalize hW : u * p + v * q = w at *
  have wne : w ≠ 0 := fun z => by
    have bn := hb.dg.ne
    have u0 : u = 0 := Classical.byContradiction fun q => Pl.mul_ne ⟨_, hu⟩ hb.dg.pl q bn (by rw [← c2, z]; grind)
    have v0 : v = 0 := Classical.byContradiction fun q => Pl.mul_ne ⟨_, hv⟩ hb.dg.pl q bn (by rw [← c3, z]; grind)
    rcases Nat.lt_or_ge k0 (n - j) with r | r
    · have : u.f k0 = x k0 * kp := by
        show (psum x (n - j) * PS.C kp).f k0 = _
        rw [PS.mulc, C_mul, psum_f x _ _ r]
        grind
      rw [u0, zero_f] at this
      have := int_ne k2
      grind
    · have : v.f (k0 - (n - j)) = x k0 * kq := by
        show (psum y (m - j) * PS.C kq).f _ = _
        rw [PS.mulc, C_mul, psum_f y _ _ (by omega)]
        show _ * (x (n - j + (k0 - (n - j))) : Rat) = _
        rw [show n - j + (k0 - (n - j)) = k0 by omega]
        grind
      rw [v0, zero_f] at this
      have := int_ne k2
      grind
  have pw : Pl (ua * v - va * u) := (pu.mul ⟨_, hv⟩).sub (pv.mul ⟨_, hu⟩)
  have c5 : ∃ β : Rat, w = PS.C β * b := by
    have gn : ua * v - va * u ≠ 0 := fun z => by
      rw [z] at c4
      exact Pl.mul_ne (Pl.C d) ⟨_, hw⟩ (Dg.C hd).ne wne (by rw [c4]; grind)
    obtain ⟨k, hk⟩ := pw.dg gn
    have t := hk.mul hb.dg
    rw [← c4] at t
    have := t.lt (hw.smul d)
    have hk0 : k = 0 := by omega
    subst hk0
    have cc := Dg.const hk.1
    generalize (ua * v - va * u).f 0 = g at cc
    refine ⟨d⁻¹ * g, ?_⟩
    rw [cc] at c4
    have : PS.C d⁻¹ * (PS.C d * w) = PS.C d⁻¹ * (PS.C g * b) := by rw [c4]
    have e1 : PS.C d⁻¹ * PS.C d = 1 := by rw [← PS.C_mulC, show d⁻¹ * d = 1 by grind, C_one]
    rw [PS.C_mulC]
    grind
  obtain ⟨β, hβ⟩ := c5
  have hβj : w.f j = β := by rw [hβ, C_mul, hb.2]; grind
  have bnd : ∀ t, (sm (fun k => A t k * x k) K).natAbs ≤ 2 ^ ((m + n) * (h + l)) := fun t => by
    have e1 : (sm (fun k => A t k * x k) K).natAbs ≤ K * (2 ^ h * (2 * K * 2 ^ h + 1) ^ (K - 1)) := sm_le fun k hk => by
      rw [Int.natAbs_mul]
      exact Nat.mul_le_mul (hA t k) (x1 k hk)
    have e2 : 2 * K * 2 ^ h + 1 ≤ 2 ^ (h + l) := by
      rw [Nat.pow_add, Nat.mul_comm (2 ^ h)]
      have h0 : 1 ≤ 2 ^ h := Nat.one_le_two_pow
      have : (2 * K + 1) * 2 ^ h ≤ 2 ^ l * 2 ^ h := Nat.mul_le_mul_right _ (by omega)
      rw [Nat.add_mul] at this
      omega
    have e3 : (2 * K * 2 ^ h + 1) ^ (K - 1) ≤ 2 ^ ((h + l) * (K - 1)) := by
      rw [Nat.pow_mul]
      exact Nat.pow_le_pow_left e2 _
    have e4 : K * 2 ^ h ≤ 2 ^ (h + l) := by
      have : K * 2 ^ h ≤ 2 * K * 2 ^ h := Nat.mul_le_mul_right _ (by omega)
      omega
    refine Nat.le_trans e1 ?_
    rw [← Nat.mul_assoc]
    refine Nat.le_trans (Nat.mul_le_mul e4 e3) ?_
    rw [← Nat.pow_add]
    refine Nat.pow_le_pow_right (by decide) ?_
    have : (h + l) + (h + l) * (K - 1) = (h + l) * K := by
      rw [show K = K - 1 + 1 by omega, Nat.mul_add]
      simp
      omega
    rw [this, Nat.mul_comm]
    exact Nat.mul_le_mul_right _ (by omega)
  refine ⟨sm (fun k => A j k * x k) K, fun z => ?_, bnd j, fun i => ⟨sm (fun k => A i k * x k) K, ?_, bnd i⟩⟩
  · have := wf j
    rw [z] at this
    have b0 : β = 0 := by rw [← hβj, this]; rfl
    rw [b0, C_zero] at hβ
    exact wne (by rw [hβ]; grind)
  · rw [← wf i, ← wf j, hβj, hβ, C_mul]
end AW

/-! AwGcd: the rests' walk, the monic common divisor. -/
namespace AW
open PS
/-- a and b are two rests side by side of p (degree m) and q (degree n); a has degree ja -/
def EuI (p q : PS) (m n : Nat) (a b : PS) (ja : Nat) : Prop := Dg a ja ∧ Lt b ja ∧ ja ≤ m ∧ ja ≤ n ∧ ∃ ua va ub vb : PS, ∃ d : Rat,
  a = ua * p + va * q ∧ b = ub * p + vb * q ∧ Lt ua (n - ja + 1) ∧ Lt va (m - ja + 1) ∧ Lt ub (n - ja + 1) ∧ Lt vb (m - ja + 1) ∧ d ≠ 0 ∧ ua * vb - ub * va = PS.C d
theorem EuI.start {p q s r : PS} {m n : Nat} {c : Rat} (hp : Lt p (m + 1)) (hq : Dg q n) (l : n ≤ m) (e : p = s * q + r) (hr : Lt r n) (hs : Lt s (m + 1 - n)) (hc : c ≠ 0) : EuI p q m n q (PS.C c * r) n :=
  ⟨hq, hr.smul c, l, Nat.le_refl _, 0, 1, PS.C c, -(PS.C c * s), -c, by grind, by rw [e]; grind, Lt.zero _, Lt.one.mono (by omega), (Lt.C c).mono (by omega),
    (hs.smul c).neg.mono (by omega), by grind, by rw [C_neg]; grind⟩
theorem EuI.step {p q a b s r : PS} {m n ja jb : Nat} {c : Rat} (h : EuI p q m n a b ja) (hb : Dg b jb) (e : a = s * b + r) (hr : Lt r jb) (hs : Lt s (ja + 1 - jb)) (hc : c ≠ 0) : EuI p q m n b (PS.C c * r) jb := by
  obtain ⟨h1, h2, h3, h4, ua, va, ub, vb, d, e1, e2, l1, l2, l3, l4, hd, ed⟩ := h
  have lt := hb.lt h2
  refine ⟨hb, hr.smul c, by omega, by omega, ub, vb, PS.C c * (ua - s * ub), PS.C c * (va - s * vb), -(c * d), e2, ?_, l3.mono (by omega), l4.mono (by omega), ?_, ?_, by grind, ?_⟩
  · have : r = a - s * b := by grind
    rw [this, e1, e2]
    grind
  · exact (Lt.sub (l1.mono (by omega)) (hs.mul' l3 (by omega))).smul c
  · exact (Lt.sub (l2.mono (by omega)) (hs.mul' l4 (by omega))).smul c
  · rw [C_neg, C_mulC, ← ed]
    grind
theorem EuI.ht {p q a b : PS} {m n ja j h l : Nat} (k : EuI p q m n a b ja) (hp : Hb h p) (hq : Hb h q) (dp : Dg p m) (dq : Dg q n) (hb : Mn b j) (hl : 2 * (m + n) + 1 ≤ 2 ^ l) : Hb ((m + n) * (h + l)) b := by
  obtain ⟨h1, h2, h3, h4, ua, va, ub, vb, d, e1, e2, l1, l2, l3, l4, hd, ed⟩ := k
  exact rest_ht hp hq dp dq hb h3 h4 (hb.dg.lt h2) l3 l4 ⟨_, l1⟩ ⟨_, l2⟩ e2 hd ed hl
/-- g is the monic common divisor of p and q -/
def IsG (p q g : PS) : Prop := Pl p ∧ Pl q ∧ ((g = 0 ∧ p = 0 ∧ q = 0) ∨ ∃ n, Mn g n ∧ Dv g p ∧ Dv g q ∧ ∃ u v, Pl u ∧ Pl v ∧ g = u * p + v * q)
theorem IsG.symm {p q g : PS} (h : IsG p q g) : IsG q p g := by
  obtain ⟨a, b, h⟩ := h
  refine ⟨b, a, ?_⟩
  rcases h with ⟨h1, h2, h3⟩ | ⟨n, h1, h2, h3, u, v, h4, h5, h6⟩
  · exact .inl ⟨h1, h3, h2⟩
  · exact .inr ⟨n, h1, h3, h2, v, u, h5, h4, by grind⟩
theorem IsG.pl {p q g : PS} (h : IsG p q g) : Pl g := by
  obtain ⟨a, b, ⟨rfl, _⟩ | ⟨n, h1, _⟩⟩ := h
  · exact Pl.zero
  · exact h1.dg.pl
theorem IsG.dvl {p q g : PS} (h : IsG p q g) : Dv g p := by
  obtain ⟨a, b, ⟨rfl, rfl, _⟩ | ⟨n, _, h1, _⟩⟩ := h
  · exact Dv.zero _
  · exact h1
theorem IsG.dvr {p q g : PS} (h : IsG p q g) : Dv g q := h.symm.dvl
theorem IsG.comb {p q g : PS} (h : IsG p q g) : ∃ u v, Pl u ∧ Pl v ∧ g = u * p + v * q := by
  obtain ⟨a, b, ⟨rfl, rfl, rfl⟩ | ⟨n, _, _, _, h1⟩⟩ := h
  · exact ⟨0, 0, Pl.zero, Pl.zero, by grind⟩
  · exact h1
theorem IsG.gt {p q g d : PS} (h : IsG p q g) (h1 : Dv d p) (h2 : Dv d q) : Dv d g := by
  obtain ⟨u, v, h3, h4, e⟩ := h.comb
  rw [e]
  exact (h1.mul u h3).add (h2.mul v h4)
theorem Dv.of_zero {a : PS} (h : Dv 0 a) : a = 0 := by obtain ⟨s, _, e⟩ := h; rw [e]; grind
theorem IsG.uniq {p q g g' : PS} (h : IsG p q g) (h' : IsG p q g') : g = g' := by
  have d1 := h'.gt h.dvl h.dvr
  have d2 := h.gt h'.dvl h'.dvr
  have k := h
  have k' := h'
  obtain ⟨a, b, ⟨rfl, _, _⟩ | ⟨n, m1, _⟩⟩ := k
  · exact (Dv.of_zero d1).symm
  · obtain ⟨a, b, ⟨rfl, _, _⟩ | ⟨n', m2, _⟩⟩ := k'
    · exact Dv.of_zero d2
    · exact m1.eq m2 d1 d2
/-- by what it divides and what is made of it -/
theorem IsG.of {p q g : PS} {n : Nat} (hp : Pl p) (hq : Pl q) (hg : Mn g n) (h1 : Dv g p) (h2 : Dv g q) {u v : PS} (hu : Pl u) (hv : Pl v) (e : g = u * p + v * q) : IsG p q g := ⟨hp, hq, .inr ⟨n, hg, h1, h2, u, v, hu, hv, e⟩⟩
theorem C_cancel {c : Rat} (h : c ≠ 0) : PS.C c⁻¹ * PS.C c = 1 := by rw [← PS.C_mulC, show c⁻¹ * c = 1 by grind, C_one]
/-- g divides p and q together just where it divides others that are made of them, and they of these -/
theorem IsG.conv {p q p' q' g : PS} (h : IsG p' q' g) (hp : Pl p) (hq : Pl q) (h1 : ∀ d, Dv d p' → Dv d q' → Dv d p ∧ Dv d q) (h2 : ∃ a b c d, Pl a ∧ Pl b ∧ Pl c ∧ Pl d ∧ p' = a * p + b * q ∧ q' = c * p + d * q) : IsG p q g := by
  obtain ⟨a, b, c, d, pa, pb, pc, pd, ep, eq⟩ := h2
  obtain ⟨w1, w2⟩ := h1 g h.dvl h.dvr
  obtain ⟨u, v, pu, pv, e⟩ := h.comb
  have e' : g = (u * a + v * c) * p + (u * b + v * d) * q := by rw [e, ep, eq]; grind
  refine ⟨hp, hq, ?_⟩
  rcases h.2.2 with ⟨rfl, _, _⟩ | ⟨n, m1, _⟩
  · exact .inl ⟨rfl, Dv.of_zero w1, Dv.of_zero w2⟩
  · exact .inr ⟨n, m1, w1, w2, _, _, (pu.mul pa).add (pv.mul pc), (pu.mul pb).add (pv.mul pd), e'⟩
theorem IsG.back {p q s r g : PS} {c : Rat} (h : IsG q (PS.C c * r) g) (hc : c ≠ 0) (ps : Pl s) (pr : Pl r) (e : p = s * q + r) : IsG p q g := by
  have z := C_cancel hc
  refine h.conv (by rw [e]; exact (ps.mul h.1).add pr) h.1 (fun d h1 h2 => ⟨?_, h1⟩) ⟨0, 1, PS.C c, -(PS.C c * s), Pl.zero, Pl.one, Pl.C c, ((Pl.C c).mul ps).neg, by grind, by rw [e]; grind⟩
  have h3 := h2.mul (PS.C c⁻¹) (Pl.C _)
  rw [show PS.C c⁻¹ * (PS.C c * r) = r by grind] at h3
  rw [e]
  exact (h1.mul s ps).add h3
/-- there is one -/
theorem IsG.ex : ∀ (n : Nat) {p q : PS}, Pl p → Lt q n → ∃ g, IsG p q g
  | 0, p, q, hp, hq => by
    have hq := hq.nil
    subst hq
    by_cases z : p = 0
    · subst z; exact ⟨0, Pl.zero, Pl.zero, .inl ⟨rfl, rfl, rfl⟩⟩
    · obtain ⟨m, hm⟩ := hp.dg z
      have c := C_cancel hm.2
      exact ⟨_, IsG.of hp Pl.zero hm.mon ⟨PS.C (p.f m), Pl.C _, by grind⟩ (Dv.zero _) (Pl.C (p.f m)⁻¹) Pl.zero (by grind)⟩
  | n + 1, p, q, hp, hq => by
    by_cases z : q = 0
    · subst z; exact IsG.ex n hp (Lt.zero _)
    · obtain ⟨j, hj⟩ := (show Pl q from ⟨_, hq⟩).dg z
      have := hj.lt hq
      obtain ⟨m, hm⟩ := hp
      obtain ⟨s, r, e, hr, hs⟩ := div_ex hj hm
      obtain ⟨g, hg⟩ := IsG.ex n (p := q) (q := r) hj.pl (hr.mono (by omega))
      refine ⟨g, IsG.back (c := 1) (r := r) (s := s) ?_ (by decide) ⟨_, hs⟩ ⟨_, hr⟩ e⟩
      rw [C_one, show (1 : PS) * r = r by grind]
      exact hg
open Classical in
noncomputable def gcd (p q : PS) : PS := if h : ∃ g, IsG p q g then h.choose else 0
theorem gcd_is {p q : PS} (hp : Pl p) (hq : Pl q) : IsG p q (gcd p q) := by
  obtain ⟨n, hn⟩ := hq
  have h : ∃ g, IsG p q g := IsG.ex n hp hn
  unfold gcd
  rw [dif_pos h]
  exact h.choose_spec
theorem gcd_eq {p q g : PS} (h : IsG p q g) : gcd p q = g := (gcd_is h.1 h.2.1).uniq h
theorem gcd_comm {p q : PS} (hp : Pl p) (hq : Pl q) : gcd p q = gcd q p := gcd_eq (gcd_is hq hp).symm
theorem gcd_pl {p q : PS} (hp : Pl p) (hq : Pl q) : Pl (gcd p q) := (gcd_is hp hq).pl
theorem gcd_mn {p q : PS} (hp : Pl p) (hq : Pl q) (h : p ≠ 0 ∨ q ≠ 0) : ∃ n, Mn (gcd p q) n := by
  obtain ⟨a, b, ⟨_, h1, h2⟩ | ⟨n, h1, _⟩⟩ := gcd_is hp hq
  · rcases h with h | h
    · exact absurd h1 h
    · exact absurd h2 h
  · exact ⟨n, h1⟩
/-! ### made monic -/
open Classical in
noncomputable def lc (s : PS) : Rat := if h : ∃ n, Dg s n then s.f h.choose else 0
theorem lc_eq {s : PS} {n : Nat} (h : Dg s n) : lc s = s.f n := by
  have z : ∃ n, Dg s n := ⟨n, h⟩
  unfold lc
  rw [dif_pos z, z.choose_spec.uniq h]
theorem lc_zero : lc 0 = 0 := by unfold lc; rw [dif_neg fun ⟨n, h⟩ => h.ne rfl]
theorem lc_ne {s : PS} (h : Pl s) (z : s ≠ 0) : lc s ≠ 0 := by
  obtain ⟨n, hn⟩ := h.dg z
  rw [lc_eq hn]
  exact hn.2
theorem lc_mul {a b : PS} (ha : Pl a) (hb : Pl b) : lc (a * b) = lc a * lc b := by
  by_cases za : a = 0
  · rw [za, show (0 : PS) * b = 0 by grind, lc_zero]; grind
  by_cases zb : b = 0
  · rw [zb, show a * (0 : PS) = 0 by grind, lc_zero]; grind
  obtain ⟨m, hm⟩ := ha.dg za
  obtain ⟨n, hn⟩ := hb.dg zb
  rw [lc_eq (hm.mul hn), lc_eq hm, lc_eq hn, top_mul hn.1 hm.1]
theorem Mn.lc {s : PS} {n : Nat} (h : Mn s n) : lc s = 1 := by rw [lc_eq h.dg, h.2]
theorem lc_C (c : Rat) : lc (PS.C c) = c := by
  by_cases h : c = 0
  · rw [h, C_zero, lc_zero]
  · rw [lc_eq (Dg.C h)]; rfl
noncomputable def mon (s : PS) : PS := PS.C (lc s)⁻¹ * s
theorem mon_zero : mon 0 = 0 := by unfold mon; grind
theorem mon_mn {s : PS} {n : Nat} (h : Dg s n) : Mn (mon s) n := by unfold mon; rw [lc_eq h]; exact h.mon
theorem mon_pl {s : PS} (h : Pl s) : Pl (mon s) := (Pl.C _).mul h
theorem mon_of {s : PS} {n : Nat} (h : Mn s n) : mon s = s := by
  unfold mon
  rw [h.lc, show (1 : Rat)⁻¹ = 1 by grind, C_one]
  grind
theorem mon_back {s : PS} (h : Pl s) : s = PS.C (lc s) * mon s := by
  by_cases z : s = 0
  · rw [z, mon_zero]; grind
  · have := C_cancel (lc_ne h z)
    unfold mon
    grind
theorem mon_ne {s : PS} (h : Pl s) (z : s ≠ 0) : mon s ≠ 0 := fun e => z (by rw [mon_back h, e]; grind)
theorem Hb.mon' {b : Nat} {s : PS} (h : Hb b s) (p : Pl s) : Hb b (AW.mon s) := by
  by_cases z : s = 0
  · rw [z, mon_zero]; exact Hb.zero b
  · obtain ⟨n, hn⟩ := p.dg z
    unfold AW.mon
    rw [lc_eq hn]
    exact h.mon hn
theorem mon_lt {s : PS} {n : Nat} (h : Lt s n) : Lt (mon s) n := h.smul _
theorem gcd_self {p : PS} (h : Pl p) : gcd p p = mon p := by
  by_cases z : p = 0
  · subst z; rw [mon_zero]; exact gcd_eq ⟨Pl.zero, Pl.zero, .inl ⟨rfl, rfl, rfl⟩⟩
  · obtain ⟨n, hn⟩ := h.dg z
    have e := mon_back h
    exact gcd_eq (IsG.of h h (mon_mn hn) ⟨_, Pl.C _, e⟩ ⟨_, Pl.C _, e⟩ (Pl.C (lc p)⁻¹) Pl.zero (by unfold mon; grind))
theorem gcd_zero {p : PS} (h : Pl p) : gcd p 0 = mon p := by
  by_cases z : p = 0
  · subst z; rw [mon_zero]; exact gcd_eq ⟨Pl.zero, Pl.zero, .inl ⟨rfl, rfl, rfl⟩⟩
  · obtain ⟨n, hn⟩ := h.dg z
    have e := mon_back h
    exact gcd_eq (IsG.of h Pl.zero (mon_mn hn) ⟨_, Pl.C _, e⟩ (Dv.zero _) (Pl.C (lc p)⁻¹) Pl.zero (by unfold mon; grind))
/-- one turn of the walk -/
theorem gcd_step {p q s r : PS} (ps : Pl s) (pr : Pl r) (pq : Pl q) (e : p = s * q + r) : gcd p q = gcd q (mon r) := by
  by_cases z : r = 0
  · subst z
    rw [mon_zero]
    have e' : p = s * q := by rw [e]; grind
    refine gcd_eq (IsG.conv (gcd_is pq Pl.zero) (by rw [e']; exact ps.mul pq) pq (fun d h1 h2 => ⟨?_, h1⟩) ⟨0, 1, 0, 0, Pl.zero, Pl.one, Pl.zero, Pl.zero, by grind, by grind⟩)
    rw [e']
    exact h1.mul s ps
  · exact gcd_eq (IsG.back (c := (lc r)⁻¹) (gcd_is pq (mon_pl pr)) (by have := lc_ne pr z; grind) ps pr e)
/-! ### the quotient and the rest -/
open Classical in
noncomputable def quo (a b : PS) : PS := if h : ∃ s r, Pl s ∧ a = s * b + r ∧ (∀ n, Dg b n → Lt r n) then h.choose else 0
noncomputable def rem (a b : PS) : PS := a - quo a b * b
theorem quo_rem {a b : PS} {m n : Nat} (hb : Dg b n) (ha : Lt a m) : a = quo a b * b + rem a b ∧ Lt (rem a b) n ∧ Lt (quo a b) (m - n) := by
  obtain ⟨s, r, e, hr, hs⟩ := div_ex hb ha
  have h : ∃ s r, Pl s ∧ a = s * b + r ∧ (∀ n, Dg b n → Lt r n) := ⟨s, r, ⟨_, hs⟩, e, fun k hk => by rw [← hb.uniq hk]; exact hr⟩
  obtain ⟨r', h1, h2, h3⟩ := h.choose_spec
  have eq : quo a b = h.choose := by unfold quo; rw [dif_pos h]
  have u := div_uniq hb ⟨_, hs⟩ h1 (e.symm.trans h2) hr (h3 n hb)
  have e1 : quo a b = s := by rw [eq]; exact u.1.symm
  have e2 : rem a b = r := by unfold rem; rw [e1, e]; grind
  exact ⟨by rw [e2, e1]; exact e, by rw [e2]; exact hr, by rw [e1]; exact hs⟩
theorem quo_eq {a b s r : PS} {n : Nat} (hb : Dg b n) (ps : Pl s) (hr : Lt r n) (e : a = s * b + r) : quo a b = s ∧ rem a b = r := by
  have pa : Pl a := by rw [e]; exact (ps.mul hb.pl).add ⟨_, hr⟩
  obtain ⟨m, hm⟩ := pa
  obtain ⟨h1, h2, h3⟩ := quo_rem hb hm
  obtain ⟨u1, u2⟩ := div_uniq hb ⟨_, h3⟩ ps (h1.symm.trans e) h2 hr
  exact ⟨u1, u2⟩
theorem quo_mul {a b : PS} (pb : Pl b) (zb : b ≠ 0) (pa : Pl a) : quo (a * b) b = a ∧ rem (a * b) b = 0 := by
  obtain ⟨n, hn⟩ := pb.dg zb
  exact quo_eq hn pa (Lt.zero _) (by grind)
theorem quo_dv {a b : PS} (pb : Pl b) (zb : b ≠ 0) (h : Dv b a) : a = quo a b * b ∧ rem a b = 0 ∧ Pl (quo a b) := by
  obtain ⟨s, ps, e⟩ := h
  obtain ⟨h1, h2⟩ := quo_mul pb zb ps
  rw [← e] at h1 h2
  exact ⟨by rw [h1]; exact e, h2, by rw [h1]; exact ps⟩
end AW

/-! AwPo: series that end as data. -/
namespace AW
open PySem PySem.Spec PyProof.Rows
/-! ### the row of a series that ends -/
theorem getD_range (f : Nat → Rat) (N n : Nat) : ((List.range N).map f).getD n 0 = if n < N then f n else 0 := by
  by_cases h : n < N
  · rw [if_pos h]; simp [h]
  · rw [if_neg h]; simp [h]
theorem ser_range {s : PS} {N : Nat} (h : Lt s N) : ser ((List.range N).map s.f) = s := by
  ext n
  rw [ser_f, getD_range]
  by_cases z : n < N
  · rw [if_pos z]
  · rw [if_neg z, h n (by omega)]
theorem lt_ser (p : List Rat) : Lt (ser p) p.length := fun k hk => by rw [ser_f]; simp [hk]
theorem pl_ser (p : List Rat) : Pl (ser p) := ⟨_, lt_ser p⟩
open Classical in
noncomputable def toL (s : PS) : List Rat := if h : Pl s then trim ((List.range h.choose).map s.f) else []
theorem ser_toL {s : PS} (h : Pl s) : ser (toL s) = s := by
  unfold toL
  rw [dif_pos h, ser_trim, ser_range h.choose_spec]
theorem trim_toL (s : PS) : trim (toL s) = toL s := by
  unfold toL
  split
  · rw [trim_trim]
  · rfl
theorem toL_ser (p : List Rat) : toL (ser p) = trim p := by
  rw [← trim_toL]
  exact trim_ext (ser_toL (pl_ser p))
theorem toL_inj {a b : PS} (ha : Pl a) (hb : Pl b) (h : toL a = toL b) : a = b := by rw [← ser_toL ha, h, ser_toL hb]
theorem toL_zero : toL 0 = [] := toL_ser []
theorem toL_dg {s : PS} {n : Nat} (h : Dg s n) : toL s = (List.range (n + 1)).map s.f := by
  have e1 : ser (toL s) = ser ((List.range (n + 1)).map s.f) := by rw [ser_toL h.pl, ser_range h.1]
  have e2 := trim_ext e1
  rw [trim_toL] at e2
  rw [e2, List.range_succ, List.map_append]
  show trim (_ ++ [s.f n]) = _
  rw [trim_snoc, if_neg h.2]
  rfl
theorem toL_len {s : PS} {n : Nat} (h : Dg s n) : (toL s).length = n + 1 := by rw [toL_dg h]; simp
theorem toL_le {s : PS} {n : Nat} (h : Lt s n) : (toL s).length ≤ n := by
  by_cases z : s = 0
  · rw [z, toL_zero]; exact Nat.zero_le _
  · obtain ⟨m, hm⟩ := (show Pl s from ⟨_, h⟩).dg z
    rw [toL_len hm]
    exact hm.lt h
theorem toL_lt {s : PS} (h : Pl s) : Lt s (toL s).length := by
  have := lt_ser (toL s)
  rw [ser_toL h] at this
  exact this
theorem toL_getD {s : PS} (h : Pl s) (i : Nat) : (toL s).getD i 0 = s.f i := by rw [← ser_f, ser_toL h]
theorem toL_get {s : PS} (h : Pl s) {i : Nat} (hi : i < (toL s).length) : (toL s)[i]? = some (s.f i) := by
  have := toL_getD h i
  rw [List.getElem?_eq_getElem hi]
  rw [List.getD_eq_getElem?_getD, List.getElem?_eq_getElem hi] at this
  exact congrArg some this
theorem toL_nil {s : PS} (h : Pl s) : toL s = [] ↔ s = 0 := ⟨fun e => toL_inj h Pl.zero (by rw [e, toL_zero]), fun e => by rw [e, toL_zero]⟩
theorem toL_last {s : PS} {n : Nat} (h : Dg s n) : toL s = (List.range n).map s.f ++ [s.f n] := by rw [toL_dg h, List.range_succ, List.map_append]; rfl
/-! ### bits -/
theorem Bd.of_whole {b : Nat} {x : Rat} {k z : Int} (hk : k ≠ 0) (h1 : k.natAbs ≤ 2 ^ b) (e : (k : Rat) * x = z) (h2 : z.natAbs ≤ 2 ^ b) : Bd b x := by
  have hk' := int_ne hk
  have ex : x = Rat.divInt z k := by
    rw [Rat.divInt_eq_div, ← e]
    grind
  have := divInt_le (a := z) (b := k) hk
  rw [← ex] at this
  exact ⟨Nat.le_trans this.1 h2, Nat.le_trans this.2 h1⟩
theorem Hb.bd {b : Nat} {s : PS} (h : Hb b s) (i : Nat) : Bd b (s.f i) := by
  obtain ⟨k, h1, h2, h3⟩ := h
  obtain ⟨z, h4, h5⟩ := h3 i
  exact Bd.of_whole h1 h2 h4 h5
theorem Hb.bdL {b : Nat} {s : PS} (h : Hb b s) (p : Pl s) : BdL b (toL s) := fun x hx => by
  obtain ⟨i, hi⟩ := List.mem_iff_getElem?.mp hx
  have hlt := (List.getElem?_eq_some_iff.mp hi).1
  rw [toL_get p hlt] at hi
  rw [← Option.some.inj hi]
  exact h.bd i
theorem Hb.C {b : Nat} {c : Rat} (h : Bd b c) : Hb b (PS.C c) := by
  refine ⟨c.den, by have := c.den_nz; omega, by simpa using h.2, fun i => ?_⟩
  have e : (((c.den : Int) : Rat)) * c = c.num := by
    have e1 := Rat.num_divInt_den c
    rw [Rat.divInt_eq_div] at e1
    have hd' : ((c.den : Int) : Rat) ≠ 0 := int_ne (by have := c.den_nz; omega)
    generalize ((c.den : Int) : Rat) = d at *
    rw [← e1]
    grind
  show ∃ z : Int, _ * (if i = 0 then c else 0) = _ ∧ _
  by_cases z : i = 0
  · rw [if_pos z]; exact ⟨c.num, e, h.1⟩
  · rw [if_neg z]; exact ⟨0, by rw [Rat.mul_zero]; rfl, Nat.zero_le _⟩
theorem Hb.ofC {a b : Nat} {s : PS} {c : Rat} (hc : Bd a c) (h : Hb b s) : Hb (a + b) (PS.C c * s) := Hb.smul hc h
theorem Hb.one (b : Nat) : Hb b 1 := (Hb.C (c := 1) (Bd.one b))
theorem Hb.ser {b : Nat} : ∀ {p : List Rat}, BdL b p → Hb (p.length * (b + 1)) (ser p)
  | [], _ => Hb.zero _
  | a :: p, h => by
    have h1 := Hb.C (h a List.mem_cons_self)
    have h2 := (Hb.ser (p := p) fun x hx => h x (List.mem_cons_of_mem _ hx)).X_mul
    refine (h1.add h2).mono ?_
    rw [List.length_cons, Nat.add_mul]
    omega
/-! ### data -/
@[simp] theorem s2_isb (a b : Bool) : sem2 .is_ (.bool a) (.bool b) = v1 (.bool (a == b)) := rfl
@[simp] theorem s2_isnb (a b : Bool) : sem2 .isn (.bool a) (.bool b) = v1 (.bool (!(a == b))) := rfl
@[simp] theorem s2_isn (d : D) : sem2 .is_ d .none = v1 (.bool (match d with | .none => true | _ => false)) := by cases d <;> rfl
@[simp] theorem s2_isnn (d : D) : sem2 .isn d .none = v1 (.bool (match d with | .none => false | _ => true)) := by cases d <;> rfl
noncomputable def po (s : PS) : D := pol (toL s)
theorem pol_trim (p : List Rat) : pol (trim p) = po (ser p) := by unfold po; rw [toL_ser]
theorem po_zero : po 0 = .tuple [] := by unfold po; rw [toL_zero]; rfl
theorem po_one : po 1 = .tuple [fr 1] := by
  unfold po
  rw [toL_dg Mn.one.dg]
  rfl
theorem po_C {c : Rat} (h : c ≠ 0) : po (PS.C c) = .tuple [fr c] := by
  unfold po
  rw [toL_dg (Dg.C h)]
  rfl
theorem po_inj {a b : PS} (ha : Pl a) (hb : Pl b) : po a = po b ↔ a = b := ⟨fun h => by
  refine toL_inj ha hb ?_
  have e := eqv_pol (toL a) (toL b)
  rw [show pol (toL a) = pol (toL b) from h, eqv_pol] at e
  have : decide (toL b = toL b) = true := by simp
  rw [this] at e
  exact of_decide_eq_true e.symm, fun h => by rw [h]⟩
open Classical in
theorem eq_po {a b : PS} (ha : Pl a) (hb : Pl b) : sem2 .eq (po a) (po b) = v1 (.bool (decide (a = b))) := by
  unfold po
  rw [eq_pol]
  have : (toL a = toL b) ↔ a = b := ⟨toL_inj ha hb, fun h => by rw [h]⟩
  simp [this]
open Classical in
theorem ne_po {a b : PS} (ha : Pl a) (hb : Pl b) : sem2 .ne (po a) (po b) = v1 (.bool (!decide (a = b))) := by
  unfold po
  rw [ne_pol]
  have : (toL a = toL b) ↔ a = b := ⟨toL_inj ha hb, fun h => by rw [h]⟩
  simp [this]
@[simp] theorem eq_self (a : PS) : sem2 .eq (po a) (po a) = v1 (.bool true) := by unfold po; rw [eq_pol]; simp
@[simp] theorem ne_self (a : PS) : sem2 .ne (po a) (po a) = v1 (.bool false) := by unfold po; rw [ne_pol]; simp
open Classical in
theorem ne_po0 {a : PS} (ha : Pl a) : sem2 .ne (po a) (.tuple []) = v1 (.bool (!decide (a = 0))) := by rw [← po_zero]; exact ne_po ha Pl.zero
open Classical in
theorem eq_po0 {a : PS} (ha : Pl a) : sem2 .eq (po a) (.tuple []) = v1 (.bool (decide (a = 0))) := by rw [← po_zero]; exact eq_po ha Pl.zero
@[simp] theorem len_po (s : PS) : sem1 .len (po s) = v1 (.int (toL s).length) := by unfold po pol; rw [s1_lent, List.length_map]
@[simp] theorem seq_po (s : PS) : seqR (po s) = .ok ((toL s).map fr) := rfl
theorem idx_po {s : PS} (h : Pl s) {i : Nat} (hi : i < (toL s).length) : sem2 .idx (po s) (.int (i : Nat)) = v1 (fr (s.f i)) := by
  unfold po pol
  rw [s2_idxt, atD_nat (d := fr (s.f i))]
  rw [List.getElem?_map, toL_get h hi]
  rfl
theorem idx_last {s : PS} {n : Nat} (h : Dg s n) : sem2 .idx (po s) (.int (-1)) = v1 (fr (s.f n)) := by
  unfold po pol
  rw [s2_idxt, toL_last h, List.map_append]
  exact atD_last
/-- a series that ends before n, of few bits -/
structure Z (n h : Nat) (s : PS) : Prop where
  lt : Lt s n
  hb : Hb h s
theorem Z.pl {n h : Nat} {s : PS} (z : Z n h s) : Pl s := ⟨_, z.lt⟩
theorem Z.mono {m n h k : Nat} {s : PS} (z : Z m h s) (l1 : m ≤ n) (l2 : h ≤ k) : Z n k s := ⟨z.lt.mono l1, z.hb.mono l2⟩
theorem Z.zero (n h : Nat) : Z n h 0 := ⟨Lt.zero n, Hb.zero h⟩
theorem Z.one (n h : Nat) (hn : 1 ≤ n) : Z n h 1 := ⟨Lt.one.mono hn, Hb.one h⟩
theorem Z.add {m n h k : Nat} {a b : PS} (x : Z m h a) (y : Z n k b) : Z (max m n) (h + k + 1) (a + b) := ⟨(x.lt.mono (Nat.le_max_left _ _)).add (y.lt.mono (Nat.le_max_right _ _)), x.hb.add y.hb⟩
theorem Z.sub {m n h k : Nat} {a b : PS} (x : Z m h a) (y : Z n k b) : Z (max m n) (h + k + 1) (a - b) := ⟨(x.lt.mono (Nat.le_max_left _ _)).sub (y.lt.mono (Nat.le_max_right _ _)), x.hb.sub y.hb⟩
theorem Z.mul {m n h k l : Nat} {a b : PS} (x : Z m h a) (y : Z n k b) (hl : m ≤ 2 ^ l) : Z (m + n - 1) (h + k + l) (a * b) := ⟨x.lt.mul' y.lt (by omega), x.hb.mul y.hb x.lt hl⟩
theorem Z.smul {n h k : Nat} {c : Rat} {a : PS} (hc : Bd h c) (y : Z n k a) : Z n (h + k) (PS.C c * a) := ⟨y.lt.smul c, y.hb.ofC hc⟩
theorem Z.mon {n h : Nat} {a : PS} (x : Z n h a) : Z n h (AW.mon a) := ⟨mon_lt x.lt, x.hb.mon' x.pl⟩
theorem Z.bd {n h : Nat} {a : PS} (x : Z n h a) (i : Nat) : Bd h (a.f i) := x.hb.bd i
theorem Z.okL {n h : Nat} {a : PS} (x : Z n h a) (l : h ≤ 40000000) : OkL (toL a) := OkL.of (x.hb.bdL x.pl) l
theorem Z.ln {n h : Nat} {a : PS} (x : Z n h a) (l : n ≤ 100000) : Ln (toL a) := Nat.le_trans (toL_le x.lt) l
section
variable {G : Nat → D} {c : Nat → List Sl → R (D × Bool)} {T : List Fn} {nm : Nm}
theorem SpSum.z {j : Nat} (hs : SpSum c j) {a b : PS} {n h : Nat} (x : Z n h a) (y : Z n h b) (l : n ≤ 100000 ∧ h ≤ 40000000) : c j [.va (po a), .va (po b)] = va (po (a + b)) := by
  have e := hs (toL a) (toL b) (x.okL l.2) (y.okL l.2) (x.ln l.1) (y.ln l.1)
  rw [pol_trim, ser_add, ser_toL x.pl, ser_toL y.pl] at e
  exact e
theorem SpScaled.z {j : Nat} (hs : SpScaled c j) {a : PS} {x : Rat} {n h : Nat} (z : Z n h a) (hx : Bd h x) (l : n ≤ 100000 ∧ h ≤ 40000000) : c j [.va (po a), .va (fr x)] = va (po (PS.C x * a)) := by
  have e := hs (toL a) x (z.okL l.2) (Ok.of hx l.2) (z.ln l.1)
  rw [pol_trim, ser_smul, ser_toL z.pl] at e
  exact e
/-- the slope -/
def der (s : PS) : PS := ⟨fun n => ((n + 1 : Nat) : Rat) * s.f (n + 1)⟩
theorem ser_enum : ∀ (p : List Rat) (k : Nat), ser ((enumN k p).map fun (z : Nat × Rat) => (((z.1 + 1 : Nat) : Int) : Rat) * z.2) = ⟨fun n => (((k + n + 1 : Nat) : Int) : Rat) * p.getD n 0⟩
  | [], k => by
    ext n
    show (0 : PS).f n = _ * ([] : List Rat).getD n 0
    rw [PS.zero_f]
    simp
  | a :: p, k => by
    ext n
    show (PS.C ((((k + 1 : Nat) : Int) : Rat) * a) + PS.X * ser ((enumN (k + 1) p).map _)).f n = _
    rw [PS.add_f, PS.X_mul, ser_enum p (k + 1)]
    cases n with
    | zero =>
      show (if 0 = 0 then (((k + 1 : Nat) : Int) : Rat) * a else 0) + 0 = _ * a
      rw [if_pos rfl, Nat.add_zero]
      grind
    | succ n =>
      show (if n + 1 = 0 then (((k + 1 : Nat) : Int) : Rat) * a else (0 : Rat)) + (((k + 1 + n + 1 : Nat) : Int) : Rat) * p.getD n 0 = (((k + (n + 1) + 1 : Nat) : Int) : Rat) * p.getD n 0
      rw [if_neg (by omega), show k + 1 + n + 1 = k + (n + 1) + 1 by omega]
      grind
theorem ser_der (p : List Rat) : ser (derL p) = der (ser p) := by
  unfold derL
  rw [ser_enum]
  ext n
  show (((0 + n + 1 : Nat) : Int) : Rat) * (p.drop 1).getD n 0 = ((n + 1 : Nat) : Rat) * (ser p).f (n + 1)
  rw [ser_f, Nat.zero_add]
  have : (p.drop 1).getD n 0 = p.getD (n + 1) 0 := by cases p <;> simp
  rw [this]
  rfl
theorem Lt.der {s : PS} {n : Nat} (h : Lt s n) : Lt (AW.der s) (n - 1) := fun k hk => by
  show _ * s.f (k + 1) = 0
  rw [h (k + 1) (by omega)]
  grind
theorem Hb.der {s : PS} {n b l : Nat} (h : Hb b s) (z : Lt s n) (hl : n ≤ 2 ^ l) : Hb (b + l) (AW.der s) := by
  obtain ⟨k, h1, h2, h3⟩ := h
  refine ⟨k, h1, Nat.le_trans h2 (Nat.pow_le_pow_right (by decide) (by omega)), fun i => ?_⟩
  obtain ⟨w, h4, h5⟩ := h3 (i + 1)
  rcases Nat.lt_or_ge (i + 1) n with q | q
  · refine ⟨((i + 1 : Nat) : Int) * w, ?_, ?_⟩
    · show _ * (((i + 1 : Nat) : Rat) * s.f (i + 1)) = _
      rw [Rat.intCast_mul, ← h4]
      show _ = ((i + 1 : Nat) : Rat) * _
      grind
    · have := natAbs_mul_le (show (((i + 1 : Nat) : Int)).natAbs ≤ 2 ^ l by omega) h5
      rw [Nat.add_comm l b] at this
      exact this
  · refine ⟨0, ?_, Nat.zero_le _⟩
    show _ * (_ * s.f (i + 1)) = _
    rw [z _ q, Rat.mul_zero, Rat.mul_zero]
    rfl
theorem Z.der {n h l : Nat} {a : PS} (x : Z n h a) (hl : n ≤ 2 ^ l) : Z (n - 1) (h + l) (AW.der a) := ⟨x.lt.der, x.hb.der x.lt hl⟩
theorem SpSlope.z {j : Nat} (hs : SpSlope c j) {a : PS} {n h : Nat} (x : Z n h a) (l : n ≤ 100000 ∧ h ≤ 40000000) : c j [.va (po a)] = va (po (der a)) := by
  have e := hs (toL a) (x.okL l.2) (x.ln l.1)
  rw [pol_trim, ser_der, ser_toL x.pl] at e
  exact e
end
end AW

/-! AwDiv: turned, negated, monic, products by bits, division with rest. -/
namespace AW
open PySem PySem.Spec PyProof.Rows
/-! ### whole over one number -/
def Nb (K : Int) (L : Nat) (x : Rat) : Prop := ∃ z : Int, (K : Rat) * x = z ∧ z.natAbs ≤ L
theorem Nb.mono {K : Int} {L M : Nat} {x : Rat} (h : Nb K L x) (l : L ≤ M) : Nb K M x := by obtain ⟨z, h1, h2⟩ := h; exact ⟨z, h1, Nat.le_trans h2 l⟩
theorem Nb.zero (K : Int) (L : Nat) : Nb K L 0 := ⟨0, by rw [Rat.mul_zero]; rfl, Nat.zero_le _⟩
theorem Nb.add {K : Int} {L M : Nat} {x y : Rat} (h : Nb K L x) (k : Nb K M y) : Nb K (L + M) (x + y) := by
  obtain ⟨z, h1, h2⟩ := h
  obtain ⟨w, k1, k2⟩ := k
  refine ⟨z + w, by rw [Rat.intCast_add, ← h1, ← k1]; grind, ?_⟩
  have := Int.natAbs_add_le z w
  omega
theorem Nb.mul {K J : Int} {L M : Nat} {x y : Rat} (h : Nb K L x) (k : Nb J M y) : Nb (K * J) (L * M) (x * y) := by
  obtain ⟨z, h1, h2⟩ := h
  obtain ⟨w, k1, k2⟩ := k
  refine ⟨z * w, by rw [Rat.intCast_mul, Rat.intCast_mul, ← h1, ← k1]; grind, ?_⟩
  rw [Int.natAbs_mul]
  exact Nat.mul_le_mul h2 k2
theorem Nb.neg {K : Int} {L : Nat} {x : Rat} (h : Nb K L x) : Nb K L (-x) := by
  obtain ⟨z, h1, h2⟩ := h
  exact ⟨-z, by rw [Rat.intCast_neg, ← h1]; grind, by omega⟩
theorem Nb.scale {K J : Int} {L M : Nat} {x : Rat} (h : Nb K L x) (l : J.natAbs ≤ M) : Nb (K * J) (L * M) x := by
  obtain ⟨z, h1, h2⟩ := h
  refine ⟨z * J, by rw [Rat.intCast_mul, Rat.intCast_mul, ← h1]; grind, ?_⟩
  rw [Int.natAbs_mul]
  exact Nat.mul_le_mul h2 l
theorem Nb.bd {K : Int} {L b : Nat} {x : Rat} (h : Nb K L x) (hK : K ≠ 0) (h1 : K.natAbs ≤ 2 ^ b) (h2 : L ≤ 2 ^ b) : Bd b x := by
  obtain ⟨z, e, l⟩ := h
  exact Bd.of_whole hK h1 e (Nat.le_trans l h2)
section
variable {G : Nat → D} {c : Nat → List Sl → R (D × Bool)} {T : List Fn} {nm : Nm}
/-! ### fractions -/
def SpNeg (c : Nat → List Sl → R (D × Bool)) (j : Nat) : Prop := ∀ p : Rat, c j [.va (fr p)] = va (fr (-p))
theorem negated_ok (p : Rat) : bo G c T b_negated [.va (fr p)] 0 = va (fr (-p)) := by
  have c2 : (2 : Nat) ≤ line := by unfold line; omega
  unfold bo b_negated
  simp [val, c2]
  unfold fr
  rw [Rat.neg_num, Rat.neg_den]
def SpTurn (c : Nat → List Sl → R (D × Bool)) (j : Nat) : Prop := ∀ p : Rat, p ≠ 0 → c j [.va (fr p)] = va (fr p⁻¹)
theorem inv_divInt {p : Rat} (h : p ≠ 0) : Rat.divInt p.den p.num = p⁻¹ := by
  have e := Rat.num_divInt_den p
  rw [Rat.divInt_eq_div] at e ⊢
  have hd : ((p.den : Int) : Rat) ≠ 0 := int_ne (by have := p.den_nz; omega)
  have hn : (p.num : Rat) ≠ 0 := int_ne (by rw [Ne, Rat.num_eq_zero]; exact h)
  generalize ((p.den : Int) : Rat) = d at *
  generalize (p.num : Rat) = n at *
  rw [← e]
  grind
theorem turned_ok {e jf : Nat} (hf : SpFrac c jf) {p : Rat} (h : p ≠ 0) : bo G c T (b_turned e jf) [.va (fr p)] 0 = va (fr p⁻¹) := by
  have hn : p.num ≠ 0 := by rw [Ne, Rat.num_eq_zero]; exact h
  have e1 := hf p.den p.num hn
  rw [inv_divInt h] at e1
  unfold bo b_turned
  simp [val, hn, e1, h]
/-! ### made monic -/
def SpMon (c : Nat → List Sl → R (D × Bool)) (j : Nat) : Prop := ∀ (a : PS) (n h : Nat), Z n h a → n ≤ 40000 ∧ h ≤ 40000000 → c j [.va (po a)] = va (po (mon a))
theorem monic_ok {js jt : Nat} (hs : SpScaled c js) (ht : SpTurn c jt) {a : PS} {n h : Nat} (z : Z n h a) (l : n ≤ 40000 ∧ h ≤ 40000000) : bo G c T (b_monic js jt) [.va (po a)] 0 = va (po (mon a)) := by
  have c0 : (0 : Nat) ≤ line := Nat.zero_le _
  have e0 := ne_po0 z.pl
  unfold bo b_monic
  by_cases h0 : a = 0
  · subst h0
    simp [val, c0, e0]
    rw [mon_zero, po_zero]
  · obtain ⟨m, hm⟩ := z.pl.dg h0
    have e1 := idx_last hm
    have e2 := ht (a.f m) hm.2
    have b1 : Bd h (a.f m)⁻¹ := by
      have b := z.bd m
      have nz : (a.f m).num ≠ 0 := by rw [Ne, Rat.num_eq_zero]; exact hm.2
      rw [← inv_divInt hm.2]
      have := divInt_le (a := ((a.f m).den : Int)) (b := (a.f m).num) nz
      exact ⟨Nat.le_trans this.1 (by simpa using b.2), Nat.le_trans this.2 b.1⟩
    have e3 := hs.z z b1 ⟨by omega, l.2⟩
    simp [val, c0, e0, h0, e1, e2, e3]
    unfold mon
    rw [lc_eq hm]
/-! ### products -/
def SpProdZ (c : Nat → List Sl → R (D × Bool)) (j : Nat) : Prop := ∀ (a b : PS) (m n h k l : Nat), Z m h a → Z n k b → m ≤ 2 ^ l ∧ h + k + l ≤ 40000000 ∧ m ≤ 40000 ∧ n ≤ 40000 → c j [.va (po a), .va (po b)] = va (po (a * b))
theorem prodZ_ok {kN jp jb jt : Nat} (hG : G kN = fr 0) (hp : SpPlus c jp) (hb : SpBy c jb) (ht : SpTrim c jt) {a b : PS} {m0 n0 h0 k0 l0 : Nat} (za : Z m0 h0 a) (zb : Z n0 k0 b) (hz : m0 ≤ 2 ^ l0 ∧ h0 + k0 + l0 ≤ 40000000 ∧ m0 ≤ 40000 ∧ n0 ≤ 40000) :
    bo G c T (b_poly_product kN jp jb jt) [.va (po a), .va (po b)] 5 = va (po (a * b)) := by
  obtain ⟨hl, hs, hm0, hn0⟩ := hz
  have pa := za.pl
  have pb := zb.pl
  obtain ⟨ka, ka1, ka2, ka3⟩ := za.hb
  obtain ⟨kb, kb1, kb2, kb3⟩ := zb.hb
  have l1 := toL_le za.lt
  have l2 := toL_le zb.lt
  have sea := ser_toL pa
  have seb := ser_toL pb
  have geta := fun {i : Nat} (h : i < (toL a).length) => toL_get pa h
  have getb := fun {i : Nat} (h : i < (toL b).length) => toL_get pb h
  unfold po
  generalize hP : toL a = p at *
  generalize hQ : toL b = q at *
  obtain ⟨n, hn, hm⟩ : ∃ n : Nat, max 0 ((p.length : Int) + (q.length : Int) - 1) = (n : Int) ∧ n = p.length + q.length - 1 := ⟨p.length + q.length - 1, by omega, rfl⟩
  have c1 : (-1000000 : Int) ≤ (n : Int) := by omega
  have c2 : (n : Int) ≤ 1000000 := by omega
  have c3 : n ≤ line := by unfold line; omega
  have c4 : (1 : Nat) ≤ line := by unfold line; omega
  have lp : sem1 .len (pol p) = v1 (.int p.length) := by simp [pol]
  have lq : sem1 .len (pol q) = v1 (.int q.length) := by simp [pol]
  have sp : seqR (pol p) = .ok (p.map fr) := rfl
  have sq : seqR (pol q) = .ok (q.map fr) := rfl
  have hpow : (2 : Nat) ^ (h0 + k0) = 2 ^ h0 * 2 ^ k0 := Nat.pow_add _ _ _
  have small : ∀ {i : Nat} {x : Rat}, i ≤ p.length → Nb (ka * kb) (i * 2 ^ (h0 + k0)) x → Ok x := fun {i x} hi h => by
    refine Ok.of (h.bd (b := h0 + k0 + l0) (Int.mul_ne_zero ka1 kb1) ?_ ?_) hs
    · exact Nat.le_trans (natAbs_mul_le ka2 kb2) (Nat.pow_le_pow_right (by decide) (by omega))
    · rw [Nat.pow_add _ _ l0, Nat.mul_comm]
      exact Nat.mul_le_mul (Nat.le_refl _) (by omega)
  unfold bo b_poly_product
  simp [val, hG, es_for, lp, lq, hn, c1, c2, c3, c4, sp, sq]
  have e0 : List.replicate n (fr 0) = (List.replicate n (0 : Rat)).map fr := by simp
  rw [e0, enumD_map]
  refine forR_then (P := fun r => outF (r.bind _) = _) (I := fun i en => ∃ F z3 z4 z5 z6, en = [.va (pol p), .va (pol q), .ow (F.map fr), z3, z4, z5, z6] ∧ F.length = n ∧ ser F = ser (p.take i) * ser q ∧ ∀ x ∈ F, Nb (ka * kb) (i * 2 ^ (h0 + k0)) x) ?_ ⟨List.replicate n 0, _, _, _, _, rfl, by simp, ?_, ?_⟩ ?_
  · rintro i en d hi ⟨F0, z3, z4, z5, z6, rfl, k1, k2, k3⟩
    rw [List.getElem?_map, enumN_get] at hi
    cases hx : p[i]? with
    | none => rw [hx] at hi; cases hi
    | some x =>
      rw [hx] at hi
      cases Option.some.inj hi
      have hil := (List.getElem?_eq_some_iff.mp hx).1
      have ex : x = a.f i := by have := geta hil; rw [hx] at this; exact Option.some.inj this
      have bx : Bd h0 x := by rw [ex]; exact za.bd i
      have nx : Nb ka (2 ^ h0) x := by rw [ex]; exact ka3 i
      simp [val, es_for, sq]
      rw [enumD_map]
      generalize hR : forR _ _ _ _ = r
      have key : ∃ en', r = .ok (.nx en') ∧ ∃ F z5 z6, en' = [.va (pol p), .va (pol q), .ow (F.map fr), .va (.int (i : Nat)), .va (fr x), z5, z6] ∧ F.length = n ∧ ser F = ser F0 + PS.X ^ i * (PS.C x * ser q) ∧ ∀ x ∈ F, Nb (ka * kb) ((i + 1) * 2 ^ (h0 + k0)) x := by
       rw [← hR]
       refine forR_ex (I := fun k en => ∃ F z5 z6, en = [.va (pol p), .va (pol q), .ow (F.map fr), .va (.int (i : Nat)), .va (fr x), z5, z6] ∧ F.length = n ∧
        ser F = ser F0 + PS.X ^ i * (PS.C x * ser (q.take k)) ∧ (∀ x ∈ F, Nb (ka * kb) ((i + 1) * 2 ^ (h0 + k0)) x) ∧ ∀ m, i + k ≤ m → F.getD m 0 = F0.getD m 0) ⟨F0, _, _, rfl, k1, ?_, fun x hx => (k3 x hx).mono (Nat.mul_le_mul_right _ (by omega)), fun m _ => rfl⟩ ?_ ?_
       · rw [List.take_zero]
         show ser F0 = ser F0 + PS.X ^ i * (PS.C x * 0)
         grind
       · rintro k en d hk ⟨F, y5, y6, rfl, f1, f2, f3, f4⟩
         rw [List.getElem?_map, enumN_get] at hk
         cases hy : q[k]? with
         | none => rw [hy] at hk; cases hk
         | some y =>
           rw [hy] at hk
           cases Option.some.inj hk
           have hkl := (List.getElem?_eq_some_iff.mp hy).1
           have ey : y = b.f k := by have := getb hkl; rw [hy] at this; exact Option.some.inj this
           have by_ : Bd k0 y := by rw [ey]; exact zb.bd k
           have ny : Nb kb (2 ^ k0) y := by rw [ey]; exact kb3 k
           have hlt : i + k < F.length := by omega
           have eF : (F.map fr)[i + k]? = some (fr (F.getD (i + k) 0)) := by simp [hlt]
           have b0 : Nb (ka * kb) (i * 2 ^ (h0 + k0)) (F.getD (i + k) 0) := by
             rw [f4 (i + k) (by omega)]
             have : (F0.getD (i + k) 0) ∈ F0 := by
               have hlt' : i + k < F0.length := by omega
               simp [hlt']
             exact k3 _ this
           have b1 : Nb (ka * kb) (2 ^ (h0 + k0)) (x * y) := by rw [hpow]; exact nx.mul ny
           have e1 := hb x y (Ok.of bx (by omega)) (Ok.of by_ (by omega))
           have e2 := hp (F.getD (i + k) 0) (x * y) (small (by omega) b0) (small (i := 1) (by omega) (by rw [Nat.one_mul]; exact b1))
           have e3 : ((i : Int) + (k : Int)) = ((i + k : Nat) : Int) := by omega
           have e4 := atD_nat eF
           have e5 : setD (F.map fr) ((i + k : Nat) : Int) (fr (F.getD (i + k) 0 + x * y)) = .ok ((F.set (i + k) (F.getD (i + k) 0 + x * y)).map fr) := by
             rw [setD_nat (by rw [List.length_map]; exact hlt), List.map_set]
           generalize hv : F.getD (i + k) 0 = v at *
           refine ⟨[.va (pol p), .va (pol q), .ow ((F.set (i + k) (v + x * y)).map fr), .va (.int (i : Nat)), .va (fr x), .va (.int (k : Nat)), .va (fr y)], .inl ?_, F.set (i + k) (v + x * y), _, _, rfl, by rw [List.length_set]; exact f1, ?_, ?_, ?_⟩
           · simp only [Nat.zero_add, bindT_tpt, bindTs_cons, bindT_nm, bindTs_nil, R.bind_ok, List.set_cons_succ, List.set_cons_zero]
             simp [val, e3, e4, e1, e2, e5, -Int.natCast_add]
           · rw [ser_set F (i + k) _ hlt, f2, ser_take_succ hy, hv, show v + x * y - v = x * y by grind, PS.C_mulC]
             grind
           · intro w hw
             rcases List.mem_or_eq_of_mem_set hw with hw | rfl
             · exact f3 w hw
             · exact (b0.add b1).mono (by rw [Nat.add_mul]; omega)
           · intro m hm'
             rw [← f4 m (by omega)]
             have hne : i + k ≠ m := by omega
             simp [List.getElem?_set_ne hne]
       · rintro en ⟨F, y5, y6, rfl, f1, f2, f3, f4⟩
         refine ⟨F, _, _, rfl, f1, ?_, f3⟩
         rw [f2, List.length_map, enumN_len, List.take_length]
      obtain ⟨en', rfl, F, y5, y6, rfl, f1, f2, f3⟩ := key
      refine ⟨_, .inl rfl, F, ⟨_, _, _, _, rfl⟩, f1, ?_, f3⟩
      rw [f2, k2, ser_take_succ hx]
      grind
  · rw [ser_zeros, List.take_zero]
    show (0 : PS) = 0 * ser q
    grind
  · intro x hx
    rw [(List.mem_replicate.mp hx).2]
    exact Nb.zero _ _
  · rintro en ⟨F, z3, z4, z5, z6, rfl, k1, k2, k3⟩
    rw [List.length_map, enumN_len, List.take_length] at k2
    have e1 := ht.1 F
    rw [pol_trim, k2, sea, seb] at e1
    simp [val, e1]
    rfl
end
end AW

/-! AwDv2: division with rest as the program does it. -/
namespace AW
open PySem PySem.Spec PyProof.Rows
/-- behind the places from p on: the rest R, the often S -/
structure DivSt (a b : PS) (n g : Nat) (ka kb L : Int) (h k p : Nat) (R S : PS) : Prop where
  eq : R = a - S * b
  ltR : Lt R (p + n)
  low : ∀ j, j < p → S.f j = 0
  ltS : Lt S g
  wR : ∀ j, Nb (ka * L ^ (g - p)) (2 ^ (h + (g - p) * (k + 1))) (R.f j)
  wS : ∀ j, Nb (ka * L ^ (g - p)) (2 ^ (h + (g - p) * (k + 1))) (S.f j)
theorem DivSt.init {a b : PS} {n g : Nat} {ka kb L : Int} {h k : Nat} (lt : Lt a (g + n)) (ha : ∀ j, Nb ka (2 ^ h) (a.f j)) : DivSt a b n g ka kb L h k g a 0 :=
  ⟨by grind, lt, fun j _ => PS.zero_f j, Lt.zero _, fun j => by rw [Nat.sub_self, Nat.zero_mul, Nat.add_zero]; simpa using ha j, fun j => by rw [PS.zero_f]; exact Nb.zero _ _⟩
theorem DivSt.step {a b : PS} {n g : Nat} {ka kb L : Int} {h k p : Nat} {R S : PS} (st : DivSt a b n g ka kb L h k (p + 1) R S) (hp : p < g) (hb : Dg b n) (wb : ∀ j, Nb kb (2 ^ k) (b.f j)) (eL : (kb : Rat) * b.f n = L) (bL : L.natAbs ≤ 2 ^ k) (bk : kb.natAbs ≤ 2 ^ k) :
    DivSt a b n g ka kb L h k p (R - PS.C (R.f (p + n) * (b.f n)⁻¹) * (PS.X ^ p * b)) (S + PS.C (R.f (p + n) * (b.f n)⁻¹) * PS.X ^ p) := by
  have eg : g - p = g - (p + 1) + 1 := by omega
  have hbn := hb.2
  -- the new number
  have hM : 2 ^ (h + (g - (p + 1)) * (k + 1)) * 2 ^ k + 2 ^ (h + (g - (p + 1)) * (k + 1)) * 2 ^ k = 2 ^ (h + (g - p) * (k + 1)) := by
    rw [eg, Nat.add_mul, Nat.one_mul, ← Nat.add_assoc, Nat.pow_add _ _ (k + 1), Nat.pow_succ 2 k, ← Nat.mul_assoc]
    omega
  generalize hMM : 2 ^ (h + (g - (p + 1)) * (k + 1)) = M at *
  have wR := st.wR
  have wS := st.wS
  rw [hMM] at wR wS
  have hK : ka * L ^ (g - p) = ka * L ^ (g - (p + 1)) * L := by rw [eg, Int.pow_succ, Int.mul_assoc]
  have wnum : ∀ y : Rat, Nb kb (2 ^ k) y → Nb (ka * L ^ (g - p)) (M * 2 ^ k) (R.f (p + n) * (b.f n)⁻¹ * y) := fun y hy => by
    obtain ⟨z, z1, z2⟩ := wR (p + n)
    obtain ⟨w, w1, w2⟩ := hy
    refine ⟨z * w, ?_, ?_⟩
    · rw [hK, Rat.intCast_mul, ← eL, Rat.intCast_mul z w, ← z1, ← w1]
      grind
    · rw [Int.natAbs_mul]; exact Nat.mul_le_mul z2 w2
  have hexp : ∀ j, Nb (ka * L ^ (g - p)) (M * 2 ^ k) (R.f j) := fun j => by rw [hK]; exact (wR j).scale bL
  have hexpS : ∀ j, Nb (ka * L ^ (g - p)) (M * 2 ^ k) (S.f j) := fun j => by rw [hK]; exact (wS j).scale bL
  refine ⟨?_, ?_, ?_, ?_, ?_, ?_⟩
  · rw [st.eq]; grind
  · intro j hj
    rw [PS.sub_f, PS.C_mul, Xpow_mul, if_pos (by omega)]
    rcases Nat.eq_or_lt_of_le hj with e | e
    · subst e
      rw [show p + n - p = n by omega]
      grind
    · rw [st.ltR j (by omega), hb.1 (j - p) (by omega)]
      grind
  · intro j hj
    rw [PS.add_f, PS.C_mul, Xpow_f, if_neg (by omega), st.low j (by omega)]
    grind
  · exact st.ltS.add (((Xpow_lt p).mono (by omega)).smul _)
  · intro j
    rw [PS.sub_f, PS.C_mul, Xpow_mul, ← hM]
    split
    · have := (hexp j).add (wnum _ (wb (j - p))).neg
      rw [show R.f j - R.f (p + n) * (b.f n)⁻¹ * b.f (j - p) = R.f j + -(R.f (p + n) * (b.f n)⁻¹ * b.f (j - p)) by grind]
      exact this
    · rw [show R.f j - R.f (p + n) * (b.f n)⁻¹ * 0 = R.f j by grind]
      exact (hexp j).mono (by omega)
  · intro j
    rw [PS.add_f, PS.C_mul, Xpow_f, ← hM]
    by_cases e : j = p
    · subst e
      rw [if_pos rfl, st.low j (by omega)]
      have := wnum 1 ⟨kb, by grind, bk⟩
      rw [show (0 : Rat) + R.f (j + n) * (b.f n)⁻¹ * 1 = R.f (j + n) * (b.f n)⁻¹ * 1 by grind]
      exact this.mono (by omega)
    · rw [if_neg e, show S.f j + R.f (p + n) * (b.f n)⁻¹ * 0 = S.f j by grind]
      exact (hexpS j).mono (by omega)
theorem rng_rev_get {g i : Nat} {d : D} (h : (rngD 0 g).reverse[i]? = some d) : i < g ∧ d = .int ((g - 1 - i : Nat) : Int) := by
  have hl : (rngD 0 g).length = g := by unfold rngD; simp
  have hi := (List.getElem?_eq_some_iff.mp h).1
  rw [List.length_reverse, hl] at hi
  refine ⟨hi, ?_⟩
  rw [List.getElem?_reverse (by rw [hl]; exact hi), hl] at h
  unfold rngD at h
  rw [List.getElem?_map, List.getElem?_range (by omega)] at h
  have := Option.some.inj h
  rw [← this]
  simp
theorem small_le {i : Int} (h : i.natAbs ≤ 1000000) : small i = true := by
  unfold small
  rw [Nat.ble_eq]
  have h2 : i.natAbs ≤ 2 ^ 20 := Nat.le_trans h (by decide)
  have := log2_of_le h2
  omega
theorem rngR_zero {n : Nat} (h : n ≤ 1000000) : rngR 0 (n : Int) = .ok (rngD 0 n) := by
  unfold rngR
  rw [small_le (show (0 : Int).natAbs ≤ 1000000 by decide), small_le (show ((n : Int)).natAbs ≤ 1000000 by omega)]
  simp
section
variable {G : Nat → D} {c : Nat → List Sl → R (D × Bool)} {T : List Fn} {nm : Nm}
def SpDiv (c : Nat → List Sl → R (D × Bool)) (j : Nat) : Prop := ∀ (a b : PS) (m n h k : Nat), Z m h a → Z n k b → b ≠ 0 → m ≤ 20000 ∧ n ≤ 20000 ∧ h + (m + 2) * (k + 1) ≤ 39000000 → c j [.va (po a), .va (po b)] = va (.tuple [po (quo a b), po (rem a b)])
theorem parted_ok {e jt kN jb jp jn jr : Nat} (hG : G kN = fr 0) (ht : SpTurn c jt) (hb : SpBy c jb) (hp : SpPlus c jp) (hn : SpNeg c jn) (hr : SpTrim c jr) {a b : PS} {m0 n0 h k : Nat} (za : Z m0 h a) (zb : Z n0 k b) (b0 : b ≠ 0)
    (hz : m0 ≤ 20000 ∧ n0 ≤ 20000 ∧ h + (m0 + 2) * (k + 1) ≤ 39000000) : bo G c T (b_poly_parted e jt kN jb jp jn jr) [.va (po a), .va (po b)] 7 = va (.tuple [po (quo a b), po (rem a b)]) := by
  obtain ⟨hm0, hn0, hs⟩ := hz
  obtain ⟨n, db⟩ := zb.pl.dg b0
  have lb := toL_len db
  have la := toL_le za.lt
  have nn := db.lt zb.lt
  obtain ⟨ka, ka1, ka2, ka3⟩ := za.hb
  obtain ⟨kb, kb1, kb2, kb3⟩ := zb.hb
  obtain ⟨L, eL, bL⟩ := kb3 n
  have L0 : L ≠ 0 := fun z => by
    have := int_ne kb1
    have := db.2
    rw [z] at eL
    have eL : (kb : Rat) * b.f n = 0 := eL
    grind
  obtain ⟨g, hg, hg'⟩ : ∃ g : Nat, max 0 (((toL a).length : Int) - ((toL b).length : Int) + 1) = (g : Int) ∧ g = (toL a).length - n := ⟨(toL a).length - n, by omega, rfl⟩
  have e0 : sem2 .eq (po b) (.tuple []) = v1 (.bool false) := by rw [eq_po0 zb.pl]; simp [b0]
  have e1 := idx_last db
  have e2 := ht _ db.2
  have c1 : (-1000000 : Int) ≤ (g : Int) := by omega
  have c2 : (g : Int) ≤ 1000000 := by omega
  have c3 : g ≤ line := by unfold line; omega
  have c4 : (1 : Nat) ≤ line := by unfold line; omega
  have c5 : (2 : Nat) ≤ line := by unfold line; omega
  have c0 : (0 : Nat) ≤ line := by unfold line; omega
  have sl : sem1 .list (po a) = .ok (.list ((toL a).map fr), true) := by unfold po pol; simp
  have e3 : List.replicate g (fr 0) = (List.replicate g (0 : Rat)).map fr := by simp
  have hgm : g * (k + 1) ≤ m0 * (k + 1) := Nat.mul_le_mul_right _ (by omega)
  rw [Nat.add_mul] at hs
  have small : ∀ {i : Nat} {x : Rat}, i ≤ g → Nb (ka * L ^ i) (2 ^ (h + i * (k + 1))) x → Bd (h + g * (k + 1)) x := fun {i x} hi w => by
    have hik : i * (k + 1) ≤ g * (k + 1) := Nat.mul_le_mul_right _ hi
    refine w.bd (Int.mul_ne_zero ka1 (Int.pow_ne_zero L0)) ?_ (Nat.pow_le_pow_right (by decide) (by omega))
    rw [Int.natAbs_mul, Int.natAbs_pow]
    refine Nat.le_trans (Nat.mul_le_mul ka2 (Nat.pow_le_pow_left bL i)) ?_
    rw [← Nat.pow_mul, ← Nat.pow_add]
    refine Nat.pow_le_pow_right (by decide) ?_
    have : k * i ≤ i * (k + 1) := by rw [Nat.mul_comm]; exact Nat.mul_le_mul_left _ (by omega)
    omega
  unfold bo b_poly_parted
  simp [val, hG, es_for, e0, c0, e1, e2, sl, hg, c1, c2, c3, c4, c5, rngR_zero (n := g) (by omega)]
  rw [e3]
  refine forR_then (P := fun r => outF (r.bind _) = _) (I := fun i en => ∃ Rl Ol z5 z6 z7 z8, en = [.va (po a), .va (po b), .va (fr (b.f n)⁻¹), .ow (List.map fr Rl), .ow (List.map fr Ol), z5, z6, z7, z8] ∧ Rl.length = (toL a).length ∧ Ol.length = g ∧ DivSt a b n g ka kb L h k (g - i) (ser Rl) (ser Ol)) ?_
    ⟨toL a, List.replicate g 0, _, _, _, _, rfl, rfl, by simp, by
      rw [Nat.sub_zero, ser_toL za.pl, ser_zeros]
      exact DivSt.init ((toL_lt za.pl).mono (by omega)) ka3⟩ ?_
  · rintro i en d hi ⟨Rl, Ol, z5, z6, z7, z8, rfl, f1, f2, st⟩
    obtain ⟨hig, rfl⟩ := rng_rev_get hi
    generalize hp' : g - 1 - i = p at *
    have eqi : g - i = p + 1 := by omega
    have eqi' : g - (i + 1) = p := by omega
    rw [eqi] at st
    rw [eqi']
    have pg : p < g := by omega
    have st2 := st.step pg db kb3 eL bL kb2
    have lR : p + n < Rl.length := by omega
    have eI : ((p : Int) + ((n + 1 : Nat) : Int) - 1) = ((p + n : Nat) : Int) := by omega
    have eT : (Rl.map fr)[p + n]? = some (fr ((ser Rl).f (p + n))) := by rw [ser_f]; simp [lR]
    have eT' := atD_nat eT
    have bT : Bd (h + g * (k + 1)) ((ser Rl).f (p + n)) := small (i := g - (p + 1)) (by omega) (st.wR _)
    have bInv : Bd k (b.f n)⁻¹ := by
      have bb := zb.bd n
      have nz : (b.f n).num ≠ 0 := by rw [Ne, Rat.num_eq_zero]; exact db.2
      rw [← inv_divInt db.2]
      have := divInt_le (a := ((b.f n).den : Int)) (b := (b.f n).num) nz
      exact ⟨Nat.le_trans this.1 (by simpa using bb.2), Nat.le_trans this.2 bb.1⟩
    have eB := hb _ _ (Ok.of bT (by omega)) (Ok.of bInv (by omega))
    have bN : Bd (h + g * (k + 1)) ((ser Rl).f (p + n) * (b.f n)⁻¹) := by
      have := small (i := g - p) (by omega) (st2.wS p)
      rw [PS.add_f, PS.C_mul, Xpow_f, if_pos rfl, st.low p (by omega)] at this
      rw [show (ser Rl).f (p + n) * (b.f n)⁻¹ = 0 + (ser Rl).f (p + n) * (b.f n)⁻¹ * 1 by grind]
      exact this
    have eS : setD (Ol.map fr) (p : Int) (fr ((ser Rl).f (p + n) * (b.f n)⁻¹)) = .ok ((Ol.set p ((ser Rl).f (p + n) * (b.f n)⁻¹)).map fr) := by
      rw [setD_nat (by rw [List.length_map]; omega), List.map_set]
    have lowp : (ser Ol).f p = 0 := st.low p (by omega)
    have lR' : Lt (ser Rl) (p + 1 + n) := st.ltR
    generalize hN : (ser Rl).f (p + n) * (b.f n)⁻¹ = N at *
    simp [val, lb, eI, eT', eB, eS, es_for, -Int.natCast_add]
    rw [enumD_map]
    generalize hR : forR _ _ _ _ = r
    have key : ∃ en', r = .ok (.nx en') ∧ ∃ R2 z7 z8, en' = [.va (po a), .va (po b), .va (fr (b.f n)⁻¹), .ow (R2.map fr), .ow ((Ol.set p N).map fr), .va (.int (p : Nat)), .va (fr N), z7, z8] ∧ R2.length = (toL a).length ∧ ser R2 = ser Rl - PS.C N * (PS.X ^ p * b) := by
      rw [← hR]
      refine forR_ex (I := fun j en => ∃ R2 z7 z8, en = [.va (po a), .va (po b), .va (fr (b.f n)⁻¹), .ow (R2.map fr), .ow ((Ol.set p N).map fr), .va (.int (p : Nat)), .va (fr N), z7, z8] ∧ R2.length = (toL a).length ∧
        ser R2 = ser Rl - PS.C N * (PS.X ^ p * ser ((toL b).take j)) ∧ ∀ i, p + j ≤ i → R2.getD i 0 = Rl.getD i 0) ⟨Rl, z7, z8, by simp, f1, ?_, fun _ _ => rfl⟩ ?_ ?_
      · rw [List.take_zero]
        show ser Rl = ser Rl - PS.C N * (PS.X ^ p * 0)
        grind
      · rintro j en d hj ⟨R2, y7, y8, rfl, g1, g2, g3⟩
        rw [List.getElem?_map, enumN_get] at hj
        cases hy : (toL b)[j]? with
        | none => rw [hy] at hj; cases hj
        | some y =>
          rw [hy] at hj
          cases Option.some.inj hj
          have hjl := (List.getElem?_eq_some_iff.mp hy).1
          have ey : y = b.f j := by have := toL_get zb.pl hjl; rw [hy] at this; exact Option.some.inj this
          have by_ : Bd k y := by rw [ey]; exact zb.bd j
          have hlt : p + j < R2.length := by omega
          have eV : R2.getD (p + j) 0 = (ser Rl).f (p + j) := by rw [g3 (p + j) (by omega), ser_f]
          have eF : (R2.map fr)[p + j]? = some (fr (R2.getD (p + j) 0)) := by simp [hlt]
          have bV : Bd (h + g * (k + 1)) (R2.getD (p + j) 0) := by rw [eV]; exact small (i := g - (p + 1)) (by omega) (st.wR _)
          have q1 := hb N y (Ok.of bN (by omega)) (Ok.of by_ (by omega))
          have q2 := hn (N * y)
          have bNy : Bd (h + g * (k + 1) + k) (-(N * y)) := by
            have := bN.mul by_
            exact ⟨by rw [Rat.neg_num, Int.natAbs_neg]; exact this.1, by rw [Rat.neg_den]; exact this.2⟩
          have q3 := hp (R2.getD (p + j) 0) (-(N * y)) (Ok.of bV (by omega)) (Ok.of bNy (by omega))
          have e3 : ((p : Int) + (j : Int)) = ((p + j : Nat) : Int) := by omega
          have e4 := atD_nat eF
          have e5 : setD (R2.map fr) ((p + j : Nat) : Int) (fr (R2.getD (p + j) 0 + -(N * y))) = .ok ((R2.set (p + j) (R2.getD (p + j) 0 + -(N * y))).map fr) := by
            rw [setD_nat (by rw [List.length_map]; exact hlt), List.map_set]
          generalize hv : R2.getD (p + j) 0 = v at *
          refine ⟨[.va (po a), .va (po b), .va (fr (b.f n)⁻¹), .ow ((R2.set (p + j) (v + -(N * y))).map fr), .ow ((Ol.set p N).map fr), .va (.int (p : Nat)), .va (fr N), .va (.int (j : Nat)), .va (fr y)], .inl ?_, R2.set (p + j) (v + -(N * y)), _, _, rfl, by rw [List.length_set]; exact g1, ?_, ?_⟩
          · simp only [Nat.zero_add, bindT_tpt, bindTs_cons, bindT_nm, bindTs_nil, R.bind_ok, List.set_cons_succ, List.set_cons_zero]
            simp [val, e3, e4, q1, q2, q3, e5, -Int.natCast_add, -List.map_set]
          · rw [ser_set R2 (p + j) _ hlt, g2, ser_take_succ hy, hv, show v + -(N * y) - v = -(N * y) by grind, PS.C_neg, PS.C_mulC]
            grind
          · intro i hi
            rw [← g3 i (by omega)]
            have hne : p + j ≠ i := by omega
            simp [List.getElem?_set_ne hne]
      · rintro en ⟨R2, y7, y8, rfl, g1, g2, g3⟩
        refine ⟨R2, _, _, rfl, g1, ?_⟩
        rw [g2, List.length_map, enumN_len, List.take_length, ser_toL zb.pl]
    obtain ⟨en', rfl, R2, y7, y8, rfl, g1, g2⟩ := key
    refine ⟨_, .inl rfl, R2, Ol.set p N, ⟨_, _, _, _, rfl⟩, g1, by rw [List.length_set]; exact f2, ?_⟩
    have sO : ser (Ol.set p N) = ser Ol + PS.C N * PS.X ^ p := by
      rw [ser_set Ol p N (by omega), ← ser_f, lowp, show N - 0 = N by grind]
      grind
    rw [g2, sO]
    exact st2
  · rintro en ⟨Rl, Ol, z5, z6, z7, z8, rfl, f1, f2, st⟩
    have hlen : (rngD 0 g).reverse.length = g := by unfold rngD; simp
    rw [hlen, Nat.sub_self] at st
    obtain ⟨u1, u2⟩ := quo_eq db ⟨_, st.ltS⟩ (by have := st.ltR; rwa [Nat.zero_add] at this) (show a = ser Ol * b + ser Rl by rw [st.eq]; grind)
    have q1 := hr.1 Ol
    have q2 := hr.1 Rl
    rw [pol_trim, ← u1] at q1
    rw [pol_trim, ← u2] at q2
    simp [val, q1, q2, c5]
theorem Z.div {m n h k : Nat} {a b : PS} (za : Z m h a) (zb : Z (n + 1) k b) (db : Dg b n) : Z (m - n) (h + m * (k + 1)) (quo a b) ∧ Z n (h + m * (k + 1)) (rem a b) := by
  obtain ⟨ka, ka1, ka2, ka3⟩ := za.hb
  obtain ⟨kb, kb1, kb2, kb3⟩ := zb.hb
  obtain ⟨L, eL, bL⟩ := kb3 n
  have L0 : L ≠ 0 := fun z => by
    have := int_ne kb1
    have := db.2
    rw [z] at eL
    have eL : (kb : Rat) * b.f n = 0 := eL
    grind
  have go : ∀ p, p ≤ m - n → ∃ R S, DivSt a b n (m - n) ka kb L h k (m - n - p) R S := fun p => by
    induction p with
    | zero => intro _; exact ⟨a, 0, by rw [Nat.sub_zero]; exact DivSt.init (za.lt.mono (by omega)) ka3⟩
    | succ p ih =>
      intro hp
      obtain ⟨R, S, st⟩ := ih (by omega)
      rw [show m - n - p = m - n - (p + 1) + 1 by omega] at st
      exact ⟨_, _, st.step (by omega) db kb3 eL bL kb2⟩
  obtain ⟨R, S, st⟩ := go (m - n) (Nat.le_refl _)
  rw [Nat.sub_self] at st
  obtain ⟨u1, u2⟩ := quo_eq db ⟨_, st.ltS⟩ (by have := st.ltR; rwa [Nat.zero_add] at this) (show a = S * b + R by rw [st.eq]; grind)
  rw [u1, u2]
  have hmn : (m - n) * (k + 1) ≤ m * (k + 1) := Nat.mul_le_mul_right _ (by omega)
  have w1 : ka * L ^ (m - n) ≠ 0 := Int.mul_ne_zero ka1 (Int.pow_ne_zero L0)
  have w2 : (ka * L ^ (m - n)).natAbs ≤ 2 ^ (h + m * (k + 1)) := by
    rw [Int.natAbs_mul, Int.natAbs_pow]
    refine Nat.le_trans (Nat.mul_le_mul ka2 (Nat.pow_le_pow_left bL _)) ?_
    rw [← Nat.pow_mul, ← Nat.pow_add]
    refine Nat.pow_le_pow_right (by decide) ?_
    have : k * (m - n) ≤ (m - n) * (k + 1) := by rw [Nat.mul_comm]; exact Nat.mul_le_mul_left _ (by omega)
    omega
  have w3 : (2 : Nat) ^ (h + (m - n - 0) * (k + 1)) ≤ 2 ^ (h + m * (k + 1)) := Nat.pow_le_pow_right (by decide) (by rw [Nat.sub_zero]; omega)
  exact ⟨⟨st.ltS, _, w1, w2, fun j => (st.wS j).mono w3⟩, ⟨by have := st.ltR; rwa [Nat.zero_add] at this, _, w1, w2, fun j => (st.wR j).mono w3⟩⟩
end
end AW

/-! AwCom: the common part. -/
namespace AW
open PySem PySem.Spec PyProof.Rows
/-- what the walk of rests has ahead -/
def ComSt (h s : Nat) (x y : PS) : Prop := y = 0 ∨ x = 0 ∨ ∃ (p q : PS) (m n : Nat), Dg p m ∧ Dg q n ∧ Hb h p ∧ Hb h q ∧ m + n ≤ s ∧ ((x = p ∧ y = q) ∨ ∃ j, EuI p q m n x y j)
theorem ComSt.step {h s l : Nat} {x y : PS} (st : ComSt h s x y) (px : Pl x) (py : Pl y) (hy : y ≠ 0) (hl : 2 * s + 1 ≤ 2 ^ l) :
    ComSt h s y (mon (rem x y)) ∧ (Hb (s * (h + l)) (mon (rem x y)) ∨ Hb h (mon (rem x y))) := by
  obtain ⟨n', dy⟩ := py.dg hy
  obtain ⟨mx, lx⟩ := px
  obtain ⟨e, hr, hs⟩ := quo_rem dy lx
  by_cases hr0 : rem x y = 0
  · rw [hr0, mon_zero]
    exact ⟨.inl rfl, .inl (Hb.zero _)⟩
  have pr : Pl (rem x y) := ⟨_, hr⟩
  obtain ⟨jr, dr⟩ := pr.dg hr0
  have cne : (lc (rem x y))⁻¹ ≠ 0 := by have := lc_ne pr hr0; grind
  rcases st with h1 | h1 | ⟨p, q, m, n, dp, dq, hp, hq, hmn, h1⟩
  · exact absurd h1 hy
  · subst h1
    exact absurd (quo_eq dy Pl.zero (Lt.zero _) (show (0 : PS) = 0 * y + 0 by grind)).2 hr0
  · rcases h1 with ⟨rfl, rfl⟩ | ⟨j, eu⟩
    · have := dy.uniq dq
      subst this
      rcases Nat.lt_or_ge m n' with z | z
      · have e1 := (quo_eq dq Pl.zero (dp.1.mono (by omega)) (show x = 0 * y + x by grind)).2
        rw [e1]
        exact ⟨.inr (.inr ⟨y, mon x, n', m, dq, (mon_mn dp).dg, hq, hp.mon' dp.pl, by omega, .inl ⟨rfl, rfl⟩⟩), .inr (hp.mon' dp.pl)⟩
      · have eu := EuI.start dp.1 dq z e hr (hs := (quo_rem dy dp.1).2.2) cne
        have ht := eu.ht (l := l) hp hq dp dq (mon_mn dr) (by omega)
        exact ⟨.inr (.inr ⟨x, y, m, n', dp, dq, hp, hq, hmn, .inr ⟨_, eu⟩⟩), .inl (ht.mono (Nat.mul_le_mul_right _ hmn))⟩
    · have eu2 := eu.step dy e hr (quo_rem dy eu.1.1).2.2 cne
      have ht := eu2.ht (l := l) hp hq dp dq (mon_mn dr) (by omega)
      exact ⟨.inr (.inr ⟨p, q, m, n, dp, dq, hp, hq, hmn, .inr ⟨_, eu2⟩⟩), .inl (ht.mono (Nat.mul_le_mul_right _ hmn))⟩
/-- the bits of a common part -/
def cb (m n h l : Nat) : Nat := (m + n) * (h + l)
section
variable {G : Nat → D} {c : Nat → List Sl → R (D × Bool)} {T : List Fn} {nm : Nm}
def ComOk (m n h l : Nat) : Prop := 2 * (m + n) + 1 ≤ 2 ^ l ∧ m + n ≤ 10000 ∧ cb m n h l + (m + n + 2) * (cb m n h l + 1) ≤ 39000000
def SpCom (c : Nat → List Sl → R (D × Bool)) (j : Nat) : Prop := ∀ (a b : PS) (m n h l : Nat), Z m h a → Z n h b → ComOk m n h l → c j [.va (po a), .va (po b)] = va (po (gcd a b))
theorem common_ok {jm jp : Nat} (hm : SpMon c jm) (hp : SpDiv c jp) {a b : PS} {m n h l : Nat} (za : Z m h a) (zb : Z n h b) (hz : ComOk m n h l) : bo G c T (b_common jm jp) [.va (po a), .va (po b)] 0 = va (po (gcd a b)) := by
  obtain ⟨hl, hmn, hB⟩ := hz
  rcases Nat.eq_zero_or_pos (m + n) with z0 | z0
  · have ea : a = 0 := (za.lt.mono (by omega)).nil
    have eb : b = 0 := (zb.lt.mono (by omega)).nil
    subst ea; subst eb
    have e := hm 0 0 0 (Z.zero _ _) (by omega)
    rw [gcd_zero Pl.zero, po_zero]
    rw [po_zero] at e
    have c0 : (0 : Nat) ≤ line := Nat.zero_le _
    have q : sem2 .ne (.tuple []) (.tuple []) = v1 (.bool false) := by rw [← po_zero]; exact ne_self 0
    unfold bo b_common
    simp [val, es_whl]
    rw [whileR_stop (by simp [val, q])]
    simp [val, e]
  have hBh : h ≤ cb m n h l := by
    unfold cb
    have : 1 * (h + l) ≤ (m + n) * (h + l) := Nat.mul_le_mul_right _ z0
    omega
  have c0 : (0 : Nat) ≤ line := Nat.zero_le _
  have init : ComSt h (m + n) a b := by
    by_cases a0 : a = 0
    · exact .inr (.inl a0)
    by_cases b0 : b = 0
    · exact .inl b0
    obtain ⟨da, ha⟩ := za.pl.dg a0
    obtain ⟨db, hb⟩ := zb.pl.dg b0
    have := ha.lt za.lt
    have := hb.lt zb.lt
    exact .inr (.inr ⟨a, b, da, db, ha, hb, za.hb, zb.hb, by omega, .inl ⟨rfl, rfl⟩⟩)
  generalize hBB : cb m n h l = B at *
  rw [Nat.add_mul] at hB
  unfold bo b_common
  simp [val, es_whl]
  refine whileR_then (P := fun r => outF (r.bind _) = _) (I := fun en => ∃ x y, en = [.va (po x), .va (po y)] ∧ Z (m + n) B x ∧ Z (m + n) B y ∧ gcd x y = gcd a b ∧ ComSt h (m + n) x y) (m := fun en => match en with
    | [_, .va (.tuple ds)] => ds.length
    | _ => 0) ?_ ⟨a, b, rfl, za.mono (by omega) hBh, zb.mono (by omega) hBh, rfl, init⟩
  rintro en ⟨x, y, rfl, zx, zy, hg, st⟩
  have e0 := ne_po0 zy.pl
  by_cases hy : y = 0
  · left
    subst hy
    have e1 := hm x _ _ zx (by omega)
    rw [gcd_zero zx.pl] at hg
    rw [hg] at e1
    refine ⟨by simp [val, c0, e0], by simp [val, e1]⟩
  · right
    obtain ⟨n', dy⟩ := zy.pl.dg hy
    have dl := dy.lt zy.lt
    have e1 := hp x y _ _ _ _ zx zy hy (by rw [Nat.add_mul]; omega)
    obtain ⟨e2, hr, hs⟩ := quo_rem dy zx.lt
    have zr := (Z.div zx ⟨dy.1, zy.hb⟩ dy).2
    have e3 := hm (rem x y) _ _ zr (by omega)
    obtain ⟨s1, s2⟩ := st.step zx.pl zy.pl hy (l := l) hl
    have hbr : Hb B (mon (rem x y)) := by
      rcases s2 with s2 | s2
      · rw [← hBB]; exact s2
      · exact s2.mono hBh
    refine ⟨by simp [val, c0, e0, hy], [.va (po y), .va (po (mon (rem x y)))], by simp [val, e1, e3], ⟨y, _, rfl, zy, ⟨mon_lt (hr.mono (by omega)), hbr⟩, ?_, s1⟩, ?_⟩
    · rw [← hg, gcd_step ⟨_, hs⟩ ⟨_, hr⟩ zy.pl e2]
    · have l1 := toL_le (mon_lt hr)
      have l2 := toL_len dy
      show ((toL (mon (rem x y))).map fr).length < ((toL y).map fr).length
      rw [List.length_map, List.length_map]
      omega
theorem Z.gcd {a b : PS} {m n h l : Nat} (za : Z m h a) (zb : Z n h b) (hl : 2 * (m + n) + 1 ≤ 2 ^ l) : Hb (cb m n h l) (AW.gcd a b) := by
  rcases Nat.eq_zero_or_pos (m + n) with z0 | z0
  · have ea : a = 0 := (za.lt.mono (by omega)).nil
    have eb : b = 0 := (zb.lt.mono (by omega)).nil
    subst ea; subst eb
    rw [gcd_zero Pl.zero, mon_zero]
    exact Hb.zero _
  have hBh : h ≤ cb m n h l := by
    unfold cb
    have : 1 * (h + l) ≤ (m + n) * (h + l) := Nat.mul_le_mul_right _ z0
    omega
  have go : ∀ (k : Nat) (x y : PS), Pl x → Lt y k → Hb (cb m n h l) x → Hb (cb m n h l) y → ComSt h (m + n) x y → Hb (cb m n h l) (AW.gcd x y) := by
    intro k
    induction k with
    | zero =>
      intro x y px ly hx hy st
      rw [ly.nil, gcd_zero px]
      exact hx.mon' px
    | succ k ih =>
      intro x y px ly hx hy st
      by_cases y0 : y = 0
      · rw [y0, gcd_zero px]; exact hx.mon' px
      · obtain ⟨n', dy⟩ := (show Pl y from ⟨_, ly⟩).dg y0
        have dl := dy.lt ly
        obtain ⟨mx, lx⟩ := px
        obtain ⟨e2, hr, hs⟩ := quo_rem dy lx
        obtain ⟨s1, s2⟩ := st.step ⟨_, lx⟩ dy.pl y0 (l := l) hl
        rw [gcd_step ⟨_, hs⟩ ⟨_, hr⟩ dy.pl e2]
        exact ih y (AW.mon (rem x y)) dy.pl (mon_lt (hr.mono (by omega))) hy (by
          rcases s2 with s2 | s2
          · exact s2
          · exact s2.mono hBh) s1
  refine go n a b za.pl zb.lt (za.hb.mono hBh) (zb.hb.mono hBh) ?_
  by_cases a0 : a = 0
  · exact .inr (.inl a0)
  by_cases b0 : b = 0
  · exact .inl b0
  obtain ⟨da, ha⟩ := za.pl.dg a0
  obtain ⟨db, hb⟩ := zb.pl.dg b0
  have := ha.lt za.lt
  have := hb.lt zb.lt
  exact .inr (.inr ⟨a, b, da, db, ha, hb, za.hb, zb.hb, by omega, .inl ⟨rfl, rfl⟩⟩)
end
end AW

/-! AwLw1: the laws' own products, divisions, common parts. -/
namespace AW
open PySem PySem.Spec PyProof.Rows
theorem Z.take {n h : Nat} {s : PS} (z : Z n h s) (k : Nat) : Z n h (ser ((toL s).take k)) := by
  have e : ∀ i, (ser ((toL s).take k)).f i = if i < k then s.f i else 0 := fun i => by
    rw [ser_f]
    by_cases hi : i < k
    · rw [if_pos hi, ← toL_getD z.pl]
      simp [hi]
    · rw [if_neg hi]
      have : ((toL s).take k)[i]? = none := by rw [List.getElem?_eq_none]; rw [List.length_take]; omega
      simp [this]
  refine ⟨fun i hi => ?_, ?_⟩
  · rw [e, z.lt i hi]; split <;> rfl
  · obtain ⟨K, k1, k2, k3⟩ := z.hb
    refine ⟨K, k1, k2, fun i => ?_⟩
    rw [e]
    split
    · exact k3 i
    · exact Nb.zero _ _
theorem cutL_init (xs : List D) : cutL xs none (some (-1)) = xs.dropLast := by
  unfold cutL
  simp only [HT.sIx]
  rw [if_pos (by decide), List.drop_zero, Nat.sub_zero, List.dropLast_eq_take]
  congr 1
  omega
theorem atD_mem {xs : List D} {i : Int} (h0 : 0 ≤ i) (h1 : i < xs.length) : ∃ d ∈ xs, atD xs i = v1 d := by
  have hl : i.toNat < xs.length := by omega
  refine ⟨xs[i.toNat], List.getElem_mem hl, ?_⟩
  have := atD_nat (xs := xs) (n := i.toNat) (List.getElem?_eq_getElem hl)
  rwa [Int.toNat_of_nonneg h0] at this
section
variable {G : Nat → D} {c : Nat → List Sl → R (D × Bool)} {T : List Fn} {nm : Nm}
theorem lmulZ_ok {jt ja js : Nat} (ht : SpBy c jt) (ha : SpSum c ja) (hs : SpTrim c js) {a b : PS} {m0 n0 h0 k0 l0 : Nat} (za : Z m0 h0 a) (zb : Z n0 k0 b) (hz : m0 ≤ 2 ^ l0 ∧ h0 + k0 + l0 ≤ 40000000 ∧ m0 ≤ 40000 ∧ n0 ≤ 40000) :
    bo G c T (b_law_multiplied jt ja js) [.va (po a), .va (po b)] 5 = va (po (a * b)) := by
  obtain ⟨hl, hsz, hm0, hn0⟩ := hz
  have c0 : (0 : Nat) ≤ line := Nat.zero_le _
  have c1 : (1 : Nat) ≤ line := by unfold line; omega
  have c2 : (2 : Nat) ≤ line := by unfold line; omega
  have lb := toL_le zb.lt
  have la := toL_le za.lt
  unfold bo b_law_multiplied
  simp [val, es_for, c0, ← po_zero]
  rw [enumD_map]
  refine forR_then (P := fun r => outF (r.bind _) = _) (I := fun k en => ∃ z3 z4 z5 z6, en = [.va (po a), .va (po b), .va (po (a * ser ((toL b).take k))), z3, z4, z5, z6]) ?_
    ⟨.un, .un, .un, .un, by rw [List.take_zero]; show _ = [_, _, Sl.va (po (a * 0)), _, _, _, _]; rw [show a * 0 = 0 by grind]⟩ ?_
  · rintro k en d hk ⟨z3, z4, z5, z6, rfl⟩
    rw [List.getElem?_map, enumN_get] at hk
    cases hy : (toL b)[k]? with
    | none => rw [hy] at hk; cases hk
    | some y =>
      rw [hy] at hk
      cases Option.some.inj hk
      have hkl := (List.getElem?_eq_some_iff.mp hy).1
      have ey : y = b.f k := by have := toL_get zb.pl hkl; rw [hy] at this; exact Option.some.inj this
      have by_ : Bd k0 y := by rw [ey]; exact zb.bd k
      have d1 : (k : Int) ≤ 1000000 := by omega
      have d2 : (-1000000 : Int) ≤ (k : Int) := by omega
      have d3 : k ≤ line := by unfold line; omega
      have d4 : k + (toL a).length ≤ line := by unfold line; omega
      have ok : OkL (toL a) := za.okL (by omega)
      have hc : ∀ w z5 z6, evF G c (dflT T) (.cmp (.call jt (.cons (.var 4) (.cons (.var 6) .nil)) 0) (.nm 6) (.seq (.var 0)) .none [(Nm.n 6, 6)]) [.va (po a), .va (po b), .va w, .va (.int (k : Nat)), .va (fr y), z5, z6] = .ok (.list (((toL a).map fun x => y * x).map fr), true) := fun w z5 z6 => by
        have z := cmp_of (G := G) (c := c) (dfl := dflT T) (elt := (.call jt (.cons (.var 4) (.cons (.var 6) .nil)) 0)) (tg := .nm 6) (it := .seq (.var 0)) (ifs := .none) (own := [(Nm.n 6, 6)]) (en := [.va (po a), .va (po b), .va w, .va (.int (k : Nat)), .va (fr y), z5, z6])
          (xs := toL a) (e := fr) (h := fun x => fr (y * x)) (by simp [val]) (by unfold line; omega) (fun x hx => by
            have := ht y x (Ok.of by_ (by omega)) (ok x hx)
            simp [val, wipe, this])
        rw [z, List.map_map]
        rfl
      have e1 := hs.1 (List.replicate k 0 ++ (toL a).map fun x => y * x)
      rw [List.map_append, ← rep_fr, pol_trim, ser_append, ser_zeros, ser_smul, ser_toL za.pl, List.length_replicate, show (0 : PS) + PS.X ^ k * (PS.C y * a) = PS.X ^ k * (PS.C y * a) by grind] at e1
      have zt := zb.take k
      have zr : Z (m0 + n0) (k0 + h0) (PS.X ^ k * (PS.C y * a)) := ⟨(Xpow_lt k).mul' (za.lt.smul y) (by omega), (za.hb.ofC by_).Xpow k⟩
      have zf := (za.mul zt hl).mono (n := m0 + n0) (k := h0 + k0 + l0) (by omega) (Nat.le_refl _)
      have e2 := ha.z zf (zr.mono (Nat.le_refl _) (by omega)) ⟨by omega, by omega⟩
      rw [show a * ser ((toL b).take k) + PS.X ^ k * (PS.C y * a) = a * ser ((toL b).take (k + 1)) by rw [ser_take_succ hy]; grind] at e2
      refine ⟨_, .inl ?_, .va (.int (k : Nat)), .va (fr y), .va (.list ((List.replicate k [fr 0]).flatten ++ ((toL a).map fun x => y * x).map fr)), z6, rfl⟩
      simp only [Nat.zero_add, bindT_tpt, bindTs_cons, bindT_nm, bindTs_nil, R.bind_ok, List.set_cons_succ, List.set_cons_zero]
      simp only [ess_cons, es_asg, ev_op2, rd1_rep, rd1_cmp, hc]
      simp [val, z01, c1, c2, d1, d2, d3, d4, -List.map_map] at e1 ⊢
      rw [e1]
      simp [val, e2]
  · rintro en ⟨z3, z4, z5, z6, rfl⟩
    rw [List.length_map, enumN_len, List.take_length, ser_toL zb.pl]
    simp [val]
/-- the laws' polynomial made monic -/
theorem law_monic_ok {jt jl : Nat} (ht : SpBy c jt) (hl : SpFrac c jl) {a : PS} {n h : Nat} (z : Z n h a) (l : n ≤ 40000 ∧ h ≤ 40000000) : bo G c T (b_law_monic jt jl) [.va (po a)] 1 = va (po (mon a)) := by
  have c0 : (0 : Nat) ≤ line := Nat.zero_le _
  have e0 := eq_po0 z.pl
  unfold bo b_law_monic
  by_cases h0 : a = 0
  · subst h0
    simp [val, c0, e0]
    rw [mon_zero, po_zero]
  · obtain ⟨m, hm⟩ := z.pl.dg h0
    have e1 := idx_last hm
    have hn : (a.f m).num ≠ 0 := by rw [Ne, Rat.num_eq_zero]; exact hm.2
    have e2 := hl (a.f m).den (a.f m).num hn
    rw [inv_divInt hm.2] at e2
    have b1 : Bd h (a.f m)⁻¹ := by
      have b := z.bd m
      rw [← inv_divInt hm.2]
      have := divInt_le (a := ((a.f m).den : Int)) (b := (a.f m).num) hn
      exact ⟨Nat.le_trans this.1 (by simpa using b.2), Nat.le_trans this.2 b.1⟩
    have ok := z.okL l.2
    have ll := toL_le z.lt
    simp [val, c0, e0, h0]
    rw [cmp_of (xs := toL a) (e := fr) (h := fun x => fr (x * (a.f m)⁻¹)) (by simp [val]) (by unfold line; omega) (fun x hx => by
      have := ht x (a.f m)⁻¹ (ok x hx) (Ok.of b1 l.2)
      simp [val, wipe, e1, e2, this])]
    simp
    rw [show List.map (fun x => fr (x * (a.f m)⁻¹)) (toL a) = ((toL a).map fun x => x * (a.f m)⁻¹).map fr by rw [List.map_map]; rfl]
    have e3 : (toL a).map (fun x => x * (a.f m)⁻¹) = toL (mon a) := by
      rw [toL_dg hm, toL_dg (mon_mn hm).dg, List.map_map]
      refine List.map_congr_left fun i _ => ?_
      show a.f i * (a.f m)⁻¹ = (PS.C (lc a)⁻¹ * a).f i
      rw [PS.C_mul, lc_eq hm]
      grind
    rw [e3]
    rfl
theorem law_divided_ok {jt jl js jr : Nat} (ht : SpBy c jt) (hl : SpFrac c jl) (hp : SpPlus c js) (hr : SpTrim c jr) {a b : PS} {m0 n0 h k : Nat} (za : Z m0 h a) (zb : Z n0 k b) (b0 : b ≠ 0)
    (hz : m0 ≤ 20000 ∧ n0 ≤ 20000 ∧ h + (m0 + 2) * (k + 1) ≤ 39000000) : bo G c T (b_law_divided jt jl js jr) [.va (po a), .va (po b)] 7 = va (.tuple [po (quo a b), po (rem a b)]) := by
  obtain ⟨hm0, hn0, hs⟩ := hz
  obtain ⟨n, db⟩ := zb.pl.dg b0
  have lb := toL_len db
  have la := toL_le za.lt
  have nn := db.lt zb.lt
  obtain ⟨ka, ka1, ka2, ka3⟩ := za.hb
  obtain ⟨kb, kb1, kb2, kb3⟩ := zb.hb
  obtain ⟨L, eL, bL⟩ := kb3 n
  have L0 : L ≠ 0 := fun z => by
    have := int_ne kb1
    have := db.2
    rw [z] at eL
    have eL : (kb : Rat) * b.f n = 0 := eL
    grind
  obtain ⟨g, hg'⟩ : ∃ g : Nat, g = (toL a).length - n := ⟨_, rfl⟩
  have e1 := idx_last db
  have hbn : (b.f n).num ≠ 0 := by rw [Ne, Rat.num_eq_zero]; exact db.2
  have e2 := hl (b.f n).den (b.f n).num hbn
  rw [inv_divInt db.2] at e2
  have c1 : (1 : Nat) ≤ line := by unfold line; omega
  have c2 : (2 : Nat) ≤ line := by unfold line; omega
  have c0 : (0 : Nat) ≤ line := by unfold line; omega
  have sl : sem1 .list (po a) = .ok (.list ((toL a).map fr), true) := by unfold po pol; simp
  have hgm : g * (k + 1) ≤ m0 * (k + 1) := Nat.mul_le_mul_right _ (by omega)
  rw [Nat.add_mul] at hs
  have small : ∀ {i : Nat} {x : Rat}, i ≤ g → Nb (ka * L ^ i) (2 ^ (h + i * (k + 1))) x → Bd (h + g * (k + 1)) x := fun {i x} hi w => by
    have hik : i * (k + 1) ≤ g * (k + 1) := Nat.mul_le_mul_right _ hi
    refine w.bd (Int.mul_ne_zero ka1 (Int.pow_ne_zero L0)) ?_ (Nat.pow_le_pow_right (by decide) (by omega))
    rw [Int.natAbs_mul, Int.natAbs_pow]
    refine Nat.le_trans (Nat.mul_le_mul ka2 (Nat.pow_le_pow_left bL i)) ?_
    rw [← Nat.pow_mul, ← Nat.pow_add]
    refine Nat.pow_le_pow_right (by decide) ?_
    have : k * i ≤ i * (k + 1) := by rw [Nat.mul_comm]; exact Nat.mul_le_mul_left _ (by omega)
    omega
  have bInv : Bd k (b.f n)⁻¹ := by
    have bb := zb.bd n
    rw [← inv_divInt db.2]
    have := divInt_le (a := ((b.f n).den : Int)) (b := (b.f n).num) hbn
    exact ⟨Nat.le_trans this.1 (by simpa using bb.2), Nat.le_trans this.2 bb.1⟩
  have okb := zb.okL (show k ≤ 40000000 by omega)
  unfold bo b_law_divided
  simp [val, es_whl, c0, sl]
  refine whileR_then (P := fun r => outF (r.bind _) = _) (I := fun en => ∃ Rl Ol p z4 z5 z6 z7 z8, en = [.va (po a), .va (po b), .va (.list (List.map fr Rl)), .va (.list (List.map fr Ol)), z4, z5, z6, z7, z8] ∧ p ≤ g ∧ (Rl.length = p + n ∨ (p = 0 ∧ Rl.length ≤ n)) ∧ Ol.length = g - p ∧ DivSt a b n g ka kb L h k p (ser Rl) (PS.X ^ p * ser Ol))
    (m := fun en => match en with
    | [_, _, .va (.list ds), _, _, _, _, _, _] => ds.length
    | _ => 0) ?_
    ⟨toL a, [], g, .un, .un, .un, .un, .un, rfl, Nat.le_refl _, by omega, by simp, by
      rw [ser_toL za.pl]
      show DivSt a b n g ka kb L h k g a (PS.X ^ g * 0)
      rw [show PS.X ^ g * (0 : PS) = 0 by grind]
      exact DivSt.init ((toL_lt za.pl).mono (by omega)) ka3⟩
  rintro en ⟨Rl, Ol, p, z4, z5, z6, z7, z8, rfl, pg, lR, lO, st⟩
  cases p with
  | zero =>
    left
    refine ⟨by simp [val, lb]; omega, ?_⟩
    have st2 := st.ltR
    rw [Nat.zero_add] at st2
    have eS : (PS.X ^ 0 : PS) * ser Ol = ser Ol := by grind
    obtain ⟨u1, u2⟩ := quo_eq db (pl_ser Ol) st2 (show a = ser Ol * b + ser Rl by rw [st.eq]; grind)
    have q1 := hr.1 Ol
    have q2 := hr.1 Rl
    rw [pol_trim, ← u1] at q1
    rw [pol_trim, ← u2] at q2
    simp [val, q1, q2, c2]
  | succ p =>
    right
    have lR : Rl.length = p + 1 + n := by omega
    have st2 := st.step (by omega) db kb3 eL bL kb2
    have eT : Rl = Rl.dropLast ++ [(ser Rl).f (p + n)] := by
      have hne : Rl ≠ [] := fun e => by rw [e] at lR; rw [List.length_nil] at lR; omega
      have := List.dropLast_concat_getLast hne
      have hg : Rl.getLast hne = (ser Rl).f (p + n) := by
        rw [List.getLast_eq_getElem, ser_f, List.getD_eq_getElem?_getD, List.getElem?_eq_getElem (by omega)]
        simp [lR, show p + 1 + n - 1 = p + n by omega]
      rw [← hg]
      exact this.symm
    have eT' : atD (Rl.map fr) (-1) = v1 (fr ((ser Rl).f (p + n))) := by
      conv => lhs; rw [eT]
      rw [List.map_append]
      exact atD_last
    have bT : Bd (h + g * (k + 1)) ((ser Rl).f (p + n)) := small (i := g - (p + 1)) (by omega) (st.wR _)
    have eB := ht _ _ (Ok.of bT (by omega)) (Ok.of bInv (by omega))
    have bN : Bd (h + g * (k + 1)) ((ser Rl).f (p + n) * (b.f n)⁻¹) := by
      have := small (i := g - p) (by omega) (st2.wS p)
      rw [PS.add_f, PS.C_mul, Xpow_f, if_pos rfl, st.low p (by omega)] at this
      rw [show (ser Rl).f (p + n) * (b.f n)⁻¹ = 0 + (ser Rl).f (p + n) * (b.f n)⁻¹ * 1 by grind]
      exact this
    have bR : ∀ i, Bd (h + g * (k + 1)) ((ser Rl).f i) := fun i => small (i := g - (p + 1)) (by omega) (st.wR i)
    generalize hN : (ser Rl).f (p + n) * (b.f n)⁻¹ = N at *
    have eNeg : PyData.tuple [.int (-N.num), .int (N.den : Int)] = fr (-N) := by unfold fr; rw [Rat.neg_num, Rat.neg_den]
    have bNeg : Bd (h + g * (k + 1)) (-N) := ⟨by rw [Rat.neg_num, Int.natAbs_neg]; exact bN.1, by rw [Rat.neg_den]; exact bN.2⟩
    have lbk : (toL b).length ≤ line := by unfold line; omega
    have lRl : Rl.length ≤ line := by unfold line; omega
    have hc1 : ∀ z2 z3 z5 z6 z7 z8, evF G c (dflT T) (.cmp (.call jt (.cons (.tup (.cons (.op1 .neg (.op2 .idx (.var 4) (.con (.int 0)))) (.cons (.op2 .idx (.var 4) (.con (.int 1))) .nil))) (.cons (.var 7) .nil)) 0) (.nm 7) (.seq (.var 1)) .none [(Nm.n 7, 7)]) [.va (po a), .va (po b), z2, z3, .va (fr N), z5, z6, z7, z8]
        = .ok (.list ((toL b).map fun x => fr (-N * x)), true) := fun z2 z3 z5 z6 z7 z8 => by
      refine cmp_of (xs := toL b) (e := fr) (h := fun x => fr (-N * x)) (by simp [val]) lbk (fun x hx => ?_)
      have := ht (-N) x (Ok.of bNeg (by omega)) (okb x hx)
      simp [val, wipe, c2, eNeg, this]
    let R2 : List Rat := (enumN 0 Rl).map fun z => if p ≤ z.1 then z.2 + -N * b.f (z.1 - p) else z.2
    have hc2 : ∀ z3 z7 z8, evF G c (dflT T) (.cmp (.ife (.op2 .ge (.var 8) (.var 5)) (.call js (.cons (.var 7) (.cons (.op2 .idx (.var 6) (.op2 .sub (.var 8) (.var 5))) .nil)) 0) (.var 7)) (.tp (.cons (.nm 8) (.cons (.nm 7) .nil))) (.enum (.var 2)) .none [(Nm.n 8, 8), (Nm.n 7, 7)]) [.va (po a), .va (po b), .va (.list (Rl.map fr)), z3, .va (fr N), .va (.int (p : Nat)), .va (.list ((toL b).map fun x => fr (-N * x))), z7, z8]
        = .ok (.list (R2.map fr), true) := fun z3 z7 z8 => by
      have := cmp_of (G := G) (c := c) (dfl := dflT T) (elt := (.ife (.op2 .ge (.var 8) (.var 5)) (.call js (.cons (.var 7) (.cons (.op2 .idx (.var 6) (.op2 .sub (.var 8) (.var 5))) .nil)) 0) (.var 7))) (tg := (.tp (.cons (.nm 8) (.cons (.nm 7) .nil)))) (it := (.enum (.var 2))) (ifs := .none) (own := [(Nm.n 8, 8), (Nm.n 7, 7)])
        (en := [.va (po a), .va (po b), .va (.list (Rl.map fr)), z3, .va (fr N), .va (.int (p : Nat)), .va (.list ((toL b).map fun x => fr (-N * x))), z7, z8])
        (xs := enumN 0 Rl) (e := fun z => .tuple [.int (z.1 : Nat), fr z.2]) (h := fun z => fr (if p ≤ z.1 then z.2 + -N * b.f (z.1 - p) else z.2)) (by simp [val]; rw [enumD_map]) (by rw [enumN_len]; exact lRl) (fun z hz => ?_)
      · rw [this]
        show _ = R.ok (PyData.list (List.map fr (List.map _ _)), true)
        rw [List.map_map]
        rfl
      · obtain ⟨i, hi⟩ := List.mem_iff_getElem?.mp hz
        rw [enumN_get] at hi
        cases hx : Rl[i]? with
        | none => rw [hx] at hi; cases hi
        | some x =>
          rw [hx] at hi
          have hi : (0 + i, x) = z := Option.some.inj hi
          subst hi
          rw [Nat.zero_add]
          have hil := (List.getElem?_eq_some_iff.mp hx).1
          have ex : x = (ser Rl).f i := by rw [ser_f, List.getD_eq_getElem?_getD, hx]; rfl
          by_cases hpi : p ≤ i
          · have ed : ((i : Int) - (p : Int)) = ((i - p : Nat) : Int) := by omega
            have lt : i - p < (toL b).length := by omega
            have et : ((toL b).map fun x => fr (-N * x))[i - p]? = some (fr (-N * b.f (i - p))) := by rw [List.getElem?_map, toL_get zb.pl lt]; rfl
            have et' := atD_nat et
            have bb := bNeg.mul (zb.bd (i - p))
            have := hp x (-N * b.f (i - p)) (by rw [ex]; exact Ok.of (bR i) (by omega)) (Ok.of bb (by omega))
            simp [val, wipe, hpi, ed, et', this]
          · simp [val, wipe, hpi]
    have lR2 : R2.length = p + 1 + n := by show ((enumN 0 Rl).map _).length = _; rw [List.length_map, enumN_len, lR]
    have sR2 : ser R2.dropLast = ser Rl - PS.C N * (PS.X ^ p * b) := by
      refine Lt.ext (n := p + n) ?_ st2.ltR ?_
      · have := lt_ser R2.dropLast
        rw [List.length_dropLast, lR2] at this
        exact this.mono (by omega)
      · intro i hi
        have h1 : R2.dropLast[i]? = some (if p ≤ i then (ser Rl).f i + -N * b.f (i - p) else (ser Rl).f i) := by
          rw [List.getElem?_dropLast, if_pos (by omega)]
          show ((enumN 0 Rl).map _)[i]? = _
          rw [List.getElem?_map, enumN_get, List.getElem?_eq_getElem (by omega)]
          have : Rl[i]'(by omega) = (ser Rl).f i := by rw [ser_f, List.getD_eq_getElem?_getD, List.getElem?_eq_getElem (by omega)]; rfl
          simp [this]
        rw [ser_f, List.getD_eq_getElem?_getD, h1, PS.sub_f, PS.C_mul, Xpow_mul]
        show (if p ≤ i then (ser Rl).f i + -N * b.f (i - p) else (ser Rl).f i) = _
        split <;> grind
    have sO : (PS.X ^ p : PS) * ser (N :: Ol) = PS.X ^ (p + 1) * ser Ol + PS.C N * PS.X ^ p := by
      show PS.X ^ p * (PS.C N + PS.X * ser Ol) = _
      grind
    have lO1 : 1 + Ol.length ≤ line := by unfold line; omega
    refine ⟨by simp [val, lb, lR]; omega, [.va (po a), .va (po b), .va (.list (R2.dropLast.map fr)), .va (.list ((N :: Ol).map fr)), .va (fr N), .va (.int (p : Nat)), .va (.list ((toL b).map fun x => fr (-N * x))), z7, z8], ?_, ⟨R2.dropLast, N :: Ol, p, _, _, _, _, _, rfl, by omega, .inl ?_, ?_, ?_⟩, ?_⟩
    · have ei : ((p : Int) + 1 + (n : Int) - ((n : Int) + 1)) = (p : Int) := by omega
      have ecut : semSl (.list (R2.map fr)) none (some (-1)) = .ok (.list (R2.dropLast.map fr), true) := by
        show R.ok (PyData.list (cutL _ _ _), true) = _
        rw [cutL_init, List.map_dropLast]
      simp [val, eT', e1, e2, eB, c1, lO1, lb, lR, ei, hc1, hc2, ecut]
    · rw [List.length_dropLast, lR2]; omega
    · rw [List.length_cons, lO]; omega
    · rw [sR2, sO]
      exact st2
    · show (R2.dropLast.map fr).length < (Rl.map fr).length
      rw [List.length_map, List.length_map, List.length_dropLast, lR2, lR]
      omega
end
end AW

/-! AwK12: the law of common parts. -/
namespace AW
open PySem PySem.Spec PyProof.Rows
theorem compL_fm {α : Type} {f : D → R (Option D)} {e : α → D} {g : α → Option D} : ∀ {xs : List α}, (∀ x ∈ xs, f (e x) = .ok (g x)) → compL f (xs.map e) = .ok (xs.filterMap g)
  | [], _ => rfl
  | x :: xs, hx => by
    show (f (e x)).bind _ = _
    rw [hx x List.mem_cons_self]
    show (compL f (xs.map e)).bind _ = _
    rw [compL_fm fun y hy => hx y (List.mem_cons_of_mem _ hy)]
    cases h : g x <;> simp [h, consO]
theorem cmp_fm {G : Nat → D} {c : Nat → List Sl → R (D × Bool)} {dfl : Nat → Nat → List D} {elt : E} {tg : Tg} {it : It} {ifs : Eo} {own : List (Str × Nat)} {en : En} {α : Type} {xs : List α} {e : α → D} {g : α → Option D} (hi : evI G c dfl it en = .ok (xs.map e)) (hl : xs.length ≤ line)
    (hx : ∀ x ∈ xs, ((bindT tg (e x) (wipe en (own.map (·.2)))).bind fun en' => (evB G c dfl ifs en').nox.bind fun b => if b then (evF G c dfl elt en').nox.bind fun y => .ok (some y.1) else .ok none) = .ok (g x)) :
    evF G c dfl (.cmp elt tg it ifs own) en = .ok (.list (xs.filterMap g), true) := by
  rw [ev_cmp, hi]
  show ((compL _ (xs.map e)).bind _) = _
  rw [compL_fm hx]
  show (if (xs.map e).length ≤ line then _ else _) = _
  rw [if_pos (by rw [List.length_map]; exact hl)]
def Mk (x : Int) : Prop := 0 ≤ x ∧ x < 2147483629
section
variable {G : Nat → D} {c : Nat → List Sl → R (D × Bool)} {T : List Fn} {nm : Nm}
def SpMarks (c : Nat → List Sl → R (D × Bool)) (j : Nat) : Prop := ∀ (ns : List Int) (n : Nat), ns.length ≤ 1000 → n ≤ 1000 → ∃ ms : List Int, ms.length = n ∧ (∀ m ∈ ms, Mk m) ∧ c j [.va (.list (ns.map .int)), .va (.int (n : Nat))] = .ok (.list (ms.map .int), true)
theorem marks_ok {jm : Nat} (hm : SpMix c jm) (ns : List Int) (n : Nat) (l1 : ns.length ≤ 1000) (l2 : n ≤ 1000) : ∃ ms : List Int, ms.length = n ∧ (∀ m ∈ ms, Mk m) ∧ bo G c T (b_law_marks jm) [.va (.list (ns.map .int)), .va (.int (n : Nat))] 3 = .ok (.list (ms.map .int), true) := by
  have p60 : (2 : Nat) ^ 60 = 1152921504606846976 := by decide
  have key : ∀ z2 : Sl, ∃ w : Int, ∃ z3 z4, forR (bindT (.tp (.cons (.nm 3) (.cons (.nm 4) .nil)))) (evSs G c (dflT T) (.cons (.asg (.nm 2) (.call jm (.cons (.op2 .add (.var 2) (.var 4)) (.cons (.var 3) .nil)) 0)) .nil)) (enumD (ns.map .int)) [.va (.list (ns.map .int)), .va (.int (n : Nat)), .va (.int 1), .un, .un]
      = .ok (.nx [.va (.list (ns.map .int)), .va (.int (n : Nat)), .va (.int w), z3, z4]) := fun _ => by
    rw [enumD_map]
    obtain ⟨en', h1, w, z3, z4, rfl⟩ := forR_ex (g := bindT (.tp (.cons (.nm 3) (.cons (.nm 4) .nil)))) (b := evSs G c (dflT T) (.cons (.asg (.nm 2) (.call jm (.cons (.op2 .add (.var 2) (.var 4)) (.cons (.var 3) .nil)) 0)) .nil))
      (ds := (enumN 0 ns).map fun p => PyData.tuple [.int (p.1 : Nat), .int p.2]) (en := [.va (.list (ns.map .int)), .va (.int (n : Nat)), .va (.int 1), .un, .un]) (Q := fun en => ∃ w : Int, ∃ z3 z4, en = [.va (.list (ns.map .int)), .va (.int (n : Nat)), .va (.int w), z3, z4])
      (I := fun i en => ∃ w : Int, ∃ z3 z4, en = [.va (.list (ns.map .int)), .va (.int (n : Nat)), .va (.int w), z3, z4]) ⟨1, .un, .un, rfl⟩ (fun i en d hi ⟨w, z3, z4, he⟩ => by
        subst he
        rw [List.getElem?_map, enumN_get] at hi
        cases hx : ns[i]? with
        | none => rw [hx] at hi; cases hi
        | some x =>
          rw [hx] at hi
          cases Option.some.inj hi
          have hil := (List.getElem?_eq_some_iff.mp hx).1
          have e1 := hm (w + x) ((0 + i : Nat) : Int) (by omega)
          generalize 0 + i = k at *
          exact ⟨[.va (.list (ns.map .int)), .va (.int (n : Nat)), .va (.int (mixV (w + x) (k : Int))), .va (.int (k : Int)), .va (.int x)], .inl (by simp [val, e1]), _, _, _, rfl⟩) (fun en h => h)
    exact ⟨w, z3, z4, h1⟩
  obtain ⟨w, z3, z4, hk⟩ := key .un
  refine ⟨(List.range n).map fun (k : Nat) => mixV w (300 + (k : Int)), by simp, fun m hm => ?_, ?_⟩
  · obtain ⟨k, _, rfl⟩ := List.mem_map.mp hm
    exact mixV_nn _ _
  · unfold bo b_law_marks
    simp [val, es_for]
    rw [hk]
    simp
    rw [cmp_of (xs := List.range n) (e := fun (k : Nat) => .int (k : Int)) (h := fun (k : Nat) => .int (mixV w (300 + (k : Int)))) (by simp [val, rngR_nat n (by omega)]) (by rw [List.length_range]; unfold line; omega) (fun k hk => by
      have hk := List.mem_range.mp hk
      have e1 := hm w (300 + (k : Int)) (by omega)
      simp [val, wipe, e1])]
    simp [Function.comp_def]
/-- a small monic polynomial of degree one or two -/
def SpFactor (c : Nat → List Sl → R (D × Bool)) (j : Nat) : Prop := ∀ x : Int, 0 ≤ x → ∃ a m, Mn a m ∧ 1 ≤ m ∧ m ≤ 2 ∧ Hb 12 a ∧ c j [.va (.int x)] = va (po a)
theorem pol_snoc1 (p : List Rat) : pol (p ++ [1]) = po (ser (p ++ [1])) := by rw [← pol_trim, trim_snoc, if_neg (by decide)]
theorem mn_snoc1 (p : List Rat) : Mn (ser (p ++ [1])) p.length := ⟨by have := lt_ser (p ++ [1]); simpa using this, by rw [ser_f]; simp⟩
theorem factor_ok {jl : Nat} (hl : SpFrac c jl) (x : Int) (hx : 0 ≤ x) : ∃ a m, Mn a m ∧ 1 ≤ m ∧ m ≤ 2 ∧ Hb 12 a ∧ bo G c T (b_law_factor jl) [.va (.int x)] 1 = va (po a) := by
  have q1 : (x.fdiv 8).fmod 9 = x / 8 % 9 := by rw [Int.fdiv_eq_ediv_of_nonneg _ (by decide), Int.fmod_eq_emod_of_nonneg _ (by decide)]
  have q2 : (x.fdiv 72).fmod 2 = x / 72 % 2 := by rw [Int.fdiv_eq_ediv_of_nonneg _ (by decide), Int.fmod_eq_emod_of_nonneg _ (by decide)]
  have q3 : (x.fdiv 144).fmod 7 = x / 144 % 7 := by rw [Int.fdiv_eq_ediv_of_nonneg _ (by decide), Int.fmod_eq_emod_of_nonneg _ (by decide)]
  have q4 : x.fmod 8 = x % 8 := by rw [Int.fmod_eq_emod_of_nonneg _ (by decide)]
  have hu : (1 + x / 72 % 2) ≠ 0 := by omega
  have e1 := hl (x / 8 % 9 - 4) (1 + x / 72 % 2) hu
  have e2 := hl (x / 144 % 7 - 3) 1 (by decide)
  have b1 : Bd 3 (Rat.divInt (x / 8 % 9 - 4) (1 + x / 72 % 2)) := Bd.div hu (by omega) (by omega)
  have b2 : Bd 3 (Rat.divInt (x / 144 % 7 - 3) 1) := Bd.div (by decide) (by omega) (by decide)
  generalize Rat.divInt (x / 8 % 9 - 4) (1 + x / 72 % 2) = f at *
  generalize Rat.divInt (x / 144 % 7 - 3) 1 = g at *
  obtain ⟨d, hd, ed⟩ := atD_mem (xs := [.int 1, .int 1, .int 1, .int 2, .int 2, .int 1, .int 2, .int 1]) (i := x % 8) (by omega) (by simp; omega)
  have hd : d = .int 1 ∨ d = .int 2 := by
    simp at hd
    grind
  have c8 : (8 : Nat) ≤ line := by unfold line; omega
  have c1 : (1 : Nat) ≤ line := by unfold line; omega
  have c2 : (2 : Nat) ≤ line := by unfold line; omega
  have c3 : (3 : Nat) ≤ line := by unfold line; omega
  have z11 : PyData.tuple [.int 1, .int 1] = fr 1 := rfl
  rcases hd with rfl | rfl
  · refine ⟨ser ([f] ++ [1]), 1, mn_snoc1 [f], by omega, by omega, (Hb.ser (b := 3) (BdL.cons b1 (BdL.cons (Bd.one _) (BdL.nil _)))).mono (by simp), ?_⟩
    have ec : cutL [fr f, fr g] none (some 1) = [fr f] := rfl
    rw [← pol_snoc1]
    unfold bo b_law_factor
    simp [val, q1, q2, q3, q4, e1, e2, ed, c8, c1, c2, c3, semSl, ec, z11]
    rfl
  · refine ⟨ser ([f, g] ++ [1]), 2, mn_snoc1 [f, g], by omega, by omega, (Hb.ser (b := 3) (BdL.cons b1 (BdL.cons b2 (BdL.cons (Bd.one _) (BdL.nil _))))).mono (by simp), ?_⟩
    have ec : cutL [fr f, fr g] none (some 2) = [fr f, fr g] := rfl
    rw [← pol_snoc1]
    unfold bo b_law_factor
    simp [val, q1, q2, q3, q4, e1, e2, ed, c8, c1, c2, c3, semSl, ec, z11]
    rfl
/-- the product of a list -/
def prd : List PS → PS
  | [] => 1
  | a :: as => a * prd as
theorem prd_snoc (as : List PS) (a : PS) : prd (as ++ [a]) = prd as * a := by
  induction as with
  | nil => show a * 1 = 1 * a; grind
  | cons b as ih => show b * prd (as ++ [a]) = b * prd as * a; rw [ih]; grind
def SpProdOf (c : Nat → List Sl → R (D × Bool)) (j : Nat) : Prop := ∀ (as : List PS) (n h : Nat), (∀ a ∈ as, Z (n + 1) h a) → as.length ≤ 100 ∧ (as.length * n + 1) ≤ 2 ^ 12 ∧ as.length * (h + 12) ≤ 4000000 ∧ n ≤ 10000 → c j [.va (.list (as.map po))] = va (po (prd as)) ∧ Z (as.length * n + 1) (as.length * (h + 12)) (prd as)
theorem product_of_ok {jm : Nat} (hm : SpProdZ c jm) {as : List PS} {n h : Nat} (hz : ∀ a ∈ as, Z (n + 1) h a) (hs : as.length ≤ 100 ∧ (as.length * n + 1) ≤ 2 ^ 12 ∧ as.length * (h + 12) ≤ 4000000 ∧ n ≤ 10000) :
    bo G c T (b_law_product_of jm) [.va (.list (as.map po))] 2 = va (po (prd as)) ∧ Z (as.length * n + 1) (as.length * (h + 12)) (prd as) := by
  obtain ⟨hl, h1, h2, h3⟩ := hs
  have zp : ∀ i, i ≤ as.length → Z (i * n + 1) (i * (h + 12)) (prd (as.take i)) := fun i => by
    induction i with
    | zero => intro _; rw [List.take_zero]; exact Z.one _ _ (by omega)
    | succ i ih =>
      intro hi
      have z1 := ih (by omega)
      have e : as.take (i + 1) = as.take i ++ [as[i]'(by omega)] := by rw [List.take_succ, List.getElem?_eq_getElem (by omega)]; rfl
      rw [e, prd_snoc]
      have m1 : i * n ≤ as.length * n := Nat.mul_le_mul_right _ (by omega)
      refine (z1.mul (hz _ (List.getElem_mem _)) (l := 12) (by omega)).mono ?_ ?_
      · rw [Nat.add_mul]; omega
      · rw [Nat.add_mul]; omega
  constructor
  · have c1 : (1 : Nat) ≤ line := by unfold line; omega
    have c2 : (2 : Nat) ≤ line := by unfold line; omega
    have z11 : PyData.tuple [.int 1, .int 1] = fr 1 := rfl
    unfold bo b_law_product_of
    simp [val, es_for, c1, c2, z11, ← po_one]
    refine forR_then (P := fun r => outF (r.bind _) = _) (I := fun i en => ∃ z, en = [.va (.list (as.map po)), .va (po (prd (as.take i))), z]) ?_ ⟨.un, rfl⟩ ?_
    · rintro i en d hi ⟨z, rfl⟩
      rw [List.getElem?_map] at hi
      cases hx : as[i]? with
      | none => rw [hx] at hi; cases hi
      | some a =>
        rw [hx] at hi
        cases Option.some.inj hi
        have hil := (List.getElem?_eq_some_iff.mp hx).1
        have m1 : i * n ≤ as.length * n := Nat.mul_le_mul_right _ (by omega)
        have m2 : (i + 1) * (h + 12) ≤ as.length * (h + 12) := Nat.mul_le_mul_right _ (by omega)
        rw [Nat.add_mul] at m2
        have e1 := hm (prd (as.take i)) a _ _ _ _ 12 (zp i (by omega)) (hz a (List.mem_of_getElem? hx)) ⟨by omega, by omega, by omega, by omega⟩
        refine ⟨[.va (.list (as.map po)), .va (po (prd (as.take i) * a)), .va (po a)], .inl (by simp [val, e1]), .va (po a), ?_⟩
        rw [List.take_succ, hx]
        show _ = [_, Sl.va (po (prd (as.take i ++ [a]))), _]
        rw [prd_snoc]
    · rintro en ⟨z, rfl⟩
      rw [List.length_map, List.take_length]
      simp [val]
  · have := zp as.length (Nat.le_refl _)
    rw [List.take_length] at this
    exact this
/-- some of four -/
def SpSome (c : Nat → List Sl → R (D × Bool)) (j : Nat) : Prop := ∀ (ds : List D) (x : Int), ds.length = 4 → ∃ es : List D, (∀ e ∈ es, e ∈ ds) ∧ es.length ≤ 4 ∧ c j [.va (.list ds), .va (.int x)] = .ok (.list es, true)
theorem some_ok (ds : List D) (x : Int) (h : ds.length = 4) : ∃ es : List D, (∀ e ∈ es, e ∈ ds) ∧ es.length ≤ 4 ∧ bo G c T b_law_some [.va (.list ds), .va (.int x)] 1 = .ok (.list es, true) := by
  have c4 : (4 : Nat) ≤ line := by unfold line; omega
  let g : Nat → Option D := fun k => if (x.fdiv ([2, 4, 8, 16].getD k 1)).fmod 2 = 1 then ds[k]? else none
  refine ⟨(List.range 4).filterMap g, fun e he => ?_, Nat.le_trans (List.length_filterMap_le _ _) (by simp), ?_⟩
  · obtain ⟨k, _, hk⟩ := List.mem_filterMap.mp he
    have hk : (if (x.fdiv ([2, 4, 8, 16].getD k 1)).fmod 2 = 1 then ds[k]? else none) = some e := hk
    split at hk
    · exact List.mem_of_getElem? hk
    · cases hk
  · have hr := rngR_nat 4 (by decide)
    have hr' : rngR 0 4 = .ok ((List.range 4).map fun (k : Nat) => .int (k : Int)) := hr
    unfold bo b_law_some
    simp
    rw [cmp_fm (xs := List.range 4) (e := fun (k : Nat) => .int (k : Int)) (g := g) (by simp [hr']) (by simp; omega) (fun k hk => by
      have hk := List.mem_range.mp hk
      obtain ⟨d, hd⟩ : ∃ d, ds[k]? = some d := ⟨ds[k], List.getElem?_eq_getElem (by omega)⟩
      have e1 := atD_nat hd
      have e2 : atD [PyData.int 2, .int 4, .int 8, .int 16] (k : Int) = v1 (.int ([2, 4, 8, 16].getD k 1)) := by
        refine atD_nat ?_
        have hk' : k = 0 ∨ k = 1 ∨ k = 2 ∨ k = 3 := by omega
        rcases hk' with rfl | rfl | rfl | rfl <;> rfl
      have e3 : ([2, 4, 8, 16].getD k 1 : Int) ≠ 0 := by
        have hk' : k = 0 ∨ k = 1 ∨ k = 2 ∨ k = 3 := by omega
        rcases hk' with rfl | rfl | rfl | rfl <;> decide
      show _ = R.ok (if (x.fdiv ([2, 4, 8, 16].getD k 1)).fmod 2 = 1 then ds[k]? else none)
      generalize ([2, 4, 8, 16].getD k 1 : Int) = m at *
      by_cases hz : (x.fdiv m).fmod 2 = 1
      · rw [if_pos hz, hd]
        simp [val, wipe, c4, e1, e2, e3, hz]
      · rw [if_neg hz]
        simp [val, wipe, c4, e1, e2, e3, hz])]
    simp
end
end AW

/-! AwK12b: two drawn polynomials; the law of common parts. -/
namespace AW
open PySem PySem.Spec PyProof.Rows
theorem list_choice {P : PS → Prop} : ∀ {es : List D}, (∀ e ∈ es, ∃ a, P a ∧ e = po a) → ∃ as : List PS, es = as.map po ∧ ∀ a ∈ as, P a
  | [], _ => ⟨[], rfl, fun a h => by cases h⟩
  | e :: es, h => by
    obtain ⟨a, ha, rfl⟩ := h e List.mem_cons_self
    obtain ⟨as, rfl, has⟩ := list_choice fun x hx => h x (List.mem_cons_of_mem _ hx)
    exact ⟨a :: as, rfl, fun b hb => by
      rcases List.mem_cons.mp hb with rfl | hb
      · exact ha
      · exact has b hb⟩
/-- a polynomial that is a number that isn't nought -/
theorem tup_C {f : Rat} (h : f ≠ 0) : PyData.tuple [fr f] = po (PS.C f) := (po_C h).symm
theorem Z.C {f : Rat} {b : Nat} (h : Bd b f) : Z 1 b (PS.C f) := ⟨Lt.C f, Hb.C h⟩
theorem divInt_ne {a b : Int} (ha : a ≠ 0) (hb : b ≠ 0) : Rat.divInt a b ≠ 0 := by
  rw [Rat.divInt_eq_div]
  have h1 := int_ne ha
  have h2 := int_ne hb
  grind
section
variable {G : Nat → D} {c : Nat → List Sl → R (D × Bool)} {T : List Fn} {nm : Nm}
def SpTwo (c : Nat → List Sl → R (D × Bool)) (j : Nat) : Prop := ∀ x : Int, 0 ≤ x → ∃ a b, Z 10 200 a ∧ Z 10 200 b ∧ c j [.va (.int x)] = va (.tuple [po a, po b])
theorem two_ok {jf jm jp js jt jl : Nat} (hf : SpFactor c jf) (hm : SpMix c jm) (hp : SpProdOf c jp) (hs : SpSome c js) (ht : SpProdZ c jt) (hl : SpFrac c jl) (x : Int) (hx : 0 ≤ x) :
    ∃ a b, Z 10 200 a ∧ Z 10 200 b ∧ bo G c T (b_law_two jf jm jp js jt jl) [.va (.int x)] 4 = va (.tuple [po a, po b]) := by
  have h' : ∀ x : Int, ∃ a, 0 ≤ x → Z 3 12 a ∧ c jf [.va (.int x)] = va (po a) := fun x => by
    by_cases h : 0 ≤ x
    · obtain ⟨a, m, h1, h2, h3, h4, h5⟩ := hf x h
      exact ⟨a, fun _ => ⟨⟨h1.1.mono (by omega), h4⟩, h5⟩⟩
    · exact ⟨0, fun z => absurd z h⟩
  obtain ⟨F, hF⟩ := Classical.axiomOfChoice h'
  let ds : List D := (List.range 4).map fun (k : Nat) => po (F (mixV x (k : Int)))
  have hds : ∀ e ∈ ds, ∃ a, Z 3 12 a ∧ e = po a := fun e he => by
    obtain ⟨k, hk, rfl⟩ := List.mem_map.mp he
    exact ⟨_, (hF _ (mixV_nn x k).1).1, rfl⟩
  obtain ⟨es1, u1, u2, u3⟩ := hs ds x (by simp [ds])
  obtain ⟨es2, v1_, v2, v3⟩ := hs ds (x.fdiv 16) (by simp [ds])
  obtain ⟨as1, rfl, a1⟩ := list_choice fun e he => hds e (u1 e he)
  obtain ⟨as2, rfl, a2⟩ := list_choice fun e he => hds e (v1_ e he)
  rw [List.length_map] at u2 v2
  have n1 : as1.length * 2 ≤ 4 * 2 := Nat.mul_le_mul_right _ u2
  have n2 : as2.length * 2 ≤ 4 * 2 := Nat.mul_le_mul_right _ v2
  have n3 : as1.length * (12 + 12) ≤ 4 * (12 + 12) := Nat.mul_le_mul_right _ u2
  have n4 : as2.length * (12 + 12) ≤ 4 * (12 + 12) := Nat.mul_le_mul_right _ v2
  obtain ⟨p1, z1⟩ := hp as1 2 12 a1 ⟨by omega, by omega, by omega, by omega⟩
  obtain ⟨p2, z2⟩ := hp as2 2 12 a2 ⟨by omega, by omega, by omega, by omega⟩
  -- the numbers
  have q1 : (x.fdiv 512).fmod 4 = x / 512 % 4 := by rw [Int.fdiv_eq_ediv_of_nonneg _ (by decide), Int.fmod_eq_emod_of_nonneg _ (by decide)]
  have q2 : (x.fdiv 2048).fmod 3 = x / 2048 % 3 := by rw [Int.fdiv_eq_ediv_of_nonneg _ (by decide), Int.fmod_eq_emod_of_nonneg _ (by decide)]
  have q3 : (x.fdiv 6144).fmod 3 = x / 6144 % 3 := by rw [Int.fdiv_eq_ediv_of_nonneg _ (by decide), Int.fmod_eq_emod_of_nonneg _ (by decide)]
  have q4 : (x.fdiv 18432).fmod 6 = x / 18432 % 6 := by rw [Int.fdiv_eq_ediv_of_nonneg _ (by decide), Int.fmod_eq_emod_of_nonneg _ (by decide)]
  obtain ⟨d1, hd1, ed1⟩ := atD_mem (xs := [.int 1, .int (-2), .int 3, .int 5]) (i := x / 512 % 4) (by omega) (by simp; omega)
  obtain ⟨d2, hd2, ed2⟩ := atD_mem (xs := [.int 1, .int 7, .int (-1)]) (i := x / 6144 % 3) (by omega) (by simp; omega)
  obtain ⟨i1, rfl, j1, j2⟩ : ∃ i : Int, d1 = .int i ∧ i ≠ 0 ∧ i.natAbs ≤ 2 ^ 3 := by
    simp at hd1
    rcases hd1 with rfl | rfl | rfl | rfl <;> exact ⟨_, rfl, by decide, by decide⟩
  obtain ⟨i2, rfl, j3, j4⟩ : ∃ i : Int, d2 = .int i ∧ i ≠ 0 ∧ i.natAbs ≤ 2 ^ 3 := by
    simp at hd2
    rcases hd2 with rfl | rfl | rfl <;> exact ⟨_, rfl, by decide, by decide⟩
  have g0 : (1 + x / 2048 % 3) ≠ 0 := by omega
  have g1 := hl i1 (1 + x / 2048 % 3) g0
  have g2 := hl i2 2 (by decide)
  have f1 := divInt_ne j1 g0
  have f2 := divInt_ne (b := 2) j3 (by decide)
  have b1 : Bd 3 (Rat.divInt i1 (1 + x / 2048 % 3)) := Bd.div g0 j2 (by omega)
  have b2 : Bd 3 (Rat.divInt i2 2) := Bd.div (by decide) j4 (by decide)
  generalize Rat.divInt i1 (1 + x / 2048 % 3) = r1 at *
  generalize Rat.divInt i2 2 = r2 at *
  have y1 : Z 9 96 (prd as1) := z1.mono (by omega) (by omega)
  have y2 : Z 9 96 (prd as2) := z2.mono (by omega) (by omega)
  have m1 := ht _ _ _ _ _ _ 4 y1 (Z.C b1) (by decide)
  have m2 := ht _ _ _ _ _ _ 4 y2 (Z.C b2) (by decide)
  have w1 := (y1.mul (Z.C b1) (l := 4) (by decide)).mono (n := 10) (k := 200) (by decide) (by decide)
  have w2 := (y2.mul (Z.C b2) (l := 4) (by decide)).mono (n := 10) (k := 200) (by decide) (by decide)
  rw [po_C f1] at m1
  rw [po_C f2] at m2
  generalize prd as1 * PS.C r1 = A at *
  generalize prd as2 * PS.C r2 = B at *
  have p60 : (2 : Nat) ^ 60 = 1152921504606846976 := by decide
  have c6 : (6 : Nat) ≤ line := by unfold line; omega
  have c4 : (4 : Nat) ≤ line := by unfold line; omega
  have c3 : (3 : Nat) ≤ line := by unfold line; omega
  have c2 : (2 : Nat) ≤ line := by unfold line; omega
  have c1 : (1 : Nat) ≤ line := by unfold line; omega
  have c0 : (0 : Nat) ≤ line := by unfold line; omega
  have hr' : rngR 0 4 = .ok ((List.range 4).map fun (k : Nat) => .int (k : Int)) := rngR_nat 4 (by decide)
  have hc : ∀ z2 z3 z4, evF G c (dflT T) (.cmp (.call jf (.cons (.call jm (.cons (.var 0) (.cons (.var 4) .nil)) 0) .nil) 0) (.nm 4) (.rng1 (.con (.int 4))) .none [(Nm.n 4, 4)]) [.va (.int x), .un, z2, z3, z4] = .ok (.list ds, true) := fun z2 z3 z4 => by
    refine cmp_of (xs := List.range 4) (e := fun (k : Nat) => .int (k : Int)) (h := fun (k : Nat) => po (F (mixV x (k : Int)))) (by simp [hr']) (by simp; omega) (fun k hk => ?_)
    have hk := List.mem_range.mp hk
    have e1 := hm x (k : Int) (by omega)
    have e2 := (hF _ (mixV_nn x k).1).2
    simp [val, wipe, e1, e2]
  obtain ⟨d, hd, ed⟩ := atD_mem (xs := [.tuple [po A, po B], .tuple [po A, .tuple []], .tuple [.tuple [], po B], .tuple [po A, po B], .tuple [po A, po B], .tuple [.tuple [], .tuple []]]) (i := x / 18432 % 6) (by omega) (by simp; omega)
  have fin : bo G c T (b_law_two jf jm jp js jt jl) [.va (.int x)] 4 = va d := by
    unfold bo b_law_two
    simp [hc]
    simp [val, u3, v3, p1, p2, q1, q2, q3, q4, ed1, ed2, g1, g2, m1, m2, c0, c1, c2, c3, c4, c6, ed]
  rw [fin]
  simp at hd
  rcases hd with rfl | rfl | rfl | rfl | rfl
  · exact ⟨A, B, w1, w2, rfl⟩
  · exact ⟨A, 0, w1, Z.zero _ _, by rw [po_zero]⟩
  · exact ⟨0, B, Z.zero _ _, w2, by rw [po_zero]⟩
  · exact ⟨A, B, w1, w2, rfl⟩
  · exact ⟨0, 0, Z.zero _ _, Z.zero _ _, by rw [po_zero]⟩
theorem law_k12 {jm jt jc jp jo jn : Nat} (hm : SpMarks c jm) (ht : SpTwo c jt) (hc : SpCom c jc) (hp : SpCom c jp) (ho : SpMon c jo) (hn : SpMon c jn) (ns : List Int) (hl : ns.length ≤ 1000) :
    bo G c T (b_law_2 jm jt jc jp jo jn) [.va (.list (ns.map .int))] 4 = va (.bool true) := by
  obtain ⟨ms, l1, l2, e1⟩ := hm ns 6 hl (by decide)
  have e1' : c jm [.va (.list (ns.map .int)), .va (.int 6)] = .ok (.list (ms.map .int), true) := e1
  unfold bo b_law_2
  simp [val, es_for, e1']
  refine forR_then (P := fun r => outF (r.bind _) = _) (I := fun i en => ∃ z1 z2 z3 z4, en = [.va (.list (ns.map PyData.int)), z1, z2, z3, z4]) ?_ ⟨_, _, _, _, rfl⟩ ?_
  · rintro i en d hi ⟨z1, z2, z3, z4, rfl⟩
    rw [List.getElem?_map] at hi
    cases hx : ms[i]? with
    | none => rw [hx] at hi; cases hi
    | some x =>
      rw [hx] at hi
      cases Option.some.inj hi
      obtain ⟨a, b, za, zb, t1⟩ := ht x (l2 x (List.mem_of_getElem? hx)).1
      have ok : ComOk 10 10 200 6 := by unfold ComOk cb; decide
      have o1 := hc a b _ _ _ _ za zb ok
      have o2 := hp a b _ _ _ _ za zb ok
      have o3 := hp b a _ _ _ _ zb za ok
      have o4 := hp a a _ _ _ _ za za ok
      have o5 := ho a _ _ za (by decide)
      have o6 := ho b _ _ zb (by decide)
      have o7 := hn a _ _ za (by decide)
      have o8 := hn b _ _ zb (by decide)
      rw [gcd_comm zb.pl za.pl] at o3
      rw [gcd_self za.pl] at o4
      exact ⟨[.va (.list (ns.map PyData.int)), .va (.int x), .va (po (gcd a b)), .va (po a), .va (po b)], .inl (by simp [val, t1, o1, o2, o3, o4, o5, o6, o7, o8]), _, _, _, _, rfl⟩
  · rintro en ⟨z1, z2, z3, z4, rfl⟩
    simp
end
end AW

/-! AwGau: values of series that end; whole ones; a monic divisor has few bits. -/
namespace AW
open PS
/-! ### values -/
noncomputable def ev (s : PS) (x : Rat) : Rat := hv (toL s) x
theorem ev_ser (p : List Rat) (x : Rat) : ev (ser p) x = hv p x := by unfold ev; rw [toL_ser, hv_trim]
theorem ev_add {a b : PS} (ha : Pl a) (hb : Pl b) (x : Rat) : ev (a + b) x = ev a x + ev b x := by
  rw [← ser_toL ha, ← ser_toL hb, ← ser_add, ev_ser, ev_ser, ev_ser, hv_add]
theorem ev_mul {a b : PS} (ha : Pl a) (hb : Pl b) (x : Rat) : ev (a * b) x = ev a x * ev b x := by
  rw [← ser_toL ha, ← ser_toL hb, ← ser_mul, ev_ser, ev_ser, ev_ser, hv_mul]
theorem ev_C (c x : Rat) : ev (PS.C c) x = c := by
  have : PS.C c = ser [c] := by show _ = PS.C c + X * 0; grind
  rw [this, ev_ser]
  show c + x * 0 = c
  grind
theorem ev_zero (x : Rat) : ev 0 x = 0 := by rw [← C_zero, ev_C]
theorem ev_one (x : Rat) : ev 1 x = 1 := ev_C 1 x
theorem ev_X (x : Rat) : ev X x = x := by
  have : X = ser [0, 1] := by show _ = PS.C 0 + X * (PS.C 1 + X * 0); rw [C_zero, C_one]; grind
  rw [this, ev_ser]
  show 0 + x * (1 + x * 0) = x
  grind
theorem ev_neg {a : PS} (ha : Pl a) (x : Rat) : ev (-a) x = -ev a x := by
  have := ev_add ha ha.neg x
  rw [show a + -a = (0 : PS) by grind, ev_zero] at this
  grind
theorem ev_sub {a b : PS} (ha : Pl a) (hb : Pl b) (x : Rat) : ev (a - b) x = ev a x - ev b x := by
  rw [show a - b = a + -b by grind, ev_add ha hb.neg, ev_neg hb]
  grind
/-! ### whole ones -/
def IP (s : PS) : Prop := ∀ i, ∃ z : Int, s.f i = z
theorem IP.add {a b : PS} (h : IP a) (k : IP b) : IP (a + b) := fun i => by
  obtain ⟨x, hx⟩ := h i; obtain ⟨y, hy⟩ := k i
  exact ⟨x + y, by rw [add_f, hx, hy, Rat.intCast_add]⟩
theorem IP.sub {a b : PS} (h : IP a) (k : IP b) : IP (a - b) := fun i => by
  obtain ⟨x, hx⟩ := h i; obtain ⟨y, hy⟩ := k i
  exact ⟨x - y, by rw [sub_f, hx, hy, Rat.intCast_sub]⟩
theorem conv_int : ∀ (n : Nat) (f g : Nat → Rat), (∀ i, ∃ z : Int, f i = z) → (∀ i, ∃ z : Int, g i = z) → ∃ z : Int, conv f g n = z
  | 0, f, g, h, k => by
    obtain ⟨x, hx⟩ := h 0; obtain ⟨y, hy⟩ := k 0
    exact ⟨x * y, by rw [conv, hx, hy, Rat.intCast_mul]⟩
  | n + 1, f, g, h, k => by
    obtain ⟨x, hx⟩ := h 0; obtain ⟨y, hy⟩ := k (n + 1)
    obtain ⟨w, hw⟩ := conv_int n (fun k => f (k + 1)) g (fun i => h (i + 1)) k
    exact ⟨x * y + w, by rw [conv, hx, hy, hw, Rat.intCast_add, Rat.intCast_mul]⟩
theorem IP.mul {a b : PS} (h : IP a) (k : IP b) : IP (a * b) := fun i => conv_int i a.f b.f h k
theorem IP.C (z : Int) : IP (PS.C z) := fun i => by
  show ∃ w : Int, (if i = 0 then (z : Rat) else 0) = w
  by_cases h : i = 0
  · rw [if_pos h]; exact ⟨z, rfl⟩
  · rw [if_neg h]; exact ⟨0, rfl⟩
theorem IP.X : IP X := fun i => by
  show ∃ w : Int, (if i = 1 then (1 : Rat) else 0) = w
  by_cases h : i = 1
  · rw [if_pos h]; exact ⟨1, rfl⟩
  · rw [if_neg h]; exact ⟨0, rfl⟩
theorem IP.Xpow (j : Nat) : IP (PS.X ^ j : PS) := fun i => by
  rw [Xpow_f]
  by_cases q : i = j
  · rw [if_pos q]; exact ⟨1, rfl⟩
  · rw [if_neg q]; exact ⟨0, rfl⟩
theorem IP.sh {a : PS} (h : IP a) : IP (AW.sh a) := fun i => h (i + 1)
theorem IP.ev {a : PS} (h : IP a) (p : Pl a) (n : Int) : ∃ z : Int, ev a n = z := by
  have go : ∀ p : List Rat, (∀ x ∈ p, ∃ z : Int, x = z) → ∃ z : Int, hv p n = z := fun p => by
    induction p with
    | nil => intro _; exact ⟨0, rfl⟩
    | cons a p ih =>
      intro h
      obtain ⟨x, hx⟩ := h a List.mem_cons_self
      obtain ⟨y, hy⟩ := ih fun x hx => h x (List.mem_cons_of_mem _ hx)
      exact ⟨x + n * y, by show a + n * hv p n = _; rw [hx, hy, Rat.intCast_add, Rat.intCast_mul]⟩
  refine go (toL a) fun x hx => ?_
  obtain ⟨i, hi⟩ := List.mem_iff_getElem?.mp hx
  have hlt := (List.getElem?_eq_some_iff.mp hi).1
  rw [toL_get p hlt] at hi
  rw [← Option.some.inj hi]
  exact h i
/-! ### primes -/
def Pr (l : Nat) : Prop := 1 < l ∧ ∀ a b : Int, (l : Int) ∣ a * b → (l : Int) ∣ a ∨ (l : Int) ∣ b
theorem prime_ex (N : Nat) (h : 1 < N) : ∃ l, Pr l ∧ l ∣ N := by
  have h0 : ∃ l, 1 < l ∧ l ∣ N := ⟨N, h, Nat.dvd_refl _⟩
  have min : ∀ m, (∃ l, l < m ∧ 1 < l ∧ l ∣ N) → ∃ l, (1 < l ∧ l ∣ N) ∧ ∀ k, k < l → ¬ (1 < k ∧ k ∣ N) := fun m => by
    induction m with
    | zero => rintro ⟨l, h, _⟩; omega
    | succ m ih =>
      rintro ⟨l, h1, h2⟩
      by_cases z : ∃ l, l < m ∧ 1 < l ∧ l ∣ N
      · exact ih z
      · refine ⟨l, h2, fun k hk hk2 => z ⟨k, by omega, hk2⟩⟩
  obtain ⟨l, ⟨h1, h2⟩, h3⟩ := min (N + 1) ⟨N, by omega, h, Nat.dvd_refl _⟩
  refine ⟨l, ⟨h1, fun a b hab => ?_⟩, h2⟩
  by_cases z : (l : Int) ∣ a
  · exact .inl z
  · right
    have hg : Nat.gcd l a.natAbs = 1 := by
      have d1 := Nat.gcd_dvd_left l a.natAbs
      have d2 := Nat.gcd_dvd_right l a.natAbs
      have le := Nat.le_of_dvd (by omega) d1
      rcases Nat.eq_or_lt_of_le le with e | e
      · rw [e] at d2
        exact absurd (Int.ofNat_dvd_left.mpr d2) z
      · have := h3 _ e
        have pos := Nat.gcd_pos_of_pos_left a.natAbs (show 0 < l by omega)
        rcases Nat.lt_or_ge 1 (Nat.gcd l a.natAbs) with q | q
        · exact absurd ⟨q, Nat.dvd_trans d1 h2⟩ this
        · omega
    have hab' : l ∣ a.natAbs * b.natAbs := by rw [← Int.natAbs_mul]; exact Int.ofNat_dvd_left.mp hab
    exact Int.ofNat_dvd_left.mpr (Nat.Coprime.dvd_of_dvd_mul_left hg hab')
/-! ### Gauss -/
theorem C_mul_ip {l : Int} {t : PS} (h : IP t) : IP (PS.C l * t) := (IP.C l).mul h
theorem div_f {l : Nat} {s t u : PS} {j : Nat} (h : s = PS.C ((l : Int) : Rat) * t + X ^ j * u) (ht : IP t) {i : Nat} (hi : i < j) : ∃ z : Int, s.f i = ((l : Int) * z : Int) := by
  obtain ⟨z, hz⟩ := ht i
  refine ⟨z, ?_⟩
  rw [h, add_f, C_mul, Xpow_mul, if_neg (by omega), hz, Rat.intCast_mul]
  grind
theorem peel {l : Nat} {s : PS} (hs : IP s) : ∀ j, (∀ i, i < j → ∃ z : Int, s.f i = ((l : Int) * z : Int)) → ∃ t u, IP t ∧ IP u ∧ s = PS.C ((l : Int) : Rat) * t + X ^ j * u
  | 0, _ => ⟨0, s, fun i => ⟨0, by rw [zero_f]; rfl⟩, hs, by grind⟩
  | j + 1, h => by
    obtain ⟨t, u, ht, hu, e⟩ := peel hs j fun i hi => h i (by omega)
    obtain ⟨z, hz⟩ := h j (by omega)
    have eu := sh_eq u
    have e0 : u.f 0 = ((l : Int) : Rat) * (z - t.f j) := by
      have : s.f j = ((l : Int) : Rat) * t.f j + u.f 0 := by
        rw [e, add_f, C_mul, Xpow_mul, if_pos (Nat.le_refl _), Nat.sub_self]
      rw [hz, Rat.intCast_mul] at this
      grind
    obtain ⟨w, hw⟩ := ht j
    refine ⟨t + X ^ j * PS.C (((z - w : Int)) : Rat), sh u, ht.add ?_, hu.sh, ?_⟩
    · exact (IP.Xpow j).mul (IP.C _)
    · have ec : PS.C (u.f 0) = PS.C ((l : Int) : Rat) * PS.C ((z - w : Int) : Rat) := by
        rw [← PS.C_mulC, e0, hw, Rat.intCast_sub]
      rw [e]
      conv => lhs; rw [eu, ec]
      grind
theorem Xcancel {j : Nat} {a b : PS} (h : X ^ j * a = X ^ j * b) : a = b := by
  ext i
  have e : (X ^ j * a).f (i + j) = (X ^ j * b).f (i + j) := by rw [h]
  rw [Xpow_mul, Xpow_mul, if_pos (by omega), show i + j - j = i by omega] at e
  rw [if_pos (by omega)] at e
  exact e
theorem l_ne {l : Nat} (h : Pr l) : ((l : Int) : Rat) ≠ 0 := int_ne (by have := h.1; omega)
/-- a prime that divides a product, but not the one, divides the other -/
theorem prime_mul {l : Nat} (hl : Pr l) {a b t : PS} (ha : IP a) (hb : IP b) (ht : IP t) (e : a * b = PS.C ((l : Int) : Rat) * t) {i : Nat} (h0 : ∀ k, k < i → ∃ z : Int, a.f k = ((l : Int) * z : Int)) (h1 : ¬ ∃ z : Int, a.f i = ((l : Int) * z : Int)) : ∀ j, ∃ z : Int, b.f j = ((l : Int) * z : Int) := by
  obtain ⟨t1, a', ht1, ha', ea⟩ := peel ha i h0
  have h1' : ¬ ∃ z : Int, a'.f 0 = ((l : Int) * z : Int) := fun ⟨z, hz⟩ => h1 (by
    obtain ⟨w, hw⟩ := ht1 i
    refine ⟨w + z, ?_⟩
    rw [ea, add_f, C_mul, Xpow_mul, if_pos (Nat.le_refl _), Nat.sub_self, hz, hw]
    grind)
  have go : ∀ j, ∀ k, k < j → ∃ z : Int, b.f k = ((l : Int) * z : Int) := fun j => by
    induction j with
    | zero => intro k hk; omega
    | succ j ih =>
      intro k hk
      rcases Nat.lt_or_ge k j with q | q
      · exact ih k q
      · have : k = j := by omega
        subst this
        obtain ⟨t2, b', ht2, hb', eb⟩ := peel hb k ih
        -- the product of a' and b' at 0
        have e2 : X ^ (i + k) * (a' * b') = PS.C ((l : Int) : Rat) * (t - t1 * b - X ^ i * (a' * t2)) := by
          have : a * b = PS.C ((l : Int) : Rat) * (t1 * b) + PS.C ((l : Int) : Rat) * (X ^ i * (a' * t2)) + X ^ (i + k) * (a' * b') := by
            conv => lhs; rw [ea]
            conv => lhs; rw [show (PS.C ((l : Int) : Rat) * t1 + X ^ i * a') * b = PS.C ((l : Int) : Rat) * (t1 * b) + X ^ i * a' * b by grind]
            have ex : (X ^ (i + k) : PS) = X ^ i * X ^ k := by grind
            rw [ex]
            conv => lhs; rhs; rw [eb]
            grind
          grind
        have ip : IP (t - t1 * b - X ^ i * (a' * t2)) := by
          exact (ht.sub (ht1.mul hb)).sub ((IP.Xpow i).mul (ha'.mul ht2))
        obtain ⟨w, hw⟩ := ip (i + k)
        have e3 : a'.f 0 * b'.f 0 = ((l : Int) * w : Int) := by
          have q : (X ^ (i + k) * (a' * b')).f (i + k) = (PS.C ((l : Int) : Rat) * (t - t1 * b - X ^ i * (a' * t2))).f (i + k) := by rw [e2]
          rw [Xpow_mul, if_pos (Nat.le_refl _), Nat.sub_self, C_mul, hw] at q
          rw [Rat.intCast_mul, ← q]
          rfl
        obtain ⟨x, hx⟩ := ha' 0
        obtain ⟨y, hy⟩ := hb' 0
        rw [hx, hy, ← Rat.intCast_mul] at e3
        have e4 : x * y = (l : Int) * w := Rat.intCast_inj.mp e3
        rcases hl.2 x y ⟨w, e4⟩ with ⟨z, hz⟩ | ⟨z, hz⟩
        · exact absurd ⟨z, by rw [hx, hz]⟩ h1'
        · obtain ⟨v, hv⟩ := ht2 k
          refine ⟨v + z, ?_⟩
          rw [eb, add_f, C_mul, Xpow_mul, if_pos (Nat.le_refl _), Nat.sub_self, hy, hz, hv]
          grind
  exact fun j => go (j + 1) j (by omega)
/-- the least of some numbers -/
theorem least {P : Nat → Prop} {n : Nat} (h : P n) : ∃ m, P m ∧ ∀ k, k < m → ¬ P k := by
  have go : ∀ m, (∃ l, l < m ∧ P l) → ∃ l, P l ∧ ∀ k, k < l → ¬ P k := fun m => by
    induction m with
    | zero => rintro ⟨l, h, _⟩; omega
    | succ m ih =>
      rintro ⟨l, h1, h2⟩
      by_cases z : ∃ l, l < m ∧ P l
      · exact ih z
      · exact ⟨l, h2, fun k hk hk2 => z ⟨k, by omega, hk2⟩⟩
  exact go (n + 1) ⟨n, by omega, h⟩
/-- a monic one over its least number below: no prime divides all its numbers -/
theorem primitive {g : PS} {d b : Nat} (hg : Mn g d) (h : Hb b g) : ∃ k : Nat, 0 < k ∧ IP (PS.C ((k : Int) : Rat) * g) ∧ ∀ l, Pr l → ∃ i, (∀ j, j < i → ∃ z : Int, (PS.C ((k : Int) : Rat) * g).f j = ((l : Int) * z : Int)) ∧ ¬ ∃ z : Int, (PS.C ((k : Int) : Rat) * g).f i = ((l : Int) * z : Int) := by
  obtain ⟨K, k1, k2, k3⟩ := h
  have h0 : 0 < K.natAbs ∧ IP (PS.C ((K.natAbs : Int) : Rat) * g) := ⟨by omega, fun i => by
    obtain ⟨z, hz, _⟩ := k3 i
    rw [C_mul]
    rcases Int.natAbs_eq K with e | e
    · rw [← e]; exact ⟨z, hz⟩
    · rw [show ((K.natAbs : Int) : Rat) = -(K : Rat) by rw [← Rat.intCast_neg]; congr 1; omega]
      exact ⟨-z, by rw [Rat.intCast_neg, ← hz]; grind⟩⟩
  obtain ⟨k, ⟨kp, ki⟩, kmin⟩ := least (P := fun k => 0 < k ∧ IP (PS.C ((k : Int) : Rat) * g)) h0
  refine ⟨k, kp, ki, fun l hl => ?_⟩
  have hex : ∃ i, ¬ ∃ z : Int, (PS.C ((k : Int) : Rat) * g).f i = ((l : Int) * z : Int) := Classical.byContradiction fun q => by
    have q : ∀ i, ∃ z : Int, (PS.C ((k : Int) : Rat) * g).f i = ((l : Int) * z : Int) := fun i => Classical.byContradiction fun r => q ⟨i, r⟩
    obtain ⟨w, hw⟩ := q d
    rw [C_mul, hg.2, show ((k : Int) : Rat) * 1 = ((k : Int) : Rat) by grind] at hw
    have hw := Rat.intCast_inj.mp hw
    have hl1 := hl.1
    have wpos : 0 < w := by
      rcases (by omega : w ≤ 0 ∨ 0 < w) with r | r
      · have : (l : Int) * w ≤ 0 := Int.mul_nonpos_of_nonneg_of_nonpos (by omega) r
        omega
      · exact r
    have hwk : w.toNat < k := by
      have : (2 : Int) * w ≤ (l : Int) * w := Int.mul_le_mul_of_nonneg_right (by omega) (by omega)
      omega
    refine kmin _ hwk ⟨by omega, fun i => ?_⟩
    obtain ⟨z, hz⟩ := q i
    refine ⟨z, ?_⟩
    rw [C_mul] at hz ⊢
    rw [Int.toNat_of_nonneg (by omega)]
    have l0 := l_ne hl
    rw [hw, Rat.intCast_mul, Rat.intCast_mul] at hz
    grind
  obtain ⟨i, hi⟩ := hex
  obtain ⟨m, hm, hmin⟩ := least (P := fun i => ¬ ∃ z : Int, (PS.C ((k : Int) : Rat) * g).f i = ((l : Int) * z : Int)) hi
  exact ⟨m, fun j hj => Classical.byContradiction fun q => hmin j hj q, hm⟩
/-- Gauss: a whole one parted by a primitive one is whole -/
theorem gauss {a q : PS} {b n : Nat} (ha : IP a) (hpr : ∀ l, Pr l → ∃ i, (∀ j, j < i → ∃ z : Int, a.f j = ((l : Int) * z : Int)) ∧ ¬ ∃ z : Int, a.f i = ((l : Int) * z : Int)) (hq : Hb b q) (h : IP (a * q)) : IP q := by
  obtain ⟨K, k1, k2, k3⟩ := hq
  have h0 : 0 < K.natAbs ∧ IP (PS.C ((K.natAbs : Int) : Rat) * q) := ⟨by omega, fun i => by
    obtain ⟨z, hz, _⟩ := k3 i
    rw [C_mul]
    rcases Int.natAbs_eq K with e | e
    · rw [← e]; exact ⟨z, hz⟩
    · rw [show ((K.natAbs : Int) : Rat) = -(K : Rat) by rw [← Rat.intCast_neg]; congr 1; omega]
      exact ⟨-z, by rw [Rat.intCast_neg, ← hz]; grind⟩⟩
  obtain ⟨k, ⟨kp, ki⟩, kmin⟩ := least (P := fun k => 0 < k ∧ IP (PS.C ((k : Int) : Rat) * q)) h0
  rcases Nat.lt_or_ge 1 k with hk | hk
  · exfalso
    obtain ⟨l, hl, w, hw⟩ := prime_ex k hk
    obtain ⟨i, h1, h2⟩ := hpr l hl
    have l0 := l_ne hl
    have ek : ((k : Int) : Rat) = ((l : Int) : Rat) * ((w : Int) : Rat) := by rw [← Rat.intCast_mul, hw]; rfl
    have e : a * (PS.C ((k : Int) : Rat) * q) = PS.C ((l : Int) : Rat) * (PS.C ((w : Int) : Rat) * (a * q)) := by
      rw [ek, PS.C_mulC]; grind
    have hb := prime_mul hl ha ki ((IP.C _).mul h) e h1 h2
    have hw1 : 0 < w := by
      rcases Nat.eq_zero_or_pos w with r | r
      · subst r; omega
      · exact r
    have hl1 := hl.1
    have hwk : w < k := by
      have : 2 * w ≤ l * w := Nat.mul_le_mul_right _ (by omega)
      omega
    refine kmin w hwk ⟨hw1, fun i => ?_⟩
    obtain ⟨z, hz⟩ := hb i
    refine ⟨z, ?_⟩
    rw [C_mul, ek, Rat.intCast_mul] at hz
    rw [C_mul]
    grind
  · have : k = 1 := by omega
    subst this
    intro i
    obtain ⟨z, hz⟩ := ki i
    refine ⟨z, ?_⟩
    rw [C_mul] at hz
    rw [← hz]
    show q.f i = ((1 : Int) : Rat) * q.f i
    grind
end AW

/-! AwDvb: a monic divisor of a polynomial of few bits has few bits. -/
namespace AW
open PS
def ipK : Nat → Nat → Nat
  | 0, _ => 1
  | d + 1, n => (2 * (n + 1) + 1) * ipK d (n + 1)
theorem ipK_le : ∀ (d n : Nat), ipK d n ≤ (2 * (n + d) + 1) ^ d
  | 0, n => Nat.le_refl _
  | d + 1, n => by
    have ih := ipK_le d (n + 1)
    show (2 * (n + 1) + 1) * ipK d (n + 1) ≤ (2 * (n + (d + 1)) + 1) ^ (d + 1)
    rw [Nat.pow_succ, Nat.mul_comm]
    rw [show n + 1 + d = n + (d + 1) by omega] at ih
    exact Nat.mul_le_mul ih (by omega)
/-- parted by x - n -/
theorem synth (n : Int) : ∀ {m : Nat} {g : PS}, Lt g (m + 1) → IP g → ∃ s, ∃ c : Int, IP s ∧ Lt s m ∧ g = s * (X - PS.C n) + PS.C c
  | 0, g, h, hi => by
    obtain ⟨c, hc⟩ := hi 0
    exact ⟨0, c, fun i => ⟨0, by rw [zero_f]; rfl⟩, Lt.zero _, by rw [← hc]; have := Dg.const h; grind⟩
  | m + 1, g, h, hi => by
    obtain ⟨s, c, h1, h2, e⟩ := synth n h.sh hi.sh
    obtain ⟨g0, hg⟩ := hi 0
    refine ⟨X * s + PS.C c, g0 + n * c, (IP.X.mul h1).add (IP.C c), (h2.X_mul).add ((Lt.C _).mono (by omega)), ?_⟩
    have e0 := sh_eq g
    rw [e0, e, hg, Rat.intCast_add, Rat.intCast_mul, PS.C_add, PS.C_mulC]
    grind
theorem interp (V : Nat) : ∀ (d n : Nat) (W : Nat) (g : PS), Lt g (d + 1) → IP g → (∀ i, i ≤ d → ∃ z : Int, ev g (((n + i : Nat) : Int)) = z ∧ z.natAbs ≤ W) → ∀ i, ∃ z : Int, g.f i = z ∧ z.natAbs ≤ W * ipK d n
  | 0, n, W, g, hl, hi, h, i => by
    obtain ⟨z, hz, hW⟩ := h 0 (Nat.le_refl _)
    have e := Dg.const hl
    rw [e, ev_C] at hz
    rw [e]
    show ∃ w : Int, (if i = 0 then g.f 0 else 0) = w ∧ _
    by_cases q : i = 0
    · rw [if_pos q]; exact ⟨z, hz, by show _ ≤ W * 1; omega⟩
    · rw [if_neg q]; exact ⟨0, rfl, Nat.zero_le _⟩
  | d + 1, n, W, g, hl, hi, h, i => by
    obtain ⟨s, c, h1, h2, e⟩ := synth (n : Int) hl hi
    have ps : Pl s := ⟨_, h2⟩
    have px : Pl (X - PS.C (n : Int)) := Pl.X.sub (Pl.C _)
    have evg : ∀ x : Rat, ev g x = ev s x * (x - ((n : Int) : Rat)) + (c : Rat) := fun x => by
      rw [e, ev_add (ps.mul px) (Pl.C _), ev_mul ps px, ev_sub Pl.X (Pl.C _), ev_X, ev_C, ev_C]
    have hc : c.natAbs ≤ W := by
      obtain ⟨z, hz, hW⟩ := h 0 (by omega)
      rw [evg, Nat.add_zero, show (((n : Int) : Rat) - ((n : Int) : Rat)) = 0 by grind, Rat.mul_zero, Rat.zero_add] at hz
      rw [Rat.intCast_inj.mp hz]
      exact hW
    have ih := interp V d (n + 1) (2 * W) s h2 h1 fun j hj => by
      obtain ⟨z, hz, hW⟩ := h (j + 1) (by omega)
      obtain ⟨w, hw⟩ := h1.ev ps ((n + 1 + j : Nat) : Int)
      refine ⟨w, hw, ?_⟩
      rw [show n + (j + 1) = n + 1 + j by omega, evg, hw, ← Rat.intCast_sub, ← Rat.intCast_mul, ← Rat.intCast_add] at hz
      have hz := Rat.intCast_inj.mp hz
      have e2 : w * (((n + 1 + j : Nat) : Int) - (n : Int)) = z - c := by omega
      have e3 : ((n + 1 + j : Nat) : Int) - (n : Int) = ((j + 1 : Nat) : Int) := by omega
      rw [e3] at e2
      have e4 : w.natAbs * (j + 1) = (z - c).natAbs := by rw [← e2, Int.natAbs_mul]; rfl
      have e5 : w.natAbs * 1 ≤ w.natAbs * (j + 1) := Nat.mul_le_mul_left _ (by omega)
      omega
    obtain ⟨a, ha, hA⟩ : ∃ a : Int, (X * s).f i = a ∧ a.natAbs ≤ 2 * W * ipK d (n + 1) := by
      rw [PS.X_mul]
      cases i with
      | zero => exact ⟨0, rfl, Nat.zero_le _⟩
      | succ i => exact ih i
    obtain ⟨b, hb, hB⟩ := ih i
    have kp : 1 ≤ ipK d (n + 1) := by
      have : ∀ d n, 1 ≤ ipK d n := fun d => by
        induction d with
        | zero => intro n; exact Nat.le_refl _
        | succ d ih =>
          intro n
          show 1 ≤ (2 * (n + 1) + 1) * ipK d (n + 1)
          have := Nat.mul_le_mul (show 1 ≤ 2 * (n + 1) + 1 by omega) (ih (n + 1))
          omega
      exact this d (n + 1)
    have hk : W * 1 ≤ W * ipK d (n + 1) := Nat.mul_le_mul_left _ kp
    obtain ⟨x, hx, hX⟩ : ∃ x : Int, (PS.C (c : Rat)).f i = x ∧ x.natAbs ≤ W * ipK d (n + 1) := by
      show ∃ x : Int, (if i = 0 then (c : Rat) else 0) = x ∧ _
      by_cases q : i = 0
      · rw [if_pos q]; exact ⟨c, rfl, by omega⟩
      · rw [if_neg q]; exact ⟨0, rfl, Nat.zero_le _⟩
    refine ⟨a - n * b + x, ?_, ?_⟩
    · have : g = X * s - PS.C ((n : Int) : Rat) * s + PS.C (c : Rat) := by rw [e]; grind
      rw [this, add_f, sub_f, C_mul, ha, hb, hx, Rat.intCast_add, Rat.intCast_sub, Rat.intCast_mul]
    · have t1 := Int.natAbs_add_le (a - n * b) x
      have t2 := Int.natAbs_sub_le a (n * b)
      rw [Int.natAbs_mul, Int.natAbs_natCast] at t2
      have t3 : n * b.natAbs ≤ n * (2 * W * ipK d (n + 1)) := Nat.mul_le_mul_left _ hB
      have t4 : W * ((2 * (n + 1) + 1) * ipK d (n + 1)) = n * (2 * W * ipK d (n + 1)) + 2 * W * ipK d (n + 1) + W * ipK d (n + 1) := by
        simp only [Nat.add_mul, Nat.mul_add, Nat.mul_one, Nat.one_mul, Nat.mul_assoc, Nat.mul_left_comm]
      show _ ≤ W * ((2 * (n + 1) + 1) * ipK d (n + 1))
      omega
/-- far out a value isn't nought, and no greater than -/
theorem hv_far {H : Nat} {x : Nat} (hx : H + 1 ≤ x) : ∀ {p : List Rat}, (∀ a ∈ p, ∃ z : Int, a = z ∧ z.natAbs ≤ H) → ∃ z : Int, hv p ((x : Int) : Rat) = z ∧ z.natAbs ≤ H * (x + 1) ^ p.length ∧ (trim p ≠ [] → z ≠ 0)
  | [], _ => ⟨0, rfl, Nat.zero_le _, fun h => absurd rfl h⟩
  | a :: p, h => by
    obtain ⟨z, h1, h2, h3⟩ := hv_far hx (p := p) fun a ha => h a (List.mem_cons_of_mem _ ha)
    obtain ⟨w, w1, w2⟩ := h a List.mem_cons_self
    refine ⟨w + x * z, ?_, ?_, ?_⟩
    · show a + ((x : Int) : Rat) * hv p ((x : Int) : Rat) = _
      rw [h1, w1, Rat.intCast_add, Rat.intCast_mul]
    · have t := Int.natAbs_add_le w (x * z)
      rw [Int.natAbs_mul, Int.natAbs_natCast] at t
      have t2 : x * z.natAbs ≤ x * (H * (x + 1) ^ p.length) := Nat.mul_le_mul_left _ h2
      have t3 : H * 1 ≤ H * (x + 1) ^ p.length := Nat.mul_le_mul_left _ (Nat.one_le_pow _ _ (by omega))
      have t4 : H * (x + 1) ^ (p.length + 1) = x * (H * (x + 1) ^ p.length) + H * (x + 1) ^ p.length := by
        rw [Nat.pow_succ, Nat.mul_comm _ (x + 1), ← Nat.mul_assoc, Nat.mul_comm H, Nat.mul_assoc, Nat.add_mul, Nat.one_mul]
      show _ ≤ H * (x + 1) ^ (p.length + 1)
      omega
    · intro hne
      by_cases q : trim p = []
      · unfold trim at hne
        rw [q] at hne
        have ha0 : a ≠ 0 := fun e => hne (by simp [e])
        have hz : z = 0 := by
          have e : hv p ((x : Int) : Rat) = 0 := by rw [← hv_trim, q]; rfl
          rw [h1] at e
          exact Rat.intCast_eq_zero_iff.mp e
        subst hz
        intro e
        have : w = 0 := by omega
        exact ha0 (by rw [w1, this]; rfl)
      · have hz := h3 q
        intro e
        have e2 : (x : Int) * z = -w := by omega
        have e3 : x * z.natAbs = w.natAbs := by
          have := congrArg Int.natAbs e2
          rw [Int.natAbs_mul, Int.natAbs_natCast, Int.natAbs_neg] at this
          exact this
        have : x * 1 ≤ x * z.natAbs := Nat.mul_le_mul_left _ (by omega)
        omega
theorem lt_pow_self (n : Nat) : n ≤ 2 ^ n := Nat.le_of_lt Nat.lt_two_pow_self
/-- a monic divisor's bits -/
def db (N h l : Nat) : Nat := (2 * N + 1) * (h + l + 2)
theorem dv_hb {g p : PS} {d N h l : Nat} (hg : Mn g d) (zp : Z N h p) (p0 : p ≠ 0) (dv : Dv g p) (hl : N + 2 ≤ 2 ^ l) : Hb (db N h l) g := by
  obtain ⟨q, pq, e⟩ := dv
  obtain ⟨kp, kp1, kp2, kp3⟩ := zp.hb
  obtain ⟨m, dp⟩ := zp.pl.dg p0
  have hmN := dp.lt zp.lt
  have q0 : q ≠ 0 := fun z => p0 (by rw [e, z]; grind)
  have hdm : d ≤ m := Dv.dg ⟨q, pq, e⟩ hg.dg dp
  -- some bits of g and q
  have exb : ∀ {s : PS}, Pl s → ∃ b, Hb b s := fun {s} ps => by
    have go : ∀ L : List Rat, ∃ b, BdL b L := fun L => by
      induction L with
      | nil => exact ⟨0, BdL.nil 0⟩
      | cons a L ih =>
        obtain ⟨b, hb⟩ := ih
        refine ⟨b + a.num.natAbs + a.den, BdL.cons ⟨?_, ?_⟩ (hb.mono (by omega))⟩
        · exact Nat.le_trans (lt_pow_self _) (Nat.pow_le_pow_right (by decide) (by omega))
        · exact Nat.le_trans (lt_pow_self _) (Nat.pow_le_pow_right (by decide) (by omega))
    obtain ⟨b, hb⟩ := go (toL s)
    have := Hb.ser hb
    rw [ser_toL ps] at this
    exact ⟨_, this⟩
  obtain ⟨bg, hbg⟩ := exb hg.dg.pl
  obtain ⟨k, kpos, ik, hpr⟩ := primitive hg hbg
  have k0 : ((k : Int) : Rat) ≠ 0 := int_ne (by omega)
  obtain ⟨bq, hbq⟩ := exb (s := PS.C ((kp : Rat) * ((k : Int) : Rat)⁻¹) * q) ((Pl.C _).mul pq)
  have eP : (PS.C ((k : Int) : Rat) * g) * (PS.C ((kp : Rat) * ((k : Int) : Rat)⁻¹) * q) = PS.C (kp : Rat) * p := by
    rw [e, PS.C_mulC]
    have := C_cancel k0
    grind
  have iP : IP (PS.C (kp : Rat) * p) := fun i => by
    obtain ⟨z, hz, _⟩ := kp3 i
    exact ⟨z, by rw [C_mul]; exact hz⟩
  have iQ := gauss (n := 0) ik hpr hbq (by rw [eP]; exact iP)
  have pG : Pl (PS.C ((k : Int) : Rat) * g) := (Pl.C _).mul hg.dg.pl
  have pQ : Pl (PS.C ((kp : Rat) * ((k : Int) : Rat)⁻¹) * q) := (Pl.C _).mul pq
  have pP : Pl (PS.C (kp : Rat) * p) := (Pl.C _).mul zp.pl
  have nP : PS.C (kp : Rat) * p ≠ 0 := Pl.mul_ne (Pl.C _) zp.pl (Dg.C (int_ne kp1)).ne p0
  -- values far out
  have far : ∀ i, i ≤ d → ∃ z : Int, ev (PS.C ((k : Int) : Rat) * g) (((2 ^ h + 1 + i : Nat) : Int)) = z ∧ z.natAbs ≤ 2 ^ (h + N * (h + l + 1)) := fun i hi => by
    obtain ⟨z, hz⟩ := ik.ev pG ((2 ^ h + 1 + i : Nat) : Int)
    refine ⟨z, hz, ?_⟩
    obtain ⟨w, hw⟩ := iQ.ev pQ ((2 ^ h + 1 + i : Nat) : Int)
    have ep := ev_mul pG pQ (((2 ^ h + 1 + i : Nat) : Int) : Rat)
    rw [eP, hz, hw, ← Rat.intCast_mul] at ep
    obtain ⟨v, v1, v2, v3⟩ := hv_far (H := 2 ^ h) (x := 2 ^ h + 1 + i) (by omega) (p := toL (PS.C (kp : Rat) * p)) fun a ha => by
      obtain ⟨i, hi⟩ := List.mem_iff_getElem?.mp ha
      have hlt := (List.getElem?_eq_some_iff.mp hi).1
      rw [toL_get pP hlt] at hi
      rw [← Option.some.inj hi, C_mul]
      exact kp3 i
    have v3 := v3 (by rw [trim_toL]; exact fun z => nP ((toL_nil pP).mp z))
    have ev' : ev (PS.C (kp : Rat) * p) (((2 ^ h + 1 + i : Nat) : Int) : Rat) = v := v1
    rw [ev'] at ep
    have ep := Rat.intCast_inj.mp ep
    have len := toL_le (zp.lt.smul (kp : Rat))
    have hw0 : w ≠ 0 := fun z => v3 (by rw [ep, z]; omega)
    have e1 : v.natAbs = z.natAbs * w.natAbs := by rw [ep, Int.natAbs_mul]
    have e2 : z.natAbs * 1 ≤ z.natAbs * w.natAbs := Nat.mul_le_mul_left _ (by omega)
    have e3 : 2 ^ h + 1 + i + 1 ≤ 2 ^ (h + l + 1) := by
      have a1 : 2 ^ h ≤ 2 ^ (h + l) := Nat.pow_le_pow_right (by decide) (by omega)
      have a2 : 2 ^ l ≤ 2 ^ (h + l) := Nat.pow_le_pow_right (by decide) (by omega)
      rw [Nat.pow_succ 2 (h + l)]
      omega
    have e4 : 2 ^ h * (2 ^ h + 1 + i + 1) ^ (toL (PS.C (kp : Rat) * p)).length ≤ 2 ^ (h + N * (h + l + 1)) := by
      rw [Nat.pow_add]
      refine Nat.mul_le_mul_left _ ?_
      refine Nat.le_trans (Nat.pow_le_pow_left e3 _) ?_
      rw [← Nat.pow_mul, Nat.mul_comm]
      exact Nat.pow_le_pow_right (by decide) (Nat.mul_le_mul_right _ len)
    omega
  have res := interp 0 d (2 ^ h + 1) _ _ (hg.1.smul ((k : Int) : Rat)) ik far
  have hK : 2 ^ (h + N * (h + l + 1)) * ipK d (2 ^ h + 1) ≤ 2 ^ (db N h l) := by
    have b1 := ipK_le d (2 ^ h + 1)
    have b2 : 2 * (2 ^ h + 1 + d) + 1 ≤ 2 ^ (h + l + 2) := by
      have a1 : 2 ^ h ≤ 2 ^ (h + l) := Nat.pow_le_pow_right (by decide) (by omega)
      have a2 : 2 ^ l ≤ 2 ^ (h + l) := Nat.pow_le_pow_right (by decide) (by omega)
      rw [Nat.pow_succ 2 (h + l + 1), Nat.pow_succ 2 (h + l)]
      omega
    have b3 : (2 * (2 ^ h + 1 + d) + 1) ^ d ≤ 2 ^ ((h + l + 2) * N) := by
      refine Nat.le_trans (Nat.pow_le_pow_left b2 d) ?_
      rw [← Nat.pow_mul]
      exact Nat.pow_le_pow_right (by decide) (Nat.mul_le_mul_left _ (by omega))
    refine Nat.le_trans (Nat.mul_le_mul_left _ (Nat.le_trans b1 b3)) ?_
    rw [← Nat.pow_add]
    refine Nat.pow_le_pow_right (by decide) ?_
    unfold db
    have c1 : N * (h + l + 1) ≤ N * (h + l + 2) := Nat.mul_le_mul_left _ (by omega)
    have c2 : (h + l + 2) * N = N * (h + l + 2) := Nat.mul_comm _ _
    have c3 : (2 * N + 1) * (h + l + 2) = N * (h + l + 2) + N * (h + l + 2) + (h + l + 2) := by rw [Nat.add_mul, Nat.one_mul, Nat.mul_assoc]; omega
    omega
  refine ⟨(k : Int), by omega, ?_, fun i => ?_⟩
  · obtain ⟨z, hz, hb⟩ := res d
    rw [C_mul, hg.2, show ((k : Int) : Rat) * 1 = ((k : Int) : Rat) by grind] at hz
    rw [Rat.intCast_inj.mp hz]
    exact Nat.le_trans hb hK
  · obtain ⟨z, hz, hb⟩ := res i
    rw [C_mul] at hz
    exact ⟨z, hz, Nat.le_trans hb hK⟩
end AW

/-! AwYun: slopes; no common part; the simple parts. -/
namespace AW
open PS
/-! ### slopes -/
theorem der_add (a b : PS) : der (a + b) = der a + der b := by
  ext n; show _ * (a.f (n + 1) + b.f (n + 1)) = _ * a.f (n + 1) + _ * b.f (n + 1); grind
theorem der_sub (a b : PS) : der (a - b) = der a - der b := by
  ext n; show _ * (a.f (n + 1) - b.f (n + 1)) = _ * a.f (n + 1) - _ * b.f (n + 1); grind
theorem der_smul (c : Rat) (a : PS) : der (PS.C c * a) = PS.C c * der a := by
  ext n; rw [C_mul]; show _ * (PS.C c * a).f (n + 1) = c * (_ * a.f (n + 1)); rw [C_mul]; grind
theorem der_C (c : Rat) : der (PS.C c) = 0 := by
  ext n; rw [zero_f]; show _ * (if n + 1 = 0 then c else 0) = 0; rw [if_neg (by omega)]; grind
theorem der_one : der 1 = 0 := der_C 1
theorem der_zero : der 0 = 0 := by rw [← C_zero]; exact der_C 0
theorem der_X_mul (a : PS) : der (X * a) = a + X * der a := by
  ext n
  rw [add_f, PS.X_mul]
  show _ * (X * a).f (n + 1) = _
  rw [PS.X_mul]
  cases n with
  | zero =>
    show ((1 : Nat) : Rat) * a.f 0 = a.f 0 + 0
    have : ((1 : Nat) : Rat) = 1 := rfl
    rw [this]; grind
  | succ n =>
    show ((n + 1 + 1 : Nat) : Rat) * a.f (n + 1) = a.f (n + 1) + ((n + 1 : Nat) : Rat) * a.f (n + 1)
    have : ((n + 1 + 1 : Nat) : Rat) = ((n + 1 : Nat) : Rat) + 1 := by rw [Rat.natCast_add]; rfl
    rw [this]; grind
theorem der_mul (a b : PS) : der (a * b) = der a * b + a * der b := by
  have go : ∀ n, ∀ a : PS, (der (a * b)).f n = (der a * b + a * der b).f n := fun n => by
    induction n with
    | zero =>
      intro a
      show ((1 : Nat) : Rat) * conv a.f b.f 1 = ((1 : Nat) : Rat) * a.f 1 * b.f 0 + a.f 0 * (((1 : Nat) : Rat) * b.f 1)
      have : ((1 : Nat) : Rat) = 1 := rfl
      rw [this]
      simp only [conv]
      grind
    | succ n ih =>
      intro a
      have e := sh_eq a
      have e1 : der a = sh a + X * der (sh a) := by
        conv => lhs; rw [e]
        rw [der_add, der_C, der_X_mul]; grind
      have e2 : der (a * b) = PS.C (a.f 0) * der b + sh a * b + X * der (sh a * b) := by
        conv => lhs; rw [e]
        rw [show (PS.C (a.f 0) + X * sh a) * b = PS.C (a.f 0) * b + X * (sh a * b) by grind, der_add, der_smul, der_X_mul]
        grind
      have e3 : der a * b + a * der b = PS.C (a.f 0) * der b + sh a * b + X * (der (sh a) * b + sh a * der b) := by
        rw [e1]
        conv => lhs; rhs; rw [e]
        grind
      rw [e2, e3, add_f, PS.X_mul, add_f _ (X * _), PS.X_mul]
      show _ + (der (sh a * b)).f n = _ + (der (sh a) * b + sh a * der b).f n
      rw [ih]
  ext n
  exact go n a
theorem Pl.der {a : PS} : Pl a → Pl (AW.der a) := fun ⟨n, h⟩ => ⟨_, h.der⟩
theorem der_pow (f : PS) : ∀ e : Nat, der (f ^ (e + 1)) = PS.C ((e + 1 : Nat) : Rat) * f ^ e * der f
  | 0 => by
    have : ((0 + 1 : Nat) : Rat) = 1 := rfl
    rw [this, C_one, show (f ^ (0 + 1) : PS) = f by grind]; grind
  | e + 1 => by
    have h : (f ^ (e + 1 + 1) : PS) = f ^ (e + 1) * f := by grind
    rw [h, der_mul, der_pow f e, show ((e + 1 + 1 : Nat) : Rat) = ((e + 1 : Nat) : Rat) + 1 by rw [Rat.natCast_add]; rfl, C_add, C_one]
    have : (f ^ (e + 1) : PS) = f ^ e * f := by grind
    rw [this]
    grind
theorem Dg.der {a : PS} {n : Nat} (h : Dg a (n + 1)) : Dg (AW.der a) n := ⟨h.1.der.mono (by omega), by
  show ((n + 1 : Nat) : Rat) * a.f (n + 1) ≠ 0
  have h1 := h.2
  have h2 : ((n + 1 : Nat) : Rat) ≠ 0 := by
    have : (((n + 1 : Nat) : Int) : Rat) ≠ 0 := int_ne (by omega)
    exact this
  intro z
  rcases Rat.mul_eq_zero.mp z with q | q
  · exact h2 q
  · exact h1 q⟩
/-! ### no common part -/
def Cop (a b : PS) : Prop := ∃ u v, Pl u ∧ Pl v ∧ u * a + v * b = 1
theorem Cop.symm {a b : PS} : Cop a b → Cop b a := fun ⟨u, v, h1, h2, e⟩ => ⟨v, u, h2, h1, by grind⟩
theorem Cop.one (a : PS) : Cop a 1 := ⟨0, 1, Pl.zero, Pl.one, by grind⟩
theorem Cop.mul {a b c : PS} (pa : Pl a) (pb : Pl b) (pc : Pl c) : Cop a b → Cop a c → Cop a (b * c) := fun ⟨u, v, h1, h2, e⟩ ⟨s, t, k1, k2, f⟩ =>
  ⟨u + v * b * s, v * t, h1.add ((h2.mul pb).mul k1), h2.mul k2, by
    have : (u + v * b * s) * a + v * t * (b * c) = u * a + v * b * (s * a + t * c) := by grind
    rw [this, f]
    grind⟩
theorem Cop.mul_l {a b c : PS} (pa : Pl a) (pb : Pl b) (pc : Pl c) (h : Cop a c) (k : Cop b c) : Cop (a * b) c := (Cop.mul pc pa pb h.symm k.symm).symm
theorem Cop.pow {a b : PS} (pa : Pl a) (pb : Pl b) (h : Cop a b) : ∀ n : Nat, Cop a (b ^ n)
  | 0 => Cop.one a
  | n + 1 => (Cop.mul pa (pb.pow n) pb (Cop.pow pa pb h n) h)
theorem Cop.dv {a b d : PS} (h : Cop a b) (k : Dv d b) : Cop a d := by
  obtain ⟨u, v, h1, h2, e⟩ := h
  obtain ⟨s, ps, rfl⟩ := k
  exact ⟨u, v * s, h1, h2.mul ps, by rw [← e]; grind⟩
theorem Cop.dv_l {a b d : PS} (h : Cop a b) (k : Dv d a) : Cop d b := (h.symm.dv k).symm
theorem Cop.dv_mul {a b c : PS} (pc : Pl c) (h : Cop a b) (k : Dv a (b * c)) : Dv a c := by
  obtain ⟨u, v, h1, h2, e⟩ := h
  obtain ⟨s, ps, es⟩ := k
  refine ⟨u * c + v * s, (h1.mul pc).add (h2.mul ps), ?_⟩
  have : c = (u * a + v * b) * c := by rw [e]; grind
  rw [this]
  have : v * b * c = v * s * a := by rw [show v * b * c = v * (b * c) by grind, es]; grind
  grind
theorem Cop.mul_dv {a b c : PS} (h : Cop a b) (h1 : Dv a c) (h2 : Dv b c) : Dv (a * b) c := by
  obtain ⟨u, v, pu, pv, e⟩ := h
  obtain ⟨s, ps, es⟩ := h1
  obtain ⟨t, pt, et⟩ := h2
  refine ⟨u * t + v * s, (pu.mul pt).add (pv.mul ps), ?_⟩
  have : c = u * a * c + v * b * c := by
    rw [show u * a * c + v * b * c = (u * a + v * b) * c by grind, e]; grind
  rw [this]
  have q1 : u * a * c = u * a * (t * b) := by rw [← et]
  have q2 : v * b * c = v * b * (s * a) := by rw [← es]
  grind
theorem Cop.add_mul {a b : PS} (h : Cop a b) {s : PS} (ps : Pl s) : Cop a (b + s * a) := by
  obtain ⟨u, v, pu, pv, e⟩ := h
  exact ⟨u - v * s, v, pu.sub (pv.mul ps), pv, by rw [← e]; grind⟩
theorem Cop.smul {a b : PS} {c : Rat} (h : Cop a b) (hc : c ≠ 0) : Cop a (PS.C c * b) := by
  obtain ⟨u, v, pu, pv, e⟩ := h
  have := C_cancel hc
  exact ⟨u, PS.C c⁻¹ * v, pu, (Pl.C _).mul pv, by rw [← e]; grind⟩
theorem Cop.gcd {a b : PS} (pa : Pl a) (pb : Pl b) (h : Cop a b) : AW.gcd a b = 1 := by
  obtain ⟨u, v, pu, pv, e⟩ := h
  exact gcd_eq (IsG.of pa pb Mn.one ⟨a, pa, by grind⟩ ⟨b, pb, by grind⟩ pu pv e.symm)
theorem cop_of_gcd {a b : PS} (pa : Pl a) (pb : Pl b) (h : gcd a b = 1) : Cop a b := by
  obtain ⟨u, v, pu, pv, e⟩ := (gcd_is pa pb).comb
  exact ⟨u, v, pu, pv, by rw [← e, h]⟩
/-- the common part of multiples -/
theorem gcd_mul {a b d : PS} {n : Nat} (pa : Pl a) (pb : Pl b) (hd : Mn d n) (h : Cop a b) : gcd (d * a) (d * b) = d := by
  obtain ⟨u, v, pu, pv, e⟩ := h
  have pd := hd.dg.pl
  exact gcd_eq (IsG.of (pd.mul pa) (pd.mul pb) hd ⟨a, pa, by grind⟩ ⟨b, pb, by grind⟩ pu pv (by
    rw [show u * (d * a) + v * (d * b) = (u * a + v * b) * d by grind, e]; grind))
/-! ### products of powers of simple ones -/
def Lp : List (PS × Nat) → PS
  | [] => 1
  | z :: F => z.1 * Lp F
def Pw : List (PS × Nat) → PS
  | [] => 1
  | z :: F => z.1 ^ z.2 * Pw F
/-- with each times less one by k -/
def Pm (k : Nat) : List (PS × Nat) → PS
  | [] => 1
  | z :: F => z.1 ^ (z.2 - k) * Pm k F
def Rk (k : Nat) : List (PS × Nat) → PS
  | [] => 0
  | z :: F => PS.C ((z.2 : Rat) - (k : Rat)) * der z.1 * Lp F + z.1 * Rk k F
def Good : List (PS × Nat) → Prop
  | [] => True
  | z :: F => (∃ m, Mn z.1 (m + 1)) ∧ Cop z.1 (der z.1) ∧ 1 ≤ z.2 ∧ (∀ y ∈ F, Cop z.1 y.1) ∧ Good F
theorem Good.mn {F : List (PS × Nat)} (h : Good F) : ∀ z ∈ F, (∃ m, Mn z.1 (m + 1)) ∧ Cop z.1 (der z.1) ∧ 1 ≤ z.2 := by
  induction F with
  | nil => intro z hz; cases hz
  | cons y F ih =>
    obtain ⟨h1, h2, h3, h4, h5⟩ := h
    intro z hz
    rcases List.mem_cons.mp hz with rfl | hz
    · exact ⟨h1, h2, h3⟩
    · exact ih h5 z hz
theorem Good.filter {F : List (PS × Nat)} (h : Good F) (q : PS × Nat → Bool) : Good (F.filter q) := by
  induction F with
  | nil => exact h
  | cons y F ih =>
    obtain ⟨h1, h2, h3, h4, h5⟩ := h
    rw [List.filter_cons]
    split
    · exact ⟨h1, h2, h3, fun z hz => h4 z (List.mem_filter.mp hz).1, ih h5⟩
    · exact ih h5
theorem Lp_mn {F : List (PS × Nat)} (h : Good F) : ∃ n, Mn (Lp F) n := by
  induction F with
  | nil => exact ⟨0, Mn.one⟩
  | cons y F ih =>
    obtain ⟨⟨m, h1⟩, _, _, _, h5⟩ := h
    obtain ⟨n, hn⟩ := ih h5
    exact ⟨_, h1.mul hn⟩
theorem Pw_mn {F : List (PS × Nat)} (h : Good F) : ∃ n, Mn (Pw F) n := by
  induction F with
  | nil => exact ⟨0, Mn.one⟩
  | cons y F ih =>
    obtain ⟨⟨m, h1⟩, _, _, _, h5⟩ := h
    obtain ⟨n, hn⟩ := ih h5
    exact ⟨_, (h1.pow y.2).mul hn⟩
theorem Pm_mn (k : Nat) {F : List (PS × Nat)} (h : Good F) : ∃ n, Mn (Pm k F) n := by
  induction F with
  | nil => exact ⟨0, Mn.one⟩
  | cons y F ih =>
    obtain ⟨⟨m, h1⟩, _, _, _, h5⟩ := h
    obtain ⟨n, hn⟩ := ih h5
    exact ⟨_, (h1.pow (y.2 - k)).mul hn⟩
theorem Lp_pl {F : List (PS × Nat)} (h : Good F) : Pl (Lp F) := by obtain ⟨n, hn⟩ := Lp_mn h; exact hn.dg.pl
theorem Rk_pl (k : Nat) {F : List (PS × Nat)} (h : Good F) : Pl (Rk k F) := by
  induction F with
  | nil => exact Pl.zero
  | cons y F ih =>
    obtain ⟨⟨m, h1⟩, _, _, _, h5⟩ := h
    exact (((Pl.C _).mul h1.dg.pl.der).mul (Lp_pl h5)).add (h1.dg.pl.mul (ih h5))
/-- the slope of the product of simple ones -/
theorem der_Lp (k : Nat) (F : List (PS × Nat)) : Rk k F - der (Lp F) = Rk (k + 1) F := by
  induction F with
  | nil => show (0 : PS) - der 1 = 0; rw [der_one]; grind
  | cons y F ih =>
    show PS.C ((y.2 : Rat) - (k : Rat)) * der y.1 * Lp F + y.1 * Rk k F - der (y.1 * Lp F) = PS.C ((y.2 : Rat) - ((k + 1 : Nat) : Rat)) * der y.1 * Lp F + y.1 * Rk (k + 1) F
    rw [← ih, der_mul, show (y.2 : Rat) - (k : Rat) = ((y.2 : Rat) - ((k + 1 : Nat) : Rat)) + 1 by rw [Rat.natCast_add]; show _ = _ - (_ + 1) + 1; grind, C_add, C_one]
    grind
/-- with all times above k: the slope of the product of powers less by k -/
theorem der_Pm (k : Nat) {F : List (PS × Nat)} (h : ∀ z ∈ F, k < z.2) : der (Pm k F) = Pm (k + 1) F * Rk k F ∧ Pm k F = Lp F * Pm (k + 1) F := by
  induction F with
  | nil => exact ⟨by show der 1 = 1 * 0; rw [der_one]; grind, by show (1 : PS) = 1 * 1; grind⟩
  | cons y F ih =>
    obtain ⟨e1, e2⟩ := ih fun z hz => h z (List.mem_cons_of_mem _ hz)
    have hy := h y List.mem_cons_self
    obtain ⟨t, ht⟩ : ∃ t, y.2 - k = t + 1 := ⟨y.2 - k - 1, by omega⟩
    have ht' : y.2 - (k + 1) = t := by omega
    have hc : ((t + 1 : Nat) : Rat) = (y.2 : Rat) - (k : Rat) := by
      have : y.2 = t + 1 + k := by omega
      rw [this, Rat.natCast_add (t + 1) k]
      grind
    constructor
    · show der (y.1 ^ (y.2 - k) * Pm k F) = y.1 ^ (y.2 - (k + 1)) * Pm (k + 1) F * (PS.C ((y.2 : Rat) - (k : Rat)) * der y.1 * Lp F + y.1 * Rk k F)
      rw [ht, ht', der_mul, der_pow, e1, e2, hc, show (y.1 ^ (t + 1) : PS) = y.1 ^ t * y.1 by grind]
      grind
    · show y.1 ^ (y.2 - k) * Pm k F = y.1 * Lp F * (y.1 ^ (y.2 - (k + 1)) * Pm (k + 1) F)
      rw [ht, ht', e2, show (y.1 ^ (t + 1) : PS) = y.1 ^ t * y.1 by grind]
      grind
theorem Pm_zero (F : List (PS × Nat)) : Pm 0 F = Pw F := by
  induction F with
  | nil => rfl
  | cons y F ih => show y.1 ^ (y.2 - 0) * Pm 0 F = _; rw [ih]; rfl
theorem Cop.Lp {f : PS} {F : List (PS × Nat)} (pf : Pl f) (g : Good F) (h : ∀ y ∈ F, Cop f y.1) : Cop f (AW.Lp F) := by
  induction F with
  | nil => exact Cop.one f
  | cons y F ih =>
    obtain ⟨⟨m, h1⟩, _, _, _, h5⟩ := g
    exact Cop.mul pf h1.dg.pl (Lp_pl h5) (h y List.mem_cons_self) (ih h5 fun z hz => h z (List.mem_cons_of_mem _ hz))
/-- no times is k: nothing common -/
theorem Rk_cop (k : Nat) {F : List (PS × Nat)} (g : Good F) (h : ∀ z ∈ F, z.2 ≠ k) : Cop (Lp F) (Rk k F) := by
  induction F with
  | nil => exact (Cop.one _).symm
  | cons y F ih =>
    obtain ⟨⟨m, h1⟩, h2, h3, h4, h5⟩ := g
    have ih := ih h5 fun z hz => h z (List.mem_cons_of_mem _ hz)
    have hy := h y List.mem_cons_self
    have pf := h1.dg.pl
    have cf : Cop y.1 (Lp F) := Cop.Lp pf h5 h4
    have hc : (y.2 : Rat) - (k : Rat) ≠ 0 := fun z => by
      have e : (y.2 : Rat) = (k : Rat) := by grind
      exact hy (Rat.natCast_inj.mp e)
    show Cop (y.1 * Lp F) (PS.C ((y.2 : Rat) - (k : Rat)) * der y.1 * Lp F + y.1 * Rk k F)
    have pR : Pl (PS.C ((y.2 : Rat) - (k : Rat)) * der y.1 * Lp F + y.1 * Rk k F) := (((Pl.C _).mul pf.der).mul (Lp_pl h5)).add (pf.mul (Rk_pl k h5))
    refine Cop.mul_l pf (Lp_pl h5) pR ?_ ?_
    · have c1 : Cop y.1 (PS.C ((y.2 : Rat) - (k : Rat)) * der y.1 * Lp F) := Cop.mul pf ((Pl.C _).mul pf.der) (Lp_pl h5) (h2.smul hc) cf
      have := c1.add_mul (Rk_pl k h5)
      rw [show y.1 * Rk k F = Rk k F * y.1 by grind]
      exact this
    · have c1 : Cop (Lp F) (y.1 * Rk k F) := Cop.mul (Lp_pl h5) pf (Rk_pl k h5) cf.symm ih
      have := c1.add_mul ((Pl.C ((y.2 : Rat) - (k : Rat))).mul pf.der)
      rw [show PS.C ((y.2 : Rat) - (k : Rat)) * der y.1 * Lp F + y.1 * Rk k F = y.1 * Rk k F + PS.C ((y.2 : Rat) - (k : Rat)) * der y.1 * Lp F by grind]
      exact this
/-- those of times k, and the others -/
def At (k : Nat) (F : List (PS × Nat)) : List (PS × Nat) := F.filter fun z => z.2 == k
def Ov (k : Nat) (F : List (PS × Nat)) : List (PS × Nat) := F.filter fun z => !(z.2 == k)
theorem split_at (k : Nat) (F : List (PS × Nat)) : Lp F = Lp (At k F) * Lp (Ov k F) ∧ Rk k F = Lp (At k F) * Rk k (Ov k F) := by
  induction F with
  | nil => exact ⟨by show (1 : PS) = 1 * 1; grind, by show (0 : PS) = 1 * 0; grind⟩
  | cons y F ih =>
    obtain ⟨e1, e2⟩ := ih
    unfold At Ov at *
    rw [List.filter_cons, List.filter_cons]
    by_cases h : y.2 = k
    · simp only [h, beq_self_eq_true, if_true, Bool.not_true, if_false, Bool.false_eq_true]
      refine ⟨?_, ?_⟩
      · show y.1 * Lp F = y.1 * Lp _ * _
        rw [e1]; grind
      · show PS.C ((y.2 : Rat) - (k : Rat)) * der y.1 * Lp F + y.1 * Rk k F = y.1 * Lp _ * _
        rw [h, show (k : Rat) - (k : Rat) = 0 by grind, C_zero, e2]
        grind
    · simp only [h, beq_iff_eq, if_false, Bool.not_eq_true', beq_eq_false_iff_ne, ne_eq, not_false_eq_true, if_true]
      refine ⟨?_, ?_⟩
      · show y.1 * Lp F = _ * (y.1 * Lp _)
        rw [e1]; grind
      · show PS.C ((y.2 : Rat) - (k : Rat)) * der y.1 * Lp F + y.1 * Rk k F = _ * (PS.C ((y.2 : Rat) - (k : Rat)) * der y.1 * Lp _ + y.1 * Rk k _)
        rw [e2, e1]
        grind
theorem gcd_at (k : Nat) {F : List (PS × Nat)} (g : Good F) : gcd (Lp F) (Rk k F) = Lp (At k F) := by
  obtain ⟨e1, e2⟩ := split_at k F
  rw [e1, e2]
  have g2 : Good (Ov k F) := g.filter _
  obtain ⟨n, hn⟩ := Lp_mn (g.filter (fun z => z.2 == k))
  refine gcd_mul (Lp_pl g2) (Rk_pl k g2) (n := n) hn (Rk_cop k g2 fun z hz => ?_)
  have := (List.mem_filter.mp hz).2
  simpa using this
theorem quo_at (k : Nat) {F : List (PS × Nat)} (g : Good F) : quo (Lp F) (Lp (At k F)) = Lp (Ov k F) ∧ quo (Rk k F) (Lp (At k F)) = Rk k (Ov k F) := by
  obtain ⟨e1, e2⟩ := split_at k F
  have g2 : Good (Ov k F) := g.filter _
  obtain ⟨n, hn⟩ := Lp_mn (g.filter (fun z => z.2 == k))
  have hn : Mn (Lp (At k F)) n := hn
  exact ⟨by rw [e1, show Lp (At k F) * Lp (Ov k F) = Lp (Ov k F) * Lp (At k F) by grind]; exact (quo_mul hn.dg.pl hn.dg.ne (Lp_pl g2)).1,
    by rw [e2, show Lp (At k F) * Rk k (Ov k F) = Rk k (Ov k F) * Lp (At k F) by grind]; exact (quo_mul hn.dg.pl hn.dg.ne (Rk_pl k g2)).1⟩
/-! ### there is such a product -/
theorem irr_ex {p : PS} {n : Nat} (hp : Mn p (n + 1)) : ∃ f m, Mn f (m + 1) ∧ Dv f p ∧ ∀ h, Pl h → Cop f h ∨ Dv f h := by
  obtain ⟨m, ⟨m1, f, hf, hd⟩, hmin⟩ := least (P := fun m => 1 ≤ m ∧ ∃ f, Mn f m ∧ Dv f p) (n := n + 1) ⟨by omega, p, hp, Dv.refl p⟩
  obtain ⟨m, rfl⟩ : ∃ k, m = k + 1 := ⟨m - 1, by omega⟩
  refine ⟨f, m, hf, hd, fun h ph => ?_⟩
  have ig := gcd_is hf.dg.pl ph
  obtain ⟨j, hj⟩ := gcd_mn hf.dg.pl ph (.inl hf.dg.ne)
  have jm := ig.dvl.dg hj.dg hf.dg
  rcases Nat.eq_zero_or_pos j with z | z
  · subst z
    left
    refine cop_of_gcd hf.dg.pl ph ?_
    have := Dg.const hj.1
    rw [this, hj.2, C_one]
  · right
    have hjm : j = m + 1 := by
      rcases Nat.lt_or_ge j (m + 1) with q | q
      · exact absurd ⟨z, _, hj, ig.dvl.trans hd⟩ (hmin j q)
      · omega
    subst hjm
    -- the divisor has the whole degree
    have e : gcd f h = f := by
      obtain ⟨s, ps, e⟩ := ig.dvl
      have s0 : s ≠ 0 := fun q => hf.dg.ne (by rw [e, q]; grind)
      obtain ⟨l, hl⟩ := ps.dg s0
      have q := hl.mul hj.dg
      rw [← e] at q
      have q := q.uniq hf.dg
      have : l = 0 := by omega
      subst this
      have cs := Dg.const hl.1
      have t := hf.2
      rw [e, cs, C_mul, hj.2] at t
      have : s = 1 := by rw [cs, show s.f 0 = 1 by grind, C_one]
      rw [this] at e
      rw [show (1 : PS) * gcd f h = gcd f h by grind] at e
      exact e.symm
    have := ig.dvr
    rw [e] at this
    exact this
theorem max_pow {f : PS} {m : Nat} (hf : Mn f (m + 1)) : ∀ (n : Nat) {p : PS}, Mn p n → ∃ e q j, p = f ^ e * q ∧ Mn q j ∧ ¬ Dv f q ∧ n = (m + 1) * e + j := fun n => by
  induction n using Nat.strongRecOn with
  | _ n ih =>
    intro p hp
    by_cases d : Dv f p
    · obtain ⟨s, ps, e⟩ := d
      have s0 : s ≠ 0 := fun q => hp.dg.ne (by rw [e, q]; grind)
      obtain ⟨l, hl⟩ := ps.dg s0
      have q := hl.mul hf.dg
      rw [← e] at q
      have q := q.uniq hp.dg
      have hs : Mn s l := ⟨hl.1, by
        have t := hp.2
        rw [e, ← q, top_mul hf.1 hl.1, hf.2] at t
        grind⟩
      obtain ⟨e', q', j, h1, h2, h3, h4⟩ := ih l (by omega) hs
      refine ⟨e' + 1, q', j, by rw [e, h1, show (f ^ (e' + 1) : PS) = f ^ e' * f by grind]; grind, h2, h3, ?_⟩
      rw [Nat.mul_add]
      omega
    · exact ⟨0, p, n, by rw [show (f ^ 0 : PS) = 1 by grind]; grind, hp, d, by omega⟩
theorem Pw_dv {F : List (PS × Nat)} (g : Good F) : ∀ z ∈ F, Dv z.1 (Pw F) := by
  induction F with
  | nil => intro z hz; cases hz
  | cons y F ih =>
    obtain ⟨⟨m, h1⟩, _, h3, _, h5⟩ := g
    intro z hz
    have pP : Pl (Pw F) := by obtain ⟨n, hn⟩ := Pw_mn h5; exact hn.dg.pl
    rcases List.mem_cons.mp hz with rfl | hz
    · refine Dv.mul_r _ pP ?_
      refine ⟨z.1 ^ (z.2 - 1), h1.dg.pl.pow _, ?_⟩
      obtain ⟨t, ht⟩ : ∃ t, z.2 = t + 1 := ⟨z.2 - 1, by omega⟩
      rw [ht, Nat.add_sub_cancel]
      grind
    · exact (ih h5 z hz).mul _ (h1.dg.pl.pow _)
theorem good_ex : ∀ (n : Nat) {p : PS}, Mn p n → ∃ F, Good F ∧ Pw F = p := fun n => by
  induction n using Nat.strongRecOn with
  | _ n ih =>
    intro p hp
    cases n with
    | zero =>
      refine ⟨[], trivial, ?_⟩
      have := Dg.const hp.1
      rw [this, hp.2, C_one]
      rfl
    | succ n =>
      obtain ⟨f, m, hf, hd, irr⟩ := irr_ex hp
      obtain ⟨e, q, j, h1, h2, h3, h4⟩ := max_pow hf _ hp
      have e1 : 1 ≤ e := by
        rcases Nat.eq_zero_or_pos e with z | z
        · subst z
          rw [show (f ^ 0 : PS) * q = q by grind] at h1
          rw [h1] at hd
          exact absurd hd h3
        · exact z
      have hj : j < n + 1 := by
        have : (m + 1) * 1 ≤ (m + 1) * e := Nat.mul_le_mul_left _ e1
        omega
      obtain ⟨F, gF, eF⟩ := ih j hj h2
      have cq : Cop f q := (irr q h2.dg.pl).resolve_right h3
      refine ⟨(f, e) :: F, ⟨⟨m, hf⟩, ?_, e1, fun y hy => ?_, gF⟩, ?_⟩
      · rcases irr (der f) hf.dg.pl.der with c | c
        · exact c
        · have := c.dg hf.dg hf.dg.der
          omega
      · have := Pw_dv gF y hy
        rw [eF] at this
        exact cq.dv this
      · show f ^ e * Pw F = p
        rw [eF, ← h1]
end AW

/-! AwPrt: the program's simple parts. -/
namespace AW
open PySem PySem.Spec PyProof.Rows
/-- those of times k and more -/
def Ge (k : Nat) (F : List (PS × Nat)) : List (PS × Nat) := F.filter fun z => decide (k ≤ z.2)
theorem at_ge (k : Nat) (F : List (PS × Nat)) : At k (Ge k F) = At k F := by
  unfold At Ge
  rw [List.filter_filter]
  refine List.filter_congr fun z _ => ?_
  by_cases h : z.2 = k <;> simp [h]
theorem ov_ge (k : Nat) (F : List (PS × Nat)) : Ov k (Ge k F) = Ge (k + 1) F := by
  unfold Ov Ge
  rw [List.filter_filter]
  refine List.filter_congr fun z _ => ?_
  by_cases h : z.2 = k
  · subst h; simp
  · by_cases h2 : k ≤ z.2
    · have : k + 1 ≤ z.2 := by omega
      simp [h, h2, this]
    · have : ¬ k + 1 ≤ z.2 := by omega
      simp [h2, this]
theorem ge_one {F : List (PS × Nat)} (g : Good F) : Ge 1 F = F := by
  unfold Ge
  rw [List.filter_eq_self]
  intro z hz
  have := (g.mn z hz).2.2
  simpa using this
theorem Good.pair {F : List (PS × Nat)} (g : Good F) : ∀ z ∈ F, ∀ y ∈ F, z.2 ≠ y.2 → Cop z.1 y.1 := by
  induction F with
  | nil => intro z hz; cases hz
  | cons w F ih =>
    obtain ⟨h1, h2, h3, h4, h5⟩ := g
    intro z hz y hy hne
    rcases List.mem_cons.mp hz with e1 | h1'
    · rcases List.mem_cons.mp hy with e2 | h2'
      · exact absurd (by rw [e1, e2]) hne
      · rw [e1]; exact h4 y h2'
    · rcases List.mem_cons.mp hy with e2 | h2'
      · rw [e2]; exact (h4 z h1').symm
      · exact ih h5 z h1' y h2' hne
/-! ### divisors -/
theorem Pw_filter_dv {F : List (PS × Nat)} (g : Good F) (q : PS × Nat → Bool) : Dv (Pw (F.filter q)) (Pw F) := by
  induction F with
  | nil => exact Dv.refl _
  | cons y F ih =>
    obtain ⟨⟨m, h1⟩, _, _, _, h5⟩ := g
    rw [List.filter_cons]
    split
    · exact (Dv.refl _).mul_mul (ih h5)
    · exact (ih h5).mul _ (h1.dg.pl.pow _)
theorem pow_dv {f : PS} (pf : Pl f) {a b : Nat} (h : a ≤ b) : Dv (f ^ a) (f ^ b) := by
  obtain ⟨c, rfl⟩ : ∃ c, b = c + a := ⟨b - a, by omega⟩
  exact ⟨f ^ c, pf.pow c, by grind⟩
theorem Lp_dv {F : List (PS × Nat)} (g : Good F) : Dv (Lp F) (Pw F) := by
  induction F with
  | nil => exact Dv.refl _
  | cons y F ih =>
    obtain ⟨⟨m, h1⟩, _, h3, _, h5⟩ := g
    have := pow_dv h1.dg.pl h3
    rw [show (y.1 ^ 1 : PS) = y.1 by grind] at this
    exact this.mul_mul (ih h5)
theorem Pm_dv (k : Nat) {F : List (PS × Nat)} (g : Good F) : Dv (Pm k F) (Pw F) := by
  induction F with
  | nil => exact Dv.refl _
  | cons y F ih =>
    obtain ⟨⟨m, h1⟩, _, _, _, h5⟩ := g
    exact (pow_dv h1.dg.pl (Nat.sub_le _ _)).mul_mul (ih h5)
/-! ### the told parts -/
def partsF (F : List (PS × Nat)) : Nat → List (PS × Nat)
  | 0 => []
  | K + 1 => partsF F K ++ (if At (K + 1) F = [] then [] else [(Lp (At (K + 1) F), K + 1)])
def SP (p : PS) (L : List (PS × Nat)) : Prop := ∃ F K, Good F ∧ Pw F = mon p ∧ (∀ z ∈ F, z.2 ≤ K) ∧ L = partsF F K
theorem partsF_mem {F : List (PS × Nat)} {K : Nat} : ∀ z ∈ partsF F K, 1 ≤ z.2 ∧ z.2 ≤ K ∧ z.1 = Lp (At z.2 F) ∧ At z.2 F ≠ [] := by
  induction K with
  | zero => intro z hz; cases hz
  | succ K ih =>
    intro z hz
    rcases List.mem_append.mp hz with hz | hz
    · obtain ⟨h1, h2, h3⟩ := ih z hz
      exact ⟨h1, by omega, h3⟩
    · by_cases h : At (K + 1) F = []
      · rw [if_pos h] at hz; cases hz
      · rw [if_neg h] at hz
        rcases List.mem_cons.mp hz with rfl | hz
        · exact ⟨by omega, Nat.le_refl _, rfl, h⟩
        · cases hz
theorem at_mn {F : List (PS × Nat)} (g : Good F) {k : Nat} (h : At k F ≠ []) : ∃ m, Mn (Lp (At k F)) (m + 1) := by
  have g2 : Good (At k F) := g.filter _
  cases hA : At k F with
  | nil => exact absurd hA h
  | cons y A =>
    rw [hA] at g2
    obtain ⟨⟨m, h1⟩, _, _, _, h5⟩ := g2
    obtain ⟨n, hn⟩ := Lp_mn h5
    have := h1.mul hn
    exact ⟨m + n, by rw [show m + n + 1 = m + 1 + n by omega]; exact this⟩
theorem at_der {F : List (PS × Nat)} (g : Good F) {k : Nat} (hk : 1 ≤ k) : Cop (Lp (At k F)) (der (Lp (At k F))) := by
  have g2 : Good (At k F) := g.filter _
  have ht : ∀ z ∈ At k F, z.2 = k := fun z hz => by simpa using (List.mem_filter.mp hz).2
  have e1 := der_Lp (k - 1) (At k F)
  rw [show k - 1 + 1 = k by omega] at e1
  have e0 : ∀ A : List (PS × Nat), (∀ z ∈ A, z.2 = k) → Rk k A = 0 := fun A => by
    induction A with
    | nil => intro _; rfl
    | cons y A ih =>
      intro h
      show PS.C ((y.2 : Rat) - (k : Rat)) * der y.1 * Lp A + y.1 * Rk k A = 0
      rw [ih fun z hz => h z (List.mem_cons_of_mem _ hz), h y List.mem_cons_self, show (k : Rat) - (k : Rat) = 0 by grind, PS.C_zero]
      grind
  rw [e0 _ ht] at e1
  have e2 : der (Lp (At k F)) = Rk (k - 1) (At k F) := by grind
  rw [e2]
  exact Rk_cop _ g2 fun z hz => by have := ht z hz; omega
theorem at_cop {F : List (PS × Nat)} (g : Good F) {i j : Nat} (h : i ≠ j) : Cop (Lp (At i F)) (Lp (At j F)) := by
  have g1 : Good (At i F) := g.filter _
  have g2 : Good (At j F) := g.filter _
  refine Cop.Lp (Lp_pl g1) g2 fun y hy => (Cop.Lp (g2.mn y hy).1.choose_spec.dg.pl g1 fun z hz => ?_).symm
  have e1 : z.2 = i := by simpa using (List.mem_filter.mp hz).2
  have e2 : y.2 = j := by simpa using (List.mem_filter.mp hy).2
  exact g.pair y (List.mem_filter.mp hy).1 z (List.mem_filter.mp hz).1 (by omega)
theorem good_snoc {L : List (PS × Nat)} {a : PS} {k : Nat} (g : Good L) (h1 : ∃ m, Mn a (m + 1)) (h2 : Cop a (der a)) (h3 : 1 ≤ k) (h4 : ∀ z ∈ L, Cop z.1 a) : Good (L ++ [(a, k)]) := by
  induction L with
  | nil => exact ⟨h1, h2, h3, (fun y hy => by cases hy), trivial⟩
  | cons y L ih =>
    obtain ⟨g1, g2, g3, g4, g5⟩ := g
    refine ⟨g1, g2, g3, fun z hz => ?_, ih g5 fun z hz => h4 z (List.mem_cons_of_mem _ hz)⟩
    rcases List.mem_append.mp hz with hz | hz
    · exact g4 z hz
    · rcases List.mem_cons.mp hz with rfl | hz
      · exact h4 y List.mem_cons_self
      · cases hz
theorem partsF_good {F : List (PS × Nat)} (g : Good F) : ∀ K, Good (partsF F K)
  | 0 => trivial
  | K + 1 => by
    show Good (partsF F K ++ _)
    by_cases h : At (K + 1) F = []
    · rw [if_pos h, List.append_nil]; exact partsF_good g K
    · rw [if_neg h]
      refine good_snoc (partsF_good g K) (at_mn g h) (at_der g (by omega)) (by omega) fun z hz => ?_
      obtain ⟨h1, h2, h3, h4⟩ := partsF_mem z hz
      rw [h3]
      exact at_cop g (by omega)
theorem Pw_append (A B : List (PS × Nat)) : Pw (A ++ B) = Pw A * Pw B := by
  induction A with
  | nil => show Pw B = 1 * Pw B; grind
  | cons y A ih => show y.1 ^ y.2 * Pw (A ++ B) = y.1 ^ y.2 * Pw A * Pw B; rw [ih]; grind
theorem mul_pow' (a b : PS) : ∀ n : Nat, (a * b) ^ n = a ^ n * b ^ n
  | 0 => by grind
  | n + 1 => by
    rw [show (a * b) ^ (n + 1) = (a * b) ^ n * (a * b) by grind, mul_pow' a b n, show a ^ (n + 1) = a ^ n * a by grind, show b ^ (n + 1) = b ^ n * b by grind]
    grind
theorem one_pow' : ∀ n : Nat, (1 : PS) ^ n = 1
  | 0 => by grind
  | n + 1 => by rw [show (1 : PS) ^ (n + 1) = 1 ^ n * 1 by grind, one_pow' n]; grind
theorem partsF_Pw {F : List (PS × Nat)} {K : Nat} (h : ∀ z ∈ F, 1 ≤ z.2 ∧ z.2 ≤ K) : Pw (partsF F K) = Pw F := by
  let Q : Nat → List (PS × Nat) → PS := fun K F => (List.range K).foldr (fun j a => Lp (At (j + 1) F) ^ (j + 1) * a) 1
  have e1 : ∀ K, Pw (partsF F (K + 1)) = Pw (partsF F K) * Lp (At (K + 1) F) ^ (K + 1) := fun K => by
    show Pw (partsF F K ++ _) = _
    rw [Pw_append]
    by_cases h : At (K + 1) F = []
    · rw [if_pos h, h]
      show _ * (1 : PS) = _ * (1 : PS) ^ (K + 1)
      rw [one_pow']
    · rw [if_neg h]
      show _ * (Lp (At (K + 1) F) ^ (K + 1) * 1) = _
      grind
  have go : ∀ K, Pw (partsF F K) = Pw (F.filter fun z => decide (z.2 ≤ K)) * 1 := fun K => by
    induction K with
    | zero =>
      have : F.filter (fun z => decide (z.2 ≤ 0)) = [] := by
        rw [List.filter_eq_nil_iff]
        intro z hz
        have := (h z hz).1
        simp; omega
      rw [this]
      show (1 : PS) = 1 * 1
      grind
    | succ K ih =>
      rw [e1, ih]
      have sp : ∀ A : List (PS × Nat), Pw (A.filter fun z => decide (z.2 ≤ K + 1)) = Pw (A.filter fun z => decide (z.2 ≤ K)) * Lp (At (K + 1) A) ^ (K + 1) := fun A => by
        induction A with
        | nil => show (1 : PS) = 1 * (1 : PS) ^ (K + 1); rw [one_pow']; grind
        | cons y A ih =>
          unfold At at *
          rw [List.filter_cons, List.filter_cons, List.filter_cons]
          by_cases h1 : y.2 = K + 1
          · have h2 : ¬ y.2 ≤ K := by omega
            simp only [h1, h2, Nat.le_refl, decide_true, if_true, decide_false, beq_self_eq_true, show ¬ (K + 1 ≤ K) by omega]
            show y.1 ^ y.2 * Pw _ = _ * (y.1 * Lp _) ^ (K + 1)
            rw [ih, mul_pow', h1]
            grind
          · by_cases h2 : y.2 ≤ K
            · have h3 : y.2 ≤ K + 1 := by omega
              simp only [h2, h3, decide_true, if_true, beq_iff_eq, h1, if_false]
              show y.1 ^ y.2 * Pw _ = y.1 ^ y.2 * Pw _ * _
              rw [ih]
              grind
            · have h3 : ¬ y.2 ≤ K + 1 := by omega
              simp only [h2, h3, decide_false, beq_iff_eq, h1, if_false]
              exact ih
      rw [sp]
      grind
  rw [go K]
  have : F.filter (fun z => decide (z.2 ≤ K)) = F := by
    rw [List.filter_eq_self]
    intro z hz
    simpa using (h z hz).2
  rw [this]
  grind
theorem partsF_sorted {F : List (PS × Nat)} : ∀ K, (partsF F K).Pairwise fun a b => a.2 < b.2
  | 0 => List.Pairwise.nil
  | K + 1 => by
    show List.Pairwise _ (partsF F K ++ _)
    rw [List.pairwise_append]
    refine ⟨partsF_sorted K, ?_, fun a ha b hb => ?_⟩
    · split
      · exact List.Pairwise.nil
      · exact List.pairwise_singleton _ _
    · have := (partsF_mem a ha).2.1
      split at hb
      · cases hb
      · rcases List.mem_cons.mp hb with rfl | hb
        · show a.2 < K + 1
          omega
        · cases hb
theorem SP.good {p : PS} {L : List (PS × Nat)} (h : SP p L) : Good L ∧ Pw L = mon p ∧ L.Pairwise fun a b => a.2 < b.2 := by
  obtain ⟨F, K, g, e, hK, rfl⟩ := h
  exact ⟨partsF_good g K, by rw [partsF_Pw fun z hz => ⟨(g.mn z hz).2.2, hK z hz⟩, e], partsF_sorted K⟩
/-! ### the walk -/
noncomputable def pd (z : PS × Nat) : D := .tuple [po z.1, .int (z.2 : Nat)]
/-- the bits of what is left to be parted -/
def prb (N h l : Nat) : Nat := (N + 3) * (db N h l + l + 1)
def PartOk (N h l : Nat) : Prop := 4 * N + 2 ≤ 2 ^ l ∧ N ≤ 1000 ∧ ComOk N N (prb N h l) l
section
variable {G : Nat → D} {c : Nat → List Sl → R (D × Bool)} {T : List Fn} {nm : Nm}
def SpOft (c : Nat → List Sl → R (D × Bool)) (j : Nat) : Prop := ∀ (a b : PS) (m n h k : Nat), Z m h a → Z n k b → b ≠ 0 → m ≤ 20000 ∧ n ≤ 20000 ∧ h + (m + 2) * (k + 1) ≤ 39000000 → c j [.va (po a), .va (po b)] = va (po (quo a b))
theorem often_ok {jp : Nat} (hp : SpDiv c jp) {a b : PS} {m n h k : Nat} (za : Z m h a) (zb : Z n k b) (b0 : b ≠ 0) (hz : m ≤ 20000 ∧ n ≤ 20000 ∧ h + (m + 2) * (k + 1) ≤ 39000000) : bo G c T (b_often_in jp) [.va (po a), .va (po b)] 0 = va (po (quo a b)) := by
  have e := hp a b m n h k za zb b0 hz
  unfold bo b_often_in
  simp [val, e]
def SpParts (c : Nat → List Sl → R (D × Bool)) (j : Nat) : Prop := ∀ (p : PS) (N h l : Nat), Z N h p → p ≠ 0 → PartOk N h l → ∃ L, SP p L ∧ c j [.va (po p)] = .ok (.list (L.map pd), true)
theorem Lp_len {F : List (PS × Nat)} (g : Good F) : ((toL (Lp F)).length > 1) ↔ F ≠ [] := by
  cases F with
  | nil => show (toL 1).length > 1 ↔ _; rw [toL_len Mn.one.dg]; simp
  | cons y F =>
    obtain ⟨⟨m, h1⟩, _, _, _, h5⟩ := g
    obtain ⟨n, hn⟩ := Lp_mn h5
    have := toL_len (h1.mul hn).dg
    show (toL (y.1 * Lp F)).length > 1 ↔ _
    rw [this]
    simp
    omega
theorem simple_parts_ok {e jm jl jc jo js jk jn : Nat} (hm : SpMon c jm) (hl : SpSlope c jl) (hc : SpCom c jc) (ho : SpOft c jo) (hs : SpSum c js) (hk : SpScaled c jk) (hn : SpNeg c jn) {p : PS} {N h l : Nat} (zp : Z N h p) (p0 : p ≠ 0) (ok : PartOk N h l) :
    ∃ L, SP p L ∧ bo G c T (b_simple_parts e jm jl jc jo js jk jn) [.va (po p)] 7 = .ok (.list (L.map pd), true) := by
  obtain ⟨ol, oN, oc⟩ := ok
  obtain ⟨oc1, oc2, oc3⟩ := oc
  have zm := zp.mon
  obtain ⟨n, dn⟩ := zp.pl.dg p0
  have hmn := mon_mn dn
  obtain ⟨F, gF, eF⟩ := good_ex n hmn
  obtain ⟨K, hK⟩ : ∃ K, ∀ z ∈ F, z.2 ≤ K := by
    clear eF gF
    induction F with
    | nil => exact ⟨0, fun z hz => by cases hz⟩
    | cons y F ih =>
      obtain ⟨K, hK⟩ := ih
      exact ⟨K + y.2, fun z hz => by
        rcases List.mem_cons.mp hz with rfl | hz
        · omega
        · have := hK z hz; omega⟩
  -- bits
  have nN := dn.lt zp.lt
  generalize hB : db N h l = B at *
  have hP : prb N h l = (N + 3) * (B + l + 1) := by unfold prb; rw [hB]
  rw [hP] at oc3
  have hBh : h + l + 2 ≤ B := by
    rw [← hB]
    unfold db
    have : 1 * (h + l + 2) ≤ (2 * N + 1) * (h + l + 2) := Nat.mul_le_mul_right _ (by omega)
    omega
  have hPe : (N + 3) * (B + l + 1) = N * (B + l + 1) + 3 * (B + l + 1) := Nat.add_mul _ _ _
  have hNB : N * (B + 1) ≤ N * (B + l + 1) := Nat.mul_le_mul_left _ (by omega)
  have hcb : (N + 3) * (B + l + 1) ≤ cb N N ((N + 3) * (B + l + 1)) l := by
    unfold cb
    have : 1 * ((N + 3) * (B + l + 1) + l) ≤ (N + N) * ((N + 3) * (B + l + 1) + l) := Nat.mul_le_mul_right _ (by omega)
    omega
  generalize hPP : (N + 3) * (B + l + 1) = P at *
  have hP4 : P + (N + N + 2) * (P + 1) ≤ 39000000 := by
    have := Nat.mul_le_mul_left (N + N + 2) (Nat.add_le_add_right hcb 1)
    omega
  have hPs : P ≤ 40000000 := by omega
  have hNP : (N + 2) * (B + 1) ≤ (N + N + 2) * (P + 1) := Nat.mul_le_mul (by omega) (by omega)
  have dvB : ∀ {g : PS} {d : Nat}, Mn g d → Dv g (Pw F) → Z N B g := fun {g d} hg hd => by
    rw [eF] at hd
    refine ⟨hg.1.mono (by have := hd.dg hg.dg hmn.dg; omega), ?_⟩
    rw [← hB]
    exact dv_hb hg zm hmn.dg.ne hd (by omega)
  have gG : ∀ k, Good (Ge k F) := fun k => gF.filter _
  have gA : ∀ k, Good (At k F) := fun k => gF.filter _
  have zL : ∀ k, Z N B (Lp (Ge k F)) := fun k => by
    obtain ⟨d, hd⟩ := Lp_mn (gG k)
    exact dvB hd ((Lp_dv (gG k)).trans (Pw_filter_dv gF _))
  have zA : ∀ k, Z N B (Lp (At k F)) := fun k => by
    obtain ⟨d, hd⟩ := Lp_mn (gA k)
    exact dvB hd ((Lp_dv (gA k)).trans (Pw_filter_dv gF _))
  have zR2 : ∀ k, Z N (B + l + N * (B + 1)) (Rk k (Ge (k + 1) F)) := fun k => by
    have g2 := gG (k + 1)
    obtain ⟨e1, e2⟩ := der_Pm k (F := Ge (k + 1) F) fun z hz => by
      have := (List.mem_filter.mp hz).2
      simp at this
      omega
    obtain ⟨d1, hd1⟩ := Pm_mn k g2
    obtain ⟨d2, hd2⟩ := Pm_mn (k + 1) g2
    have z1 := dvB hd1 ((Pm_dv k g2).trans (Pw_filter_dv gF _))
    have z2 := dvB hd2 ((Pm_dv (k + 1) g2).trans (Pw_filter_dv gF _))
    have z3 := z1.der (l := l) (by omega)
    have q := (Z.div (z3.mono (n := N) (by omega) (Nat.le_refl _)) ⟨hd2.1, z2.hb⟩ hd2.dg).1
    have eq : quo (der (Pm k (Ge (k + 1) F))) (Pm (k + 1) (Ge (k + 1) F)) = Rk k (Ge (k + 1) F) := by
      rw [e1, show Pm (k + 1) (Ge (k + 1) F) * Rk k (Ge (k + 1) F) = Rk k (Ge (k + 1) F) * Pm (k + 1) (Ge (k + 1) F) by grind]
      exact (quo_mul hd2.dg.pl hd2.dg.ne (Rk_pl k g2)).1
    rw [eq] at q
    exact q.mono (by omega) (Nat.le_refl _)
  have zR : ∀ k, 1 ≤ k → Z N P (Rk k (Ge k F)) := fun k hk => by
    obtain ⟨e1, e2⟩ := split_at k (Ge k F)
    rw [at_ge, ov_ge] at e2 e1
    have h1 := (zA k).hb.mul (zR2 k).hb (zA k).lt (l := l) (by omega)
    refine ⟨?_, ?_⟩
    · -- the degree
      have ltR : ∀ A : List (PS × Nat), Good A → ∀ d, Mn (Lp A) d → Lt (Rk k A) d := fun A => by
        induction A with
        | nil => intro _ d _; exact Lt.zero _
        | cons y A ih =>
          rintro ⟨⟨m, h1⟩, _, _, _, h5⟩ d hd
          obtain ⟨n', hn'⟩ := Lp_mn h5
          have ed : d = m + 1 + n' := hd.dg.uniq (h1.mul hn').dg
          subst ed
          have i := ih h5 _ hn'
          show Lt (PS.C ((y.2 : Rat) - (k : Rat)) * der y.1 * Lp A + y.1 * Rk k A) _
          refine Lt.add ?_ (h1.1.mul' i (by omega))
          have : Lt (PS.C ((y.2 : Rat) - (k : Rat)) * der y.1) (m + 1) := h1.1.der.smul _
          exact this.mul' hn'.1 (by omega)
      obtain ⟨d, hd⟩ := Lp_mn (gG k)
      have := hd.dg.lt (zL k).lt
      exact (ltR _ (gG k) d hd).mono (by omega)
    · rw [e2]
      exact h1.mono (by omega)
  -- the beginning
  have s1 := hm p N h zp (by omega)
  have zd := zm.der (l := l) (by omega)
  have zd' : Z N (h + l) (der (mon p)) := zd.mono (by omega) (Nat.le_refl _)
  have s2 := hl.z zm (by omega)
  obtain ⟨f1, f2⟩ := der_Pm 0 (F := F) fun z hz => by have := (gF.mn z hz).2.2; omega
  rw [Pm_zero, eF] at f1 f2
  obtain ⟨dP, hdP⟩ := Pm_mn 1 gF
  have hw : gcd (mon p) (der (mon p)) = Pm 1 F := by
    rw [f1]
    conv => lhs; lhs; rw [f2]
    rw [show Lp F * Pm (0 + 1) F = Pm 1 F * Lp F by grind]
    exact gcd_mul (Lp_pl gF) (Rk_pl 0 gF) hdP (Rk_cop 0 gF fun z hz => by have := (gF.mn z hz).2.2; omega)
  have ok1 : ComOk N N (h + l) l := by
    refine ⟨oc1, oc2, ?_⟩
    have c1 : cb N N (h + l) l ≤ cb N N P l := Nat.mul_le_mul_left _ (by omega)
    have c2 := Nat.mul_le_mul_left (N + N + 2) (Nat.add_le_add_right c1 1)
    omega
  have s3 := hc (mon p) (der (mon p)) N N (h + l) l (zm.mono (Nat.le_refl _) (by omega)) zd' ok1
  rw [hw] at s3
  have zW : Z N B (Pm 1 F) := dvB hdP (Pm_dv 1 gF)
  have s4 := ho (mon p) (Pm 1 F) N N h B zm zW hdP.dg.ne ⟨by omega, by omega, by omega⟩
  have eL : quo (mon p) (Pm 1 F) = Lp F := by
    conv => lhs; lhs; rw [f2]
    exact (quo_mul hdP.dg.pl hdP.dg.ne (Lp_pl gF)).1
  rw [eL] at s4
  have s5 := ho (der (mon p)) (Pm 1 F) N N (h + l) B zd' zW hdP.dg.ne ⟨by omega, by omega, by omega⟩
  have eR : quo (der (mon p)) (Pm 1 F) = Rk 0 F := by
    conv => lhs; lhs; rw [f1]
    rw [show Pm (0 + 1) F * Rk 0 F = Rk 0 F * Pm 1 F by grind]
    exact (quo_mul hdP.dg.pl hdP.dg.ne (Rk_pl 0 gF)).1
  have zR0 : Z N (h + l + N * (B + 1)) (Rk 0 F) := by
    have q := (Z.div zd' ⟨hdP.1, zW.hb⟩ hdP.dg).1
    rw [eR] at q
    exact q.mono (by omega) (Nat.le_refl _)
  rw [eR] at s5
  have b1 : ∀ {h : Nat}, Bd h (-1) := fun {h} => ⟨by show 1 ≤ _; exact Nat.one_le_two_pow, by show 1 ≤ _; exact Nat.one_le_two_pow⟩
  have neg1 := hn 1
  have zLF : Z N B (Lp F) := by have := zL 1; rwa [ge_one gF] at this
  have step : ∀ {A R : PS} {n1 n2 : Nat}, Z N n1 A → Z N n2 R → n1 + l ≤ P → n2 ≤ P → c jl [.va (po A)] = va (po (der A)) ∧ c jk [.va (po (der A)), .va (fr (-1))] = va (po (PS.C (-1) * der A)) ∧ c js [.va (po R), .va (po (PS.C (-1) * der A))] = va (po (R - der A)) := fun {A R n1 n2} zA zR l1 l2 => by
    have zd := (zA.der (l := l) (by omega)).mono (n := N) (k := P) (by omega) l1
    refine ⟨hl.z zA (by omega), hk.z zd b1 (by omega), ?_⟩
    have zs : Z N P (PS.C (-1) * der A) := ⟨zd.lt.smul _, by
      rw [show PS.C (-1) * der A = -der A by rw [PS.C_neg, PS.C_one]; grind]
      exact zd.hb.neg⟩
    have := hs.z (zR.mono (Nat.le_refl _) l2) zs (by omega)
    rw [this, show R + PS.C (-1) * der A = R - der A by rw [PS.C_neg, PS.C_one]; grind]
  obtain ⟨t1, t2, t3⟩ := step zLF zR0 (by omega) (by omega)
  rw [der_Lp] at t3
  refine ⟨partsF F K, ⟨F, K, gF, eF, hK, rfl⟩, ?_⟩
  have c0 : (0 : Nat) ≤ line := Nat.zero_le _
  have c1 : (1 : Nat) ≤ line := by unfold line; omega
  have c2 : (2 : Nat) ≤ line := by unfold line; omega
  have z11 : PyData.tuple [.int 1, .int 1] = fr 1 := rfl
  have ne0 : sem2 .eq (po p) (.tuple []) = v1 (.bool false) := by rw [eq_po0 zp.pl]; simp [p0]
  have stepk : ∀ k, 1 ≤ k → c jc [.va (po (Lp (Ge k F))), .va (po (Rk k (Ge k F)))] = va (po (Lp (At k F))) ∧ c jo [.va (po (Lp (Ge k F))), .va (po (Lp (At k F)))] = va (po (Lp (Ge (k + 1) F))) ∧ c jo [.va (po (Rk k (Ge k F))), .va (po (Lp (At k F)))] = va (po (Rk k (Ge (k + 1) F))) ∧
      c jl [.va (po (Lp (Ge (k + 1) F)))] = va (po (der (Lp (Ge (k + 1) F)))) ∧ c jk [.va (po (der (Lp (Ge (k + 1) F)))), .va (fr (-1))] = va (po (PS.C (-1) * der (Lp (Ge (k + 1) F)))) ∧ c js [.va (po (Rk k (Ge (k + 1) F))), .va (po (PS.C (-1) * der (Lp (Ge (k + 1) F))))] = va (po (Rk (k + 1) (Ge (k + 1) F))) := fun k hk => by
    obtain ⟨dA, hdA⟩ := Lp_mn (gA k)
    have a1 := hc _ _ N N P l ((zL k).mono (Nat.le_refl _) (by omega)) (zR k hk) ⟨oc1, oc2, oc3⟩
    rw [gcd_at k (gG k), at_ge] at a1
    obtain ⟨q1, q2⟩ := quo_at k (gG k)
    rw [at_ge, ov_ge] at q1 q2
    have a2 := ho _ _ N N B B (zL k) (zA k) hdA.dg.ne ⟨by omega, by omega, by omega⟩
    have a3 := ho _ _ N N P B (zR k hk) (zA k) hdA.dg.ne ⟨by omega, by omega, by omega⟩
    rw [q1] at a2
    rw [q2] at a3
    obtain ⟨u1, u2, u3⟩ := step (zL (k + 1)) (zR2 k) (by omega) (by omega)
    rw [der_Lp] at u3
    exact ⟨a1, a2, a3, u1, u2, u3⟩
  have hKn : K ≤ 1000000 + K := by omega
  unfold bo b_simple_parts
  simp [val, es_whl, c0, c2, ne0, s1, s2, s3, s4, s5, z11, neg1, t1, t2, t3]
  refine whileR_then (P := fun r => outF (r.bind _) = _) (I := fun en => ∃ k z7, en = [.va (po (mon p)), .va (po (der (mon p))), .va (po (Pm 1 F)), .va (po (Lp (Ge (k + 1) F))), .va (po (Rk (k + 1) (Ge (k + 1) F))), .ow ((partsF F k).map pd), .va (.int ((k + 1 : Nat) : Int)), z7] ∧ k ≤ K)
    (m := fun en => match en with
    | [_, _, _, _, _, _, .va (.int k), _] => K + 1 - k.toNat
    | _ => 0) ?_ ⟨0, .un, by rw [ge_one gF]; rfl, Nat.zero_le _⟩
  rintro en ⟨k, z7, rfl, hkK⟩
  obtain ⟨a1, a2, a3, u1, u2, u3⟩ := stepk (k + 1) (by omega)
  have lenI : ((1 : Int) < ((toL (Lp (Ge (k + 1) F))).length : Int)) ↔ Ge (k + 1) F ≠ [] := by rw [← Lp_len (gG (k + 1))]; omega
  by_cases hE : Ge (k + 1) F = []
  · left
    have hlt : ¬ ((1 : Int) < ((toL (Lp (Ge (k + 1) F))).length : Int)) := fun q => (lenI.mp q) hE
    refine ⟨by simp [val]; omega, ?_⟩
    have stab : ∀ j, k ≤ j → partsF F j = partsF F k := fun j hj => by
      induction j with
      | zero => rw [show k = 0 by omega]
      | succ j ih =>
        rcases Nat.eq_or_lt_of_le hj with q | q
        · rw [q]
        · show partsF F j ++ _ = _
          have : At (j + 1) F = [] := by
            unfold At
            rw [List.filter_eq_nil_iff]
            intro z hz hz2
            have hz2 : z.2 = j + 1 := by simpa using hz2
            have : z ∈ Ge (k + 1) F := List.mem_filter.mpr ⟨hz, by simp; omega⟩
            rw [hE] at this
            cases this
          rw [if_pos this, List.append_nil]
          exact ih (by omega)
    simp [val]
    rw [stab K hkK]
  · right
    have hlt : ((1 : Int) < ((toL (Lp (Ge (k + 1) F))).length : Int)) := lenI.mpr hE
    have hkK' : k + 1 ≤ K := by
      cases hh : Ge (k + 1) F with
      | nil => exact absurd hh hE
      | cons y A =>
        have hy : y ∈ Ge (k + 1) F := by rw [hh]; exact List.mem_cons_self
        have h1 := (List.mem_filter.mp hy).2
        have h2 := hK y (List.mem_filter.mp hy).1
        simp at h1
        omega
    have lA : ((toL (Lp (At (k + 1) F))).length > 1) ↔ At (k + 1) F ≠ [] := Lp_len (gA (k + 1))
    have lp : (partsF F k).length < line := by
      have : ∀ k, (partsF F k).length ≤ k := fun k => by
        induction k with
        | zero => exact Nat.le_refl _
        | succ k ih =>
          show (partsF F k ++ _).length ≤ _
          rw [List.length_append]
          split <;> simp <;> omega
      have h1 := this k
      -- the times are no more than the degree
      have h2 : k + 1 ≤ N := by
        cases hh : Ge (k + 1) F with
        | nil => exact absurd hh hE
        | cons y A =>
          have hy : y ∈ Ge (k + 1) F := by rw [hh]; exact List.mem_cons_self
          have h1 := (List.mem_filter.mp hy).2
          simp at h1
          have hyF := (List.mem_filter.mp hy).1
          obtain ⟨m, hm⟩ := (gF.mn y hyF).1
          have pw : ∀ A : List (PS × Nat), Good A → y ∈ A → Dv (y.1 ^ y.2) (Pw A) := fun A => by
            induction A with
            | nil => intro _ h; cases h
            | cons w A ih =>
              rintro ⟨⟨m', h1'⟩, _, _, _, h5⟩ h
              obtain ⟨d, hd⟩ := Pw_mn h5
              rcases List.mem_cons.mp h with rfl | h
              · exact (Dv.refl _).mul_r _ hd.dg.pl
              · exact (ih h5 h).mul _ (h1'.dg.pl.pow _)
          have := (pw F gF hyF).dg (hm.pow y.2).dg (by rw [eF]; exact hmn.dg)
          have : 1 * y.2 ≤ (m + 1) * y.2 := Nat.mul_le_mul_right _ (by omega)
          omega
      unfold line
      omega
    refine ⟨by simp [val]; omega, [.va (po (mon p)), .va (po (der (mon p))), .va (po (Pm 1 F)), .va (po (Lp (Ge (k + 1 + 1) F))), .va (po (Rk (k + 1 + 1) (Ge (k + 1 + 1) F))), .ow ((partsF F (k + 1)).map pd), .va (.int ((k + 1 + 1 : Nat) : Int)), .va (po (Lp (At (k + 1) F)))], ?_, ⟨k + 1, _, rfl, hkK'⟩, ?_⟩
    · by_cases hA : At (k + 1) F = []
      · have hl : ¬ ((1 : Int) < ((toL (Lp (At (k + 1) F))).length : Int)) := fun q => lA.mp (by omega) hA
        have ep : partsF F (k + 1) = partsF F k := by show partsF F k ++ _ = _; rw [if_pos hA, List.append_nil]
        rw [ep]
        simp [val, a1, a2, a3, u1, u2, u3, hl, c2, z11, neg1]
      · have hl : ((1 : Int) < ((toL (Lp (At (k + 1) F))).length : Int)) := by have := lA.mpr hA; omega
        have ep : (partsF F (k + 1)).map pd = (partsF F k).map pd ++ [.tuple [po (Lp (At (k + 1) F)), .int ((k + 1 : Nat) : Int)]] := by
          show (partsF F k ++ _).map pd = _
          rw [if_neg hA, List.map_append]
          rfl
        rw [ep]
        simp [val, a1, a2, a3, u1, u2, u3, hl, c2, z11, neg1, lp]
    · show K + 1 - (((k + 1 + 1 : Nat) : Int)).toNat < K + 1 - (((k + 1 : Nat) : Int)).toNat
      simp only [Int.toNat_natCast]
      omega
end
end AW

/-! AwK11: the law of simple parts. -/
namespace AW
open PySem PySem.Spec PyProof.Rows
theorem Shp.po (s : PS) : Shp 2 (po s) := Shp.pol _
theorem Shp.pd (z : PS × Nat) : Shp 3 (pd z) := Shp.tup fun d hd => by
  rcases List.mem_cons.mp hd with rfl | hd
  · exact Shp.po _
  · rcases List.mem_cons.mp hd with rfl | hd
    · exact (Shp.int _).mono (by decide)
    · cases hd
theorem ne_same {n : Nat} {d : D} (h : Shp n d) (l : n ≤ 64) : sem2 .ne d d = v1 (.bool false) := by
  rw [s2_ne, if_pos ⟨h.ok l, h.ok l⟩, eqv_self d h.1]
  rfl
theorem eq_same {n : Nat} {d : D} (h : Shp n d) (l : n ≤ 64) : sem2 .eq d d = v1 (.bool true) := by
  rw [s2_eq, if_pos ⟨h.ok l, h.ok l⟩, eqv_self d h.1]
theorem rep_po (k : Nat) (a : PS) : (List.replicate k [po a]).flatten = (List.replicate k a).map po := by
  induction k with
  | zero => rfl
  | succ k ih => rw [List.replicate_succ, List.replicate_succ, List.flatten_cons, ih]; rfl
theorem prd_rep (k : Nat) (a : PS) : prd (List.replicate k a) = a ^ k := by
  induction k with
  | zero => show (1 : PS) = a ^ 0; grind
  | succ k ih => rw [List.replicate_succ]; show a * prd _ = _; rw [ih]; grind
open Classical in
/-- simple -/
noncomputable def smp (a : PS) : Bool := decide (a ≠ 0 ∧ (toL (gcd a (der a))).length = 1)
theorem smp_cop {a : PS} (pa : Pl a) (h : Cop a (der a)) (h0 : a ≠ 0) : smp a = true := by
  unfold smp
  rw [h.gcd pa pa.der]
  have : (toL 1).length = 1 := toL_len Mn.one.dg
  simp [h0, this]
theorem smp_zero : smp 0 = false := by unfold smp; simp
section
variable {G : Nat → D} {c : Nat → List Sl → R (D × Bool)} {T : List Fn} {nm : Nm}
def SpSimple (c : Nat → List Sl → R (D × Bool)) (j : Nat) : Prop := ∀ (a : PS) (n h l : Nat), Z n h a → n ≤ 2 ^ l ∧ ComOk n n (h + l) l → c j [.va (po a)] = va (.bool (smp a))
theorem is_simple_ok {jc jl : Nat} (hc : SpCom c jc) (hl : SpSlope c jl) {a : PS} {n h l : Nat} (z : Z n h a) (ok : n ≤ 2 ^ l ∧ ComOk n n (h + l) l) : bo G c T (b_is_simple jc jl) [.va (po a)] 0 = va (.bool (smp a)) := by
  have c0 : (0 : Nat) ≤ line := Nat.zero_le _
  have e0 := ne_po0 z.pl
  unfold bo b_is_simple
  by_cases h0 : a = 0
  · subst h0
    simp [val, c0, e0, smp_zero]
  · obtain ⟨o1, o2, o3, o4⟩ := ok
    have hcb : h + l ≤ cb n n (h + l) l := by
      have hn : 0 < n := by
        rcases Nat.eq_zero_or_pos n with q | q
        · subst q; exact absurd z.lt.nil h0
        · exact q
      unfold cb
      have : 1 * (h + l + l) ≤ (n + n) * (h + l + l) := Nat.mul_le_mul_right _ (by omega)
      omega
    have e1 := hl.z z ⟨by omega, by omega⟩
    have e2 := hc a (der a) n n (h + l) l (z.mono (Nat.le_refl _) (by omega)) ((z.der o1).mono (by omega) (Nat.le_refl _)) ⟨o2, o3, o4⟩
    simp [val, c0, e0, h0, e1, e2]
    unfold smp
    simp [h0]
    by_cases q : (toL (gcd a (der a))).length = 1
    · simp [q]
    · have : ((toL (gcd a (der a))).length : Int) ≠ 1 := by omega
      simp [q, this]
/-- a small factor -/
def Fs (a : PS) : Prop := ∃ m, Mn a m ∧ 1 ≤ m ∧ m ≤ 2 ∧ Hb 12 a
theorem Fs.z {a : PS} (h : Fs a) : Z 3 12 a := by obtain ⟨m, h1, h2, h3, h4⟩ := h; exact ⟨h1.1.mono (by omega), h4⟩
theorem prd_mn {as : List PS} (h : ∀ a ∈ as, Fs a) : ∃ n, Mn (prd as) n := by
  induction as with
  | nil => exact ⟨0, Mn.one⟩
  | cons a as ih =>
    obtain ⟨n, hn⟩ := ih fun x hx => h x (List.mem_cons_of_mem _ hx)
    obtain ⟨m, hm, _⟩ := h a List.mem_cons_self
    exact ⟨_, hm.mul hn⟩
def SpBuilt (c : Nat → List Sl → R (D × Bool)) (j : Nat) : Prop := ∀ x : Int, 0 ≤ x → ∃ a, Z 11 140 a ∧ a ≠ 0 ∧ c j [.va (.int x)] = va (po a)
theorem built_ok {jf jm jl jp jo : Nat} (hf : SpFactor c jf) (hm : SpMix c jm) (hl : SpFrac c jl) (hp : SpProdZ c jp) (ho : SpProdOf c jo) (x : Int) (hx : 0 ≤ x) : ∃ a, Z 11 140 a ∧ a ≠ 0 ∧ bo G c T (b_law_built jf jm jl jp jo) [.va (.int x)] 4 = va (po a) := by
  have p60 : (2 : Nat) ^ 60 = 1152921504606846976 := by decide
  have c1 : (1 : Nat) ≤ line := by unfold line; omega
  have c4 : (4 : Nat) ≤ line := by unfold line; omega
  have c5 : (5 : Nat) ≤ line := by unfold line; omega
  have q0 : x.fmod 4 = ((x % 4).toNat : Int) := by rw [Int.fmod_eq_emod_of_nonneg _ (by decide)]; omega
  have hn4 : (x % 4).toNat ≤ 3 := by omega
  generalize (x % 4).toNat = n at *
  have q1 : (x.fdiv 4).fmod 5 = x / 4 % 5 := by rw [Int.fdiv_eq_ediv_of_nonneg _ (by decide), Int.fmod_eq_emod_of_nonneg _ (by decide)]
  have q2 : (x.fdiv 20).fmod 5 = x / 20 % 5 := by rw [Int.fdiv_eq_ediv_of_nonneg _ (by decide), Int.fmod_eq_emod_of_nonneg _ (by decide)]
  have q3 : (x.fdiv 100).fmod 4 = x / 100 % 4 := by rw [Int.fdiv_eq_ediv_of_nonneg _ (by decide), Int.fmod_eq_emod_of_nonneg _ (by decide)]
  obtain ⟨d1, hd1, ed1⟩ := atD_mem (xs := [.int 1, .int (-1), .int 2, .int (-3), .int 7]) (i := x / 20 % 5) (by omega) (by simp; omega)
  obtain ⟨i1, rfl, j1, j2⟩ : ∃ i : Int, d1 = .int i ∧ i ≠ 0 ∧ i.natAbs ≤ 2 ^ 3 := by
    simp at hd1
    rcases hd1 with rfl | rfl | rfl | rfl | rfl <;> exact ⟨_, rfl, by decide, by decide⟩
  have g0 : (1 + x / 100 % 4) ≠ 0 := by omega
  have g1 := hl i1 (1 + x / 100 % 4) g0
  have f1 := divInt_ne j1 g0
  have b1 : Bd 3 (Rat.divInt i1 (1 + x / 100 % 4)) := Bd.div g0 j2 (by omega)
  generalize Rat.divInt i1 (1 + x / 100 % 4) = r1 at *
  have hr := rngR_nat n (by omega)
  obtain ⟨P, hP⟩ : ∃ P : R (D × Bool) → Prop, P = (fun r => ∃ a, Z 11 140 a ∧ a ≠ 0 ∧ r = va (po a)) := ⟨_, rfl⟩
  have key : P (bo G c T (b_law_built jf jm jl jp jo) [.va (.int x)] 4) := by
    have c0 : (0 : Nat) ≤ line := Nat.zero_le _
    unfold bo b_law_built
    simp [val, es_for, c0, q0, hr]
    refine forR_then (P := fun r => P (outF (r.bind _))) (I := fun i en => ∃ as : List PS, (∀ a ∈ as, Fs a) ∧ as.length ≤ 5 ∧ (0 < i → as ≠ []) ∧ ∃ z2 z4, en = [.va (.int x), .va (.list (as.map po)), z2, .un, z4]) ?_ ⟨[], (fun a h => by cases h), by decide, (fun h => absurd h (by decide)), .un, .un, rfl⟩ ?_
    · rintro k en d hi ⟨as, a1, a2, a3, z2, z4, rfl⟩
      rw [List.getElem?_map] at hi
      cases hx' : (List.range n)[k]? with
      | none => rw [hx'] at hi; cases hi
      | some k' =>
        rw [hx'] at hi
        cases Option.some.inj hi
        have hil := (List.getElem?_eq_some_iff.mp hx').1
        rw [List.length_range] at hil
        have hki : k' = k := by
          rw [List.getElem?_range hil] at hx'
          exact (Option.some.inj hx').symm
        subst hki
        have e1 := hm x (k' : Int) (by omega)
        obtain ⟨fa, fm, fm1, fm2, fm3, fm4, fm5⟩ := hf _ (mixV_nn x (k' : Int)).1
        have e2 := hm x (20 + (k' : Int)) (by omega)
        have nn := mixV_nn x (20 + (k' : Int))
        generalize mixV x (20 + (k' : Int)) = w at *
        have q4 : (w.fdiv 3).fmod 4 = w / 3 % 4 := by rw [Int.fdiv_eq_ediv_of_nonneg _ (by decide), Int.fmod_eq_emod_of_nonneg _ (by decide)]
        obtain ⟨d2, hd2, ed2⟩ := atD_mem (xs := [.int 1, .int 1, .int 2, .int 3]) (i := w / 3 % 4) (by omega) (by simp; omega)
        obtain ⟨t, rfl, t1, t2⟩ : ∃ t : Nat, d2 = .int (t : Int) ∧ 1 ≤ t ∧ t ≤ 3 := by
          simp at hd2
          rcases hd2 with rfl | rfl | rfl
          · exact ⟨1, rfl, by omega, by omega⟩
          · exact ⟨2, rfl, by omega, by omega⟩
          · exact ⟨3, rfl, by omega, by omega⟩
        -- the factor that is put in
        have fin : ∀ (a : PS), Fs a → ∃ as' : List PS, (∀ a ∈ as', Fs a) ∧ as'.length ≤ 5 ∧ as' ≠ [] ∧ cutL (as.map po ++ (List.replicate t [po a]).flatten) none (some 5) = as'.map po := fun a ha => by
          refine ⟨(as ++ List.replicate t a).take 5, fun b hb => ?_, by rw [List.length_take]; omega, fun z => ?_, ?_⟩
          · rcases List.mem_append.mp (List.mem_of_mem_take hb) with hb | hb
            · exact a1 b hb
            · rw [(List.mem_replicate.mp hb).2]; exact ha
          · have := congrArg List.length z
            rw [List.length_take, List.length_append, List.length_replicate] at this
            simp at this
            omega
          · have := cutL_to (as.map po ++ (List.replicate t a).map po) 5
            rw [← List.map_append, ← List.map_take, List.map_append] at this
            rw [rep_po]
            exact this
        have d1 : (t : Int) ≤ 1000000 := by omega
        have d2 : (-1000000 : Int) ≤ (t : Int) := by omega
        have d3 : t ≤ line := by unfold line; omega
        have d4 : as.length + t ≤ line := by unfold line; omega
        have tl : ∀ (a : PS) (as' : List PS), cutL (as.map po ++ (List.replicate t [po a]).flatten) none (some 5) = as'.map po → evS G c (dflT T) (.asg (.nm 1) (.slc (.op2 .add (.var 1) (.rep (.cons (.var 4) .nil) (.op2 .idx (.lst (.cons (.con (.int 1)) (.cons (.con (.int 1)) (.cons (.con (.int 2)) (.cons (.con (.int 3)) .nil))))) (.op2 .mod (.op2 .fdiv (.call jm (.cons (.var 0) (.cons (.op2 .add (.con (.int 20)) (.var 2)) .nil)) 0) (.con (.int 3))) (.con (.int 4)))))) .none (.some (.con (.int 5)))))
            [.va (.int x), .va (.list (as.map po)), .va (.int (k' : Int)), .un, .va (po a)] = .ok (.nx [.va (.int x), .va (.list (as'.map po)), .va (.int (k' : Int)), .un, .va (po a)]) := fun a as' h => by
          simp [val, e2, q4, c1, c4, ed2, d1, d2, d3, d4, semSl, -List.flatten_replicate_singleton] at h ⊢
          rw [h]
        have s1 : evS G c (dflT T) (.asg (.nm 4) (.call jf (.cons (.call jm (.cons (.var 0) (.cons (.var 2) .nil)) 0) .nil) 0)) [.va (.int x), .va (.list (as.map po)), .va (.int (k' : Int)), .un, z4] = .ok (.nx [.va (.int x), .va (.list (as.map po)), .va (.int (k' : Int)), .un, .va (po fa)]) := by simp [val, e1, fm5]
        by_cases hc : 0 < k' ∧ x / 4 % 5 = 1
        · obtain ⟨a0, as0, has⟩ : ∃ a0 as0, as = a0 :: as0 := by
            cases as with
            | nil => exact absurd rfl (a3 hc.1)
            | cons a0 as0 => exact ⟨a0, as0, rfl⟩
          obtain ⟨as', b1, b2, b3, b4⟩ := fin a0 (a1 a0 (by rw [has]; exact List.mem_cons_self))
          have tl0 := tl a0 as' b4
          have s2 : evS G c (dflT T) (.ite (.and (.op2 .gt (.var 2) (.con (.int 0))) (.op2 .eq (.op2 .mod (.op2 .fdiv (.var 0) (.con (.int 4))) (.con (.int 5))) (.con (.int 1)))) (.cons (.asg (.nm 4) (.op2 .idx (.var 1) (.con (.int 0)))) .nil) (.nil)) [.va (.int x), .va (.list (as.map po)), .va (.int (k' : Int)), .un, .va (po fa)]
              = .ok (.nx [.va (.int x), .va (.list (as.map po)), .va (.int (k' : Int)), .un, .va (po a0)]) := by
            rw [has]
            simp [val, q1, hc.1, hc.2]
          refine ⟨[.va (.int x), .va (.list (as'.map po)), .va (.int (k' : Int)), .un, .va (po a0)], .inl ?_, as', b1, b2, fun _ => b3, _, _, rfl⟩
          simp only [bindT_nm, R.bind_ok, List.set_cons_succ, List.set_cons_zero, ess_cons, s1, s2, tl0, ess_nil]
        · obtain ⟨as', b1, b2, b3, b4⟩ := fin fa ⟨fm, fm1, fm2, fm3, fm4⟩
          have tl0 := tl fa as' b4
          have s2 : evS G c (dflT T) (.ite (.and (.op2 .gt (.var 2) (.con (.int 0))) (.op2 .eq (.op2 .mod (.op2 .fdiv (.var 0) (.con (.int 4))) (.con (.int 5))) (.con (.int 1)))) (.cons (.asg (.nm 4) (.op2 .idx (.var 1) (.con (.int 0)))) .nil) (.nil)) [.va (.int x), .va (.list (as.map po)), .va (.int (k' : Int)), .un, .va (po fa)]
              = .ok (.nx [.va (.int x), .va (.list (as.map po)), .va (.int (k' : Int)), .un, .va (po fa)]) := by
            by_cases hk0 : 0 < k'
            · have h41 : ¬ (x / 4 % 5 = 1) := fun z => hc ⟨hk0, z⟩
              simp [val, q1, hk0, h41]
            · simp [val, q1, hk0]
          refine ⟨[.va (.int x), .va (.list (as'.map po)), .va (.int (k' : Int)), .un, .va (po fa)], .inl ?_, as', b1, b2, fun _ => b3, _, _, rfl⟩
          simp only [bindT_nm, R.bind_ok, List.set_cons_succ, List.set_cons_zero, ess_cons, s1, s2, tl0, ess_nil]
    · rintro en ⟨as, a1, a2, _, z2, z4, rfl⟩
      have n1 : as.length * 2 ≤ 5 * 2 := Nat.mul_le_mul_right _ a2
      have n3 : as.length * (12 + 12) ≤ 5 * (12 + 12) := Nat.mul_le_mul_right _ a2
      obtain ⟨p1, z1⟩ := ho as 2 12 (fun a ha => (a1 a ha).z) ⟨by omega, by omega, by omega, by omega⟩
      have y1 : Z 11 120 (prd as) := z1.mono (by omega) (by omega)
      have m1 := hp _ _ _ _ _ _ 4 y1 (Z.C b1) (by decide)
      have w1 := (y1.mul (Z.C b1) (l := 4) (by decide)).mono (n := 11) (k := 140) (by decide) (by decide)
      obtain ⟨dn, hdn⟩ := prd_mn a1
      rw [hP]
      refine ⟨prd as * PS.C r1, w1, Pl.mul_ne hdn.dg.pl (Pl.C _) hdn.dg.ne (Dg.C f1).ne, ?_⟩
      rw [po_C f1] at m1
      simp [val, p1, q2, q3, ed1, g1, m1, c1, c5]
  rw [hP] at key
  exact key
end
end AW

/-! AwK11b: the law of simple parts: what is looked at; the law. -/
namespace AW
open PySem PySem.Spec PyProof.Rows
theorem Pw_take_dv (L : List (PS × Nat)) (g : Good L) (i : Nat) : Dv (Pw (L.take i)) (Pw L) := by
  have e : Pw L = Pw (L.take i) * Pw (L.drop i) := by rw [← Pw_append, List.take_append_drop]
  have : Good (L.drop i) := by
    induction L generalizing i with
    | nil => rw [List.drop_nil]; exact trivial
    | cons y L ih =>
      cases i with
      | zero => exact g
      | succ i => exact ih g.2.2.2.2 i (by
          have : Pw (y :: L) = _ := e
          rw [← Pw_append, List.take_append_drop])
  obtain ⟨n, hn⟩ := Pw_mn this
  exact ⟨Pw (L.drop i), hn.dg.pl, by rw [e]; grind⟩
theorem Pw_el_dv (L : List (PS × Nat)) (g : Good L) {z : PS × Nat} (hz : z ∈ L) : Dv (z.1 ^ z.2) (Pw L) := by
  induction L with
  | nil => cases hz
  | cons w A ih =>
    obtain ⟨⟨m', h1'⟩, _, _, _, h5⟩ := g
    obtain ⟨d, hd⟩ := Pw_mn h5
    rcases List.mem_cons.mp hz with rfl | h
    · exact (Dv.refl _).mul_r _ hd.dg.pl
    · exact (ih h5 h).mul _ (h1'.dg.pl.pow _)
theorem Pw_snoc (L : List (PS × Nat)) {i : Nat} {z : PS × Nat} (h : L[i]? = some z) : Pw (L.take (i + 1)) = Pw (L.take i) * z.1 ^ z.2 := by
  rw [List.take_succ, h]
  show Pw (L.take i ++ [z]) = _
  rw [Pw_append]
  show _ * (z.1 ^ z.2 * 1) = _
  grind
theorem Good.take {L : List (PS × Nat)} (g : Good L) (i : Nat) : Good (L.take i) := by
  induction L generalizing i with
  | nil => rw [List.take_nil]; exact trivial
  | cons y L ih =>
    cases i with
    | zero => exact trivial
    | succ i =>
      obtain ⟨h1, h2, h3, h4, h5⟩ := g
      exact ⟨h1, h2, h3, fun z hz => h4 z (List.mem_of_mem_take hz), ih h5 i⟩
section
variable {G : Nat → D} {c : Nat → List Sl → R (D × Bool)} {T : List Fn} {nm : Nm}
def SpRight (c : Nat → List Sl → R (D × Bool)) (j : Nat) : Prop := ∀ (p : PS) (L : List (PS × Nat)), Z 11 140 p → p ≠ 0 → SP p L → c j [.va (po p), .va (.list (L.map pd))] = va (.bool true)
theorem right_ok {jc jl js jm jo : Nat} (hc : SpCom c jc) (hl : SpSlope c jl) (hs : SpSimple c js) (hm : SpProdZ c jm) (ho : SpProdOf c jo) {p : PS} {L : List (PS × Nat)} (zp : Z 11 140 p) (p0 : p ≠ 0) (sp : SP p L) :
    bo G c T (b_law_right jc jl js jm jo) [.va (po p), .va (.list (L.map pd))] 5 = va (.bool true) := by
  obtain ⟨gL, eL, so⟩ := sp.good
  obtain ⟨n, dn⟩ := zp.pl.dg p0
  have hmn := mon_mn dn
  have zm := zp.mon
  have c1 : (1 : Nat) ≤ line := by unfold line; omega
  have c2 : (2 : Nat) ≤ line := by unfold line; omega
  have z11 : PyData.tuple [.int 1, .int 1] = fr 1 := rfl
  have lcn := dn.2
  have hB : db 11 140 6 = 3404 := by decide
  have dvB : ∀ {g : PS} {d : Nat}, Mn g d → Dv g (Pw L) → Z 11 3404 g := fun {g d} hg hd => by
    rw [eL] at hd
    refine ⟨hg.1.mono (by have := hd.dg hg.dg hmn.dg; have := dn.lt zp.lt; omega), ?_⟩
    rw [← hB]
    exact dv_hb hg zm hmn.dg.ne hd (by decide)
  have el := idx_last dn
  -- of each part
  have part : ∀ z ∈ L, Z 11 3404 z.1 ∧ Z 11 3404 (z.1 ^ z.2) ∧ z.2 ≤ 10 ∧ (∃ m, Mn z.1 (m + 1)) ∧ Cop z.1 (der z.1) ∧ 1 ≤ z.2 := fun z hz => by
    obtain ⟨⟨m, h1⟩, h2, h3⟩ := gL.mn z hz
    have d1 := Pw_el_dv L gL hz
    have dg := d1.dg (h1.pow z.2).dg (by rw [eL]; exact hmn.dg)
    have := dn.lt zp.lt
    have : 1 * z.2 ≤ (m + 1) * z.2 := Nat.mul_le_mul_right _ (by omega)
    refine ⟨dvB h1 ((Pw_dv gL z hz)), dvB (h1.pow z.2) d1, by omega, ⟨m, h1⟩, h2, h3⟩
  have okc : ComOk 11 11 3500 6 := by unfold ComOk cb; decide
  have zb : ∀ i, Z 11 3544 (PS.C (lc p) * Pw (L.take i)) := fun i => by
    obtain ⟨d, hd⟩ := Pw_mn (gL.take i)
    have := Z.smul (c := lc p) (h := 140) (by rw [lc_eq dn]; exact zp.bd n) (dvB hd (Pw_take_dv L gL i))
    exact this
  unfold bo b_law_right
  simp [val, es_for, el, c1]
  have e0 : PyData.tuple [fr (p.f n)] = po (PS.C (lc p) * Pw (L.take 0)) := by
    rw [List.take_zero]
    show _ = po (PS.C (lc p) * 1)
    rw [show PS.C (lc p) * (1 : PS) = PS.C (lc p) by grind, lc_eq dn, po_C lcn]
  rw [e0]
  let ah : Nat → Nat := fun i => if i = 0 then 0 else ((L[i - 1]?).map (·.2)).getD 0
  refine forR_then (P := fun r => outF (r.bind _) = _) (I := fun i en => ∃ z4 z5 z6, en = [.va (po p), .va (.list (L.map pd)), .va (po (PS.C (lc p) * Pw (L.take i))), .va (.int (ah i : Nat)), z4, z5, z6]) ?_ ⟨_, _, _, rfl⟩ ?_
  · rintro i en d hi ⟨z4, z5, z6, rfl⟩
    rw [List.getElem?_map] at hi
    cases hx : L[i]? with
    | none => rw [hx] at hi; cases hi
    | some z =>
      rw [hx] at hi
      cases Option.some.inj hi
      have hz := List.mem_of_getElem? hx
      have hil := (List.getElem?_eq_some_iff.mp hx).1
      obtain ⟨za, zp', t10, ⟨m, hm1⟩, hcop, t1⟩ := part z hz
      have hah : ¬ ((z.2 : Int) ≤ (ah i : Nat)) := by
        show ¬ ((z.2 : Int) ≤ ((if i = 0 then 0 else ((L[i - 1]?).map (·.2)).getD 0 : Nat) : Int))
        by_cases i0 : i = 0
        · rw [if_pos i0]; omega
        · rw [if_neg i0]
          have h1 : i - 1 < L.length := by omega
          rw [List.getElem?_eq_getElem h1]
          have ez : L[i] = z := by rw [List.getElem?_eq_getElem hil] at hx; exact Option.some.inj hx
          have := List.pairwise_iff_getElem.mp so (i - 1) i h1 hil (by omega)
          rw [ez] at this
          show ¬ ((z.2 : Int) ≤ ((L[i - 1].2 : Nat) : Int))
          omega
      have ea : ah (i + 1) = z.2 := by
        show (if i + 1 = 0 then 0 else ((L[i + 1 - 1]?).map (·.2)).getD 0) = z.2
        rw [if_neg (by omega), Nat.add_sub_cancel, hx]
        rfl
      have lz := toL_len hm1.dg
      have il := idx_last hm1.dg
      rw [hm1.2] at il
      have s1 := hl.z za (by decide)
      have zd : Z 11 3500 (der z.1) := (za.der (l := 4) (by decide)).mono (by decide) (by decide)
      have s2 := hc z.1 (der z.1) 11 11 3500 6 (za.mono (by decide) (by decide)) zd okc
      rw [hcop.gcd za.pl za.pl.der] at s2
      have s3 := hs z.1 11 3404 6 za ⟨by decide, by unfold ComOk cb; decide⟩
      rw [smp_cop za.pl hcop hm1.dg.ne] at s3
      have l1 : (toL 1).length = 1 := toL_len Mn.one.dg
      have hpw := ho (List.replicate z.2 z.1) 10 3404 (fun a ha => by rw [(List.mem_replicate.mp ha).2]; exact za) (by
        rw [List.length_replicate]
        refine ⟨by omega, by omega, ?_, by decide⟩
        have : z.2 * (3404 + 12) ≤ 10 * (3404 + 12) := Nat.mul_le_mul_right _ t10
        omega)
      have s4 := hpw.1
      rw [prd_rep] at s4
      have s5 := hm (PS.C (lc p) * Pw (L.take i)) (z.1 ^ z.2) 11 11 3544 3404 4 (zb i) zp' (by decide)
      rw [show PS.C (lc p) * Pw (L.take i) * z.1 ^ z.2 = PS.C (lc p) * Pw (L.take (i + 1)) by rw [Pw_snoc L hx]; grind] at s5
      have d1 : (z.2 : Int) ≤ 1000000 := by omega
      have d2 : (-1000000 : Int) ≤ (z.2 : Int) := by omega
      have d3 : z.2 ≤ line := by unfold line; omega
      have nlt : ¬ ((toL z.1).length : Int) < 2 := by omega
      have s4' : c jo [.va (.list (List.replicate z.2 [po z.1]).flatten)] = va (po (z.1 ^ z.2)) := by
        rw [rep_po]; exact s4
      refine ⟨[.va (po p), .va (.list (L.map pd)), .va (po (PS.C (lc p) * Pw (L.take (i + 1)))), .va (.int (z.2 : Nat)), z4, .va (po z.1), .va (.int (z.2 : Nat))], .inl ?_, z4, _, _, by rw [ea]⟩
      unfold pd
      generalize ah i = ai at *
      simp only [bindT_tpt, bindTs_cons, bindT_nm, bindTs_nil, R.bind_ok, List.set_cons_succ, List.set_cons_zero]
      simp [val, hah, nlt, il, z11, s1, s2, s3, l1, c1, c2, d1, d2, d3, s5, isD, -List.flatten_replicate_singleton]
      rw [s4']
      simp [s5]
  · rintro en ⟨z4, z5, z6, rfl⟩
    rw [List.length_map, List.take_length, eL, ← mon_back zp.pl]
    -- the parts two by two
    have hLn : L.length ≤ 11 := by
      have : ∀ A : List (PS × Nat), Good A → ∀ d, Mn (Lp A) d → A.length ≤ d := fun A => by
        induction A with
        | nil => intro _ d _; exact Nat.zero_le _
        | cons y A ih =>
          rintro ⟨⟨m, h1⟩, _, _, _, h5⟩ d hd
          obtain ⟨n', hn'⟩ := Lp_mn h5
          have ed : d = m + 1 + n' := hd.dg.uniq (h1.mul hn').dg
          have := ih h5 n' hn'
          rw [List.length_cons]
          omega
      obtain ⟨d, hd⟩ := Lp_mn gL
      have h1 := this L gL d hd
      have h2 := (Lp_dv gL).dg hd.dg (by rw [eL]; exact hmn.dg)
      have := dn.lt zp.lt
      omega
    have hr := rngR_nat L.length (by omega)
    simp [val, es_for, hr]
    refine forR_then (P := fun r => outF (r.bind _) = _) (I := fun i en => ∃ z3 z4 z5 z6, en = [.va (po p), .va (.list (L.map pd)), .va (po p), z3, z4, z5, z6]) ?_ ⟨_, _, _, _, rfl⟩ ?_
    · rintro i en d hi ⟨z3, z4, z5, z6, rfl⟩
      rw [List.getElem?_map] at hi
      cases hx : (List.range L.length)[i]? with
      | none => rw [hx] at hi; cases hi
      | some i' =>
        rw [hx] at hi
        cases Option.some.inj hi
        have hil := (List.getElem?_eq_some_iff.mp hx).1
        rw [List.length_range] at hil
        have hki : i' = i := by
          rw [List.getElem?_range hil] at hx
          exact (Option.some.inj hx).symm
        subst hki
        have ec : cutL (L.map pd) none (some (i' : Int)) = (L.take i').map pd := by rw [cutL_to, List.map_take]
        simp [val, es_for, semSl, ec]
        rw [← List.map_take]
        generalize hR : forR _ _ _ _ = r
        have key : ∃ en', r = .ok (.nx en') ∧ ∃ z5 z6, en' = [.va (po p), .va (.list (L.map pd)), .va (po p), z3, .va (.int (i' : Int)), z5, z6] := by
          rw [← hR]
          refine forR_ex (I := fun k en => ∃ z5 z6, en = [.va (po p), .va (.list (L.map pd)), .va (po p), z3, .va (.int (i' : Int)), z5, z6]) ⟨_, _, rfl⟩ ?_ (fun en h => h)
          rintro k en d hk ⟨y5, y6, rfl⟩
          rw [List.getElem?_map] at hk
          cases hy : (L.take i')[k]? with
          | none => rw [hy] at hk; cases hk
          | some z =>
            rw [hy] at hk
            cases Option.some.inj hk
            have hkl := (List.getElem?_eq_some_iff.mp hy).1
            rw [List.length_take] at hkl
            have hk' : L[k]? = some z := by rw [← hy, List.getElem?_take_of_lt (by omega)]
            have hz := List.mem_of_getElem? hk'
            obtain ⟨za, _, _, ⟨m, hm1⟩, _, _⟩ := part z hz
            have hw : L[i']? = some L[i'] := List.getElem?_eq_getElem hil
            have hwm := List.mem_of_getElem? hw
            obtain ⟨zw, _, _, ⟨mw, hmw⟩, _, _⟩ := part L[i'] hwm
            have ed : atD (L.map pd) (i' : Int) = v1 (pd L[i']) := atD_nat (by rw [List.getElem?_map, hw]; rfl)
            have ne : z.2 ≠ L[i'].2 := by
              have ez : L[k] = z := by rw [List.getElem?_eq_getElem (by omega)] at hk'; exact Option.some.inj hk'
              have := List.pairwise_iff_getElem.mp so k i' (by omega) hil (by omega)
              rw [ez] at this
              omega
            have cop := gL.pair z hz L[i'] hwm ne
            have s2 := hc z.1 L[i'].1 11 11 3500 6 (za.mono (by decide) (by decide)) (zw.mono (by decide) (by decide)) okc
            rw [cop.gcd za.pl zw.pl] at s2
            have l1 : (toL 1).length = 1 := toL_len Mn.one.dg
            refine ⟨[.va (po p), .va (.list (L.map pd)), .va (po p), z3, .va (.int (i' : Int)), .va (po z.1), .va (.int (z.2 : Nat))], .inl ?_, _, _, rfl⟩
            generalize L[i'] = w at *
            unfold pd at ed ⊢
            simp only [bindT_tpt, bindTs_cons, bindT_nm, bindTs_nil, R.bind_ok, List.set_cons_succ, List.set_cons_zero]
            simp [val, ed, s2, l1]
        obtain ⟨en', rfl, y5, y6, rfl⟩ := key
        exact ⟨_, .inl rfl, _, _, _, _, rfl⟩
    · rintro en ⟨z3, z4, z5, z6, rfl⟩
      simp [val]
theorem law_k11 {jm jb jp jr jc jl js : Nat} (hm : SpMarks c jm) (hb : SpBuilt c jb) (hp : SpParts c jp) (hr : SpRight c jr) (hc : SpCom c jc) (hl : SpSlope c jl) (hs : SpSimple c js) (ns : List Int) (hn : ns.length ≤ 1000) :
    bo G c T (b_law_3 jm jb jp jr jc jl js) [.va (.list (ns.map .int))] 4 = va (.bool true) := by
  obtain ⟨ms, l1, l2, e1⟩ := hm ns 4 hn (by decide)
  have e1' : c jm [.va (.list (ns.map .int)), .va (.int 4)] = .ok (.list (ms.map .int), true) := e1
  have c0 : (0 : Nat) ≤ line := Nat.zero_le _
  unfold bo b_law_3
  simp [val, es_for, e1']
  refine forR_then (P := fun r => outF (r.bind _) = _) (I := fun i en => ∃ z1 z2 z3 z4, en = [.va (.list (ns.map PyData.int)), z1, z2, z3, z4]) ?_ ⟨_, _, _, _, rfl⟩ ?_
  · rintro i en d hi ⟨z1, z2, z3, z4, rfl⟩
    rw [List.getElem?_map] at hi
    cases hx : ms[i]? with
    | none => rw [hx] at hi; cases hi
    | some x =>
      rw [hx] at hi
      cases Option.some.inj hi
      obtain ⟨a, za, a0, t1⟩ := hb x (l2 x (List.mem_of_getElem? hx)).1
      have pok : PartOk 11 140 6 := by unfold PartOk ComOk prb cb db; decide
      obtain ⟨L, sp, t2⟩ := hp a 11 140 6 za a0 pok
      have t3 := hr a L za a0 sp
      have t4 := hl.z za (by decide)
      have zd : Z 11 150 (der a) := (za.der (l := 4) (by decide)).mono (by decide) (by decide)
      have t5 := hc a (der a) 11 11 150 6 (za.mono (by decide) (by decide)) zd (by unfold ComOk cb; decide)
      have t6 := hs a 11 140 6 za ⟨by decide, by unfold ComOk cb; decide⟩
      have t7 := hs 0 11 140 6 (Z.zero _ _) ⟨by decide, by unfold ComOk cb; decide⟩
      rw [po_zero, smp_zero] at t7
      have e0 : sem2 .ne (po a) (.tuple []) = v1 (.bool true) := by rw [ne_po0 za.pl]; simp [a0]
      have es : smp a = decide ((toL (gcd a (der a))).length = 1) := by unfold smp; simp [a0]
      have ei : (((toL (gcd a (der a))).length : Int) == 1) = smp a := by
        rw [es, Bool.eq_iff_iff]
        simp
        omega
      have hLn : L.length < line := by
        obtain ⟨gL, eL, _⟩ := sp.good
        obtain ⟨n, dn⟩ := za.pl.dg a0
        have : ∀ A : List (PS × Nat), Good A → ∀ d, Mn (Lp A) d → A.length ≤ d := fun A => by
          induction A with
          | nil => intro _ d _; exact Nat.zero_le _
          | cons y A ih =>
            rintro ⟨⟨m, h1⟩, _, _, _, h5⟩ d hd
            obtain ⟨n', hn'⟩ := Lp_mn h5
            have ed : d = m + 1 + n' := hd.dg.uniq (h1.mul hn').dg
            have := ih h5 n' hn'
            rw [List.length_cons]
            omega
        obtain ⟨d, hd⟩ := Lp_mn gL
        have h1 := this L gL d hd
        have h2 := (Lp_dv gL).dg hd.dg (by rw [eL]; exact (mon_mn dn).dg)
        have := dn.lt za.lt
        unfold line
        omega
      have ecut : cutL (L.map pd ++ [.tuple []]) none (some (-1)) = L.map pd := by rw [cutL_init]; simp
      have en : sem2 .ne (.list (L.map pd)) (.list (L.map pd)) = v1 (.bool false) := ne_same (n := 4) (Shp.lst fun d hd => by
        obtain ⟨z, _, rfl⟩ := List.mem_map.mp hd
        exact Shp.pd z) (by decide)
      refine ⟨[.va (.list (ns.map PyData.int)), .va (.int x), .va (po a), .ow (L.map pd ++ [.tuple []]), .va (.bool (smp a))], .inl ?_, _, _, _, _, rfl⟩
      have eb : ∀ b : Bool, sem2 .ne (.bool b) (.bool b) = v1 (.bool false) := fun b => ne_same (n := 0) ⟨rfl, Nat.le_refl _⟩ (by decide)
      simp [val, t1, t2, t3, t4, t5, t6, t7, e0, c0, isTy, isD, hLn, semSl, ecut, en, ei, eb]
  · rintro en ⟨z1, z2, z3, z4, rfl⟩
    simp
end
end AW

/-! AwQu: quotients in lowest terms. -/
namespace AW
open PySem PySem.Spec PyProof.Rows
/-! ### plain -/
noncomputable def qc (a b : PS) : PS × PS := (PS.C (lc b)⁻¹ * quo a (gcd a b), mon (quo b (gcd a b)))
noncomputable def qd (q : PS × PS) : D := .tuple [po q.1, po q.2]
/-- q is a over b in lowest terms -/
def IsQ (q : PS × PS) (a b : PS) : Prop := Cop q.1 q.2 ∧ Pl q.1 ∧ (∃ n, Mn q.2 n) ∧ q.1 * b = a * q.2
theorem qc_is {a b : PS} (pa : Pl a) (pb : Pl b) (b0 : b ≠ 0) : IsQ (qc a b) a b := by
  have ig := gcd_is pa pb
  obtain ⟨d, hd⟩ := gcd_mn pa pb (.inr b0)
  obtain ⟨e1, _, p1⟩ := quo_dv hd.dg.pl hd.dg.ne ig.dvl
  obtain ⟨e2, _, p2⟩ := quo_dv hd.dg.pl hd.dg.ne ig.dvr
  unfold qc
  generalize hA : quo a (gcd a b) = A at *
  generalize hB : quo b (gcd a b) = B at *
  have B0 : B ≠ 0 := fun z => b0 (by rw [e2, z]; grind)
  obtain ⟨n, dB⟩ := p2.dg B0
  have hm := mon_mn dB
  have lb : lc b = lc B := by rw [e2, lc_mul p2 hd.dg.pl, hd.lc]; grind
  have lB := lc_ne p2 B0
  have cAB : Cop A B := by
    obtain ⟨u, v, pu, pv, e⟩ := ig.comb
    refine ⟨u, v, pu, pv, ?_⟩
    refine Pl.cancel ((pu.mul p1).add (pv.mul p2)) Pl.one hd.dg.pl hd.dg.ne ?_
    rw [show (u * A + v * B) * gcd a b = u * (A * gcd a b) + v * (B * gcd a b) by grind, ← e1, ← e2, ← e]
    grind
  refine ⟨?_, (Pl.C _).mul p1, ⟨n, hm⟩, ?_⟩
  · have c1 : Cop B (PS.C (lc b)⁻¹ * A) := cAB.symm.smul (by rw [lb]; grind)
    have c2 : Cop (PS.C (lc b)⁻¹ * A) (PS.C (lc B)⁻¹ * B) := c1.symm.smul (by grind)
    exact c2
  · show PS.C (lc b)⁻¹ * A * b = a * (PS.C (lc B)⁻¹ * B)
    rw [lb]
    conv => lhs; rw [e2]
    conv => rhs; lhs; rw [e1]
    grind
theorem IsQ.uniq {q q' : PS × PS} {a b c d : PS} (h : IsQ q a b) (h' : IsQ q' c d) (pa : Pl a) (pb : Pl b) (pc : Pl c) (pd : Pl d) (b0 : b ≠ 0) (d0 : d ≠ 0) (e : a * d = c * b) : q = q' := by
  obtain ⟨t, m⟩ := q
  obtain ⟨t', m'⟩ := q'
  obtain ⟨h1, h2, ⟨n, h3⟩, h4⟩ := h
  obtain ⟨k1, k2, ⟨n', k3⟩, k4⟩ := h'
  simp only at *
  have pm := h3.dg.pl
  have pm' := k3.dg.pl
  have cross : t * m' = t' * m := by
    refine Pl.cancel (h2.mul pm') (k2.mul pm) (pb.mul pd) (Pl.mul_ne pb pd b0 d0) ?_
    have : t * m' * (b * d) = a * m * (m' * d) := by rw [← h4]; grind
    rw [this]
    have : t' * m * (b * d) = c * m' * (m * b) := by rw [← k4]; grind
    rw [this]
    have : a * m * (m' * d) = m * m' * (a * d) := by grind
    rw [this, e]
    grind
  have d1 : Dv m m' := h1.symm.dv_mul pm' ⟨t', k2, by rw [cross]⟩
  have d2 : Dv m' m := k1.symm.dv_mul pm ⟨t, h2, by rw [← cross]⟩
  have em := h3.eq k3 d1 d2
  subst em
  have et := Pl.cancel h2 k2 pm h3.dg.ne cross
  rw [et]
theorem qc_eq {a b c d : PS} (pa : Pl a) (pb : Pl b) (pc : Pl c) (pd : Pl d) (b0 : b ≠ 0) (d0 : d ≠ 0) (e : a * d = c * b) : qc a b = qc c d :=
  (qc_is pa pb b0).uniq (qc_is pc pd d0) pa pb pc pd b0 d0 e
theorem qc_of {q : PS × PS} {a b : PS} (h : IsQ q a b) (pa : Pl a) (pb : Pl b) (b0 : b ≠ 0) : qc a b = q :=
  (qc_is pa pb b0).uniq h pa pb pa pb b0 b0 rfl
theorem qc_one {a : PS} (pa : Pl a) : qc a 1 = (a, 1) := qc_of ⟨Cop.one a, pa, ⟨0, Mn.one⟩, by show a * 1 = a * 1; rfl⟩ pa Pl.one Mn.one.dg.ne
theorem Shp.qd (q : PS × PS) : Shp 3 (qd q) := Shp.tup fun d hd => by
  rcases List.mem_cons.mp hd with rfl | hd
  · exact Shp.po _
  · rcases List.mem_cons.mp hd with rfl | hd
    · exact Shp.po _
    · cases hd
@[simp] theorem idx_qd0 (q : PS × PS) : sem2 .idx (qd q) (.int 0) = v1 (po q.1) := by unfold qd; rw [s2_idxt, atD_0]
@[simp] theorem idx_qd1 (q : PS × PS) : sem2 .idx (qd q) (.int 1) = v1 (po q.2) := by unfold qd; rw [s2_idxt, atD_1]
@[simp] theorem ne_qd (q : PS × PS) : sem2 .ne (qd q) (qd q) = v1 (.bool false) := ne_same (Shp.qd q) (by decide)
@[simp] theorem eq_qd (q : PS × PS) : sem2 .eq (qd q) (qd q) = v1 (.bool true) := eq_same (Shp.qd q) (by decide)
/-- the bits of a quotient in lowest terms, by top and bottom -/
theorem qc_z {a b : PS} {m n ha h l : Nat} (za : Z m ha a) (zb : Z n h b) (b0 : b ≠ 0) (hl : n + 2 ≤ 2 ^ l ∧ m ≤ 2 ^ l) :
    Z n (db n h l) (qc a b).2 ∧ Z m (ha + db n h l + l + (m + n) * (h + 1)) (qc a b).1 := by
  obtain ⟨h1, h2, ⟨k, h3⟩, h4⟩ := qc_is za.pl zb.pl b0
  generalize qc a b = q at *
  obtain ⟨t, u⟩ := q
  simp only at *
  have pu := h3.dg.pl
  -- the bottom divides b
  have d1 : Dv u b := h1.symm.dv_mul zb.pl ⟨a, za.pl, h4⟩
  obtain ⟨nb, dgb⟩ := zb.pl.dg b0
  have ku := d1.dg h3.dg dgb
  have nn := dgb.lt zb.lt
  have zu : Z n (db n h l) u := ⟨h3.1.mono (by omega), dv_hb h3 zb b0 d1 (by omega)⟩
  refine ⟨zu, ?_⟩
  -- the top divides a
  have zau := za.mul zu (l := l) (by omega)
  have q := (Z.div zau ⟨dgb.1, zb.hb⟩ dgb).1
  have e : quo (a * u) b = t := by rw [← h4]; exact (quo_mul zb.pl b0 h2).1
  rw [e] at q
  have hb : Hb (ha + db n h l + l + (m + n) * (h + 1)) t := q.hb.mono (by
    have := Nat.mul_le_mul_right (h + 1) (show m + n - 1 ≤ m + n by omega)
    omega)
  refine ⟨?_, hb⟩
  by_cases t0 : t = 0
  · rw [t0]; exact Lt.zero _
  · have a0 : a ≠ 0 := fun z => by
      rw [z, show (0 : PS) * u = 0 by grind] at h4
      exact Pl.mul_ne h2 zb.pl t0 b0 h4
    obtain ⟨ma, dga⟩ := za.pl.dg a0
    obtain ⟨kt, dgt⟩ := h2.dg t0
    have e1 := dgt.mul dgb
    rw [h4] at e1
    have := e1.uniq (dga.mul h3.dg)
    have := dga.lt za.lt
    exact dgt.1.mono (by omega)
section
variable {G : Nat → D} {c : Nat → List Sl → R (D × Bool)} {T : List Fn} {nm : Nm}
/-! ### what is known -/
def SpIsFr (c : Nat → List Sl → R (D × Bool)) (j : Nat) : Prop := ∀ q : Rat, c j [.va (fr q)] = va (.bool true)
theorem is_fraction_ok {jw jg : Nat} (hw : SpWhole c jw) (hg : SpGcd c jg) (q : Rat) : bo G c T (b_is_fraction jw jg) [.va (fr q)] 1 = va (.bool true) := by
  have c2 : (2 : Nat) ≤ line := by unfold line; omega
  have e1 := hg q.num.natAbs q.den
  have e2 : Nat.gcd q.num.natAbs q.den = 1 := q.reduced
  rw [e2] at e1
  have hd := q.den_nz
  have hp : (0 : Int) < (q.den : Int) := by omega
  unfold bo b_is_fraction
  simp only [ess_cons, es_ite, evT_eq]
  have hc : evF G c (dflT T) (.cmp (.call jw (.cons (.var 1) .nil) 0) (.nm 1) (.seq (.var 0)) .none [(Nm.n 1, 1)]) ([.va (fr q)] ++ List.replicate 1 .un) = .ok (.list [.bool true, .bool true], true) := by
    have := cmp_of (G := G) (c := c) (dfl := dflT T) (elt := (.call jw (.cons (.var 1) .nil) 0)) (tg := .nm 1) (it := .seq (.var 0)) (ifs := .none) (own := [(Nm.n 1, 1)]) (en := [.va (fr q)] ++ List.replicate 1 .un) (xs := [q.num, (q.den : Int)]) (e := .int) (h := fun _ => .bool true) (by simp [val]; rfl) (by simp; omega) (fun x _ => by simp [val, wipe, hw x])
    rw [this]
    rfl
  have ht : isTy (fr q) (.bi "tuple") = true := rfl
  have hl : sem1 .len (fr q) = v1 (.int 2) := rfl
  have e1' : c jg [.va (.int (q.num.natAbs : Int)), .va (.int (q.den : Int))] = va (.int 1) := e1
  simp only [List.cons_append, List.nil_append, List.replicate_succ, List.replicate_zero] at hc ⊢
  have hp2 : 0 < q.den := by omega
  simp [val, ht, hl, hc, allB, e1', hp2]
def SpIsPo (c : Nat → List Sl → R (D × Bool)) (j : Nat) : Prop := ∀ (a : PS) (n : Nat), Lt a n → n ≤ 100000 → c j [.va (po a)] = va (.bool true)
theorem is_poly_ok {jf kN : Nat} (hG : G kN = fr 0) (hf : SpIsFr c jf) {a : PS} {n : Nat} (h : Lt a n) (hn : n ≤ 100000) : bo G c T (b_is_poly jf kN) [.va (po a)] 1 = va (.bool true) := by
  have c0 : (0 : Nat) ≤ line := Nat.zero_le _
  have pa : Pl a := ⟨n, h⟩
  have ll := toL_le h
  have hc : evF G c (dflT T) (.cmp (.call jf (.cons (.var 1) .nil) 0) (.nm 1) (.seq (.var 0)) .none [(Nm.n 1, 1)]) ([.va (po a)] ++ List.replicate 1 .un) = .ok (.list ((toL a).map fun _ => .bool true), true) :=
    cmp_of (xs := toL a) (e := fr) (h := fun _ => .bool true) (by simp [val]) (by unfold line; omega) (fun x _ => by simp [val, wipe, hf x])
  have hall : ∀ L : List Rat, allB (L.map fun _ => PyData.bool true) = .ok true := fun L => by
    induction L with
    | nil => rfl
    | cons x L ih => show (allB (L.map fun _ => PyData.bool true)).bind _ = _; rw [ih]; rfl
  have ht : isTy (po a) (.bi "tuple") = true := rfl
  have e0 := eq_po0 pa
  unfold bo b_is_poly
  simp only [List.cons_append, List.nil_append, List.replicate_succ, List.replicate_zero] at hc
  by_cases a0 : a = 0
  · subst a0
    simp [val, ht, hc, hall, e0, c0]
  · obtain ⟨k, dk⟩ := pa.dg a0
    have e1 := idx_last dk
    have h0 := dk.2
    simp [val, ht, hc, hall, e0, c0, a0, e1, hG, h0]
/-! ### the program's quotient -/
def QuotOk (m n h l : Nat) : Prop := ComOk m n h l ∧ m ≤ 20000 ∧ n ≤ 20000 ∧ h + (m + n + 2) * (cb m n h l + 1) ≤ 39000000
def SpQuot (c : Nat → List Sl → R (D × Bool)) (j : Nat) : Prop := ∀ (a b : PS) (m n h l : Nat), Z m h a → Z n h b → b ≠ 0 → QuotOk m n h l → c j [.va (po a), .va (po b)] = va (qd (qc a b))
theorem quotient_ok {ji e jc jt js jp jm : Nat} (hi : SpIsPo c ji) (hc : SpCom c jc) (ht : SpTurn c jt) (hs : SpScaled c js) (hp : SpDiv c jp) (hm : SpMon c jm) {a b : PS} {m n h l : Nat} (za : Z m h a) (zb : Z n h b) (b0 : b ≠ 0) (ok : QuotOk m n h l) :
    bo G c T (b_quotient ji e jc jt js jp jm) [.va (po a), .va (po b)] 2 = va (qd (qc a b)) := by
  obtain ⟨okc, m0, n0, ok3⟩ := ok
  have c0 : (0 : Nat) ≤ line := Nat.zero_le _
  have c2 : (2 : Nat) ≤ line := by unfold line; omega
  obtain ⟨nb, dgb⟩ := zb.pl.dg b0
  have e1 := hi a m za.lt (by omega)
  have e2 := hi b n zb.lt (by omega)
  have e3 : sem2 .eq (po b) (.tuple []) = v1 (.bool false) := by rw [eq_po0 zb.pl]; simp [b0]
  have e4 := hc a b m n h l za zb okc
  have e5 := idx_last dgb
  have e6 := ht _ dgb.2
  have ig := gcd_is za.pl zb.pl
  obtain ⟨d, hd⟩ := gcd_mn za.pl zb.pl (.inr b0)
  have dl : d + 1 ≤ n := by have := ig.dvr.dg hd.dg dgb; have := dgb.lt zb.lt; omega
  have zg : Z n (cb m n h l) (gcd a b) := ⟨hd.1.mono dl, Z.gcd za zb okc.1⟩
  rw [show m + n + 2 = (m + 2) + n by omega, Nat.add_mul] at ok3
  have k1 : (n + 2) * (cb m n h l + 1) ≤ (m + 2) * (cb m n h l + 1) + n * (cb m n h l + 1) := by
    rw [← Nat.add_mul]; exact Nat.mul_le_mul_right _ (by omega)
  have e7 := hp a (gcd a b) m n h _ za zg hd.dg.ne ⟨by omega, by omega, by omega⟩
  have e8 := hp b (gcd a b) n n h _ zb zg hd.dg.ne ⟨by omega, by omega, by omega⟩
  have zqa := (Z.div za ⟨hd.1, zg.hb⟩ hd.dg).1
  have zqb := (Z.div zb ⟨hd.1, zg.hb⟩ hd.dg).1
  have k2 : m * (cb m n h l + 1) ≤ (m + 2) * (cb m n h l + 1) := Nat.mul_le_mul_right _ (by omega)
  have k3 : n * (cb m n h l + 1) ≤ (n + 2) * (cb m n h l + 1) := Nat.mul_le_mul_right _ (by omega)
  have hinv : Bd h (b.f nb)⁻¹ := by
    have bb := zb.bd nb
    have nz : (b.f nb).num ≠ 0 := by rw [Ne, Rat.num_eq_zero]; exact dgb.2
    rw [← inv_divInt dgb.2]
    have := divInt_le (a := ((b.f nb).den : Int)) (b := (b.f nb).num) nz
    exact ⟨Nat.le_trans this.1 (by simpa using bb.2), Nat.le_trans this.2 bb.1⟩
  have e9 := hs.z (zqa.mono (n := m) (k := h + m * (cb m n h l + 1)) (by omega) (Nat.le_refl _)) (hinv.mono (by omega)) ⟨by omega, by omega⟩
  have e10 := hm (quo b (gcd a b)) n (h + n * (cb m n h l + 1)) (zqb.mono (by omega) (Nat.le_refl _)) ⟨by omega, by omega⟩
  unfold bo b_quotient
  simp [val, e1, e2, e3, e4, e5, e6, e7, e8, e9, e10, c0, c2]
  unfold qd qc
  rw [lc_eq dgb]
end
end AW

/-! AwLb: the later laws' own reckoning with polynomials. -/
namespace AW
open PySem PySem.Spec PyProof.Rows
theorem getD_map_fr (p : List Rat) {k : Nat} (h : k < p.length) : atD (p.map fr) (k : Int) = v1 (fr (p.getD k 0)) := atD_nat (by simp [h])
theorem cut_one (p : List Rat) (k : Nat) : atD (cutL (p.map fr) (some (k : Int)) (some ((k : Int) + 1)) ++ [fr 0]) 0 = v1 (fr (p.getD k 0)) := by
  have e : cutL (p.map fr) (some (k : Int)) (some ((k : Int) + 1)) = ((p.map fr).drop k).take 1 := by
    unfold cutL
    simp only [HT.sIx]
    rw [if_neg (by omega), if_neg (by omega), List.length_map]
    have e1 : ((k : Int) + 1).toNat = k + 1 := by omega
    rw [Int.toNat_natCast, e1]
    by_cases h : k < p.length
    · rw [Nat.min_eq_left (by omega), Nat.min_eq_left (by omega), show k + 1 - k = 1 by omega]
    · rw [Nat.min_eq_right (by omega), Nat.min_eq_right (by omega), Nat.sub_self, List.take_zero]
      rw [List.drop_eq_nil_of_le (by rw [List.length_map]; omega)]
      rfl
  rw [e]
  by_cases h : k < p.length
  · have : (p.map fr).drop k = fr (p.getD k 0) :: (p.map fr).drop (k + 1) := by
      rw [List.drop_eq_getElem_cons (by rw [List.length_map]; exact h)]
      simp [h]
    rw [this]
    show atD (fr (p.getD k 0) :: ([] ++ [fr 0])) 0 = _
    rw [atD_0]
  · rw [List.drop_eq_nil_of_le (by rw [List.length_map]; omega)]
    have : p.getD k 0 = 0 := by simp; rw [List.getElem?_eq_none (by omega)]; rfl
    rw [this]
    show atD [fr 0] 0 = _
    rw [atD_0]
theorem ser_addGet (p q : List Rat) : ser ((List.range (max p.length q.length)).map fun k => p.getD k 0 + q.getD k 0) = ser p + ser q := by
  ext n
  rw [ser_f, getD_range (f := fun k => p.getD k 0 + q.getD k 0), PS.add_f, ser_f, ser_f]
  by_cases h : n < max p.length q.length
  · rw [if_pos h]
  · rw [if_neg h]
    have e1 : p.getD n 0 = 0 := by simp; rw [List.getElem?_eq_none (by omega)]; rfl
    have e2 : q.getD n 0 = 0 := by simp; rw [List.getElem?_eq_none (by omega)]; rfl
    rw [e1, e2]; grind
section
variable {G : Nat → D} {c : Nat → List Sl → R (D × Bool)} {T : List Fn} {nm : Nm}
theorem ltrim_go (p : List Rat) (d : D) (h1 : sem1 .len d = v1 (.int p.length)) (h2 : ∀ i : Int, sem2 .idx d (.int i) = atD (p.map fr) i)
    (h3 : ∀ k : Nat, ((semSl d none (some (k : Int))).bind fun x => sem1 .tuple x.1) = v1 (.tuple ((p.map fr).take k))) : bo G c T b_law_trim [.va d] 1 = va (pol (trim p)) := by
  unfold bo b_law_trim
  simp [val, h1, es_whl]
  refine whileR_then (P := fun r => outF (r.bind _) = _) (I := fun en => ∃ k : Nat, en = [.va d, .va (.int k)] ∧ k ≤ p.length ∧ trim (p.take k) = trim p) (m := fun en => match en with
    | [_, .va (.int k)] => k.toNat
    | _ => 0) ?_ ⟨p.length, rfl, Nat.le_refl _, by rw [List.take_length]⟩
  rintro en ⟨k, rfl, hk, ht⟩
  cases k with
  | zero =>
    left
    refine ⟨by simp [val], ?_⟩
    have h3 := h3 0
    cases hs : semSl d none (some ((0 : Nat) : Int)) with
    | no => rw [hs] at h3; cases h3
    | ex e => rw [hs] at h3; cases h3
    | ok x =>
      rw [hs] at h3
      have h3 : sem1 .tuple x.1 = v1 (.tuple ((p.map fr).take 0)) := h3
      have hs' : semSl d none (some 0) = .ok x := hs
      simp [val, hs', h3]
      rw [← ht]
      rfl
  | succ k =>
    have hk' : k < p.length := by omega
    have e1 : (p.map fr)[k]? = some (fr p[k]) := by simp [hk']
    have e2 : ((k : Int) + 1 - 1) = (k : Int) := by omega
    have e3 := atD_nat e1
    by_cases h0 : p[k] = 0
    · right
      refine ⟨by simp [val, h2, e2, e3, h0], [.va d, .va (.int k)], by simp [val, e2], ⟨k, rfl, by omega, ?_⟩, by simp⟩
      rw [← ht, take_snoc (a := p[k]) (by simp [hk']), trim_snoc, if_pos h0]
    · left
      have hn : p[k].num ≠ 0 := by rw [Ne, Rat.num_eq_zero]; exact h0
      refine ⟨by simp [val, h2, e2, e3, h0, hn], ?_⟩
      have h3 := h3 (k + 1)
      cases hs : semSl d none (some ((k + 1 : Nat) : Int)) with
      | no => rw [hs] at h3; cases h3
      | ex e => rw [hs] at h3; cases h3
      | ok x =>
        rw [hs] at h3
        have h3 : sem1 .tuple x.1 = v1 (.tuple ((p.map fr).take (k + 1))) := h3
        have hs' : semSl d none (some ((k : Int) + 1)) = .ok x := hs
        simp [val, hs', h3]
        rw [← ht, take_snoc (a := p[k]) (by simp [hk']), trim_snoc, if_neg h0, ← take_snoc (a := p[k]) (by simp [hk'])]
        simp [pol]
theorem ltrim_ok (p : List Rat) : bo G c T b_law_trim [.va (.list (p.map fr))] 1 = va (pol (trim p)) :=
  ltrim_go p _ (by simp) (fun i => by simp) fun k => by
    show (R.ok (PyData.list (cutL (p.map fr) none (some (k : Int))), true)).bind _ = _
    rw [cutL_to]
    simp
theorem ltrim_ok' (p : List Rat) : bo G c T b_law_trim [.va (pol p)] 1 = va (pol (trim p)) :=
  ltrim_go p _ (by simp [pol]) (fun i => by simp [pol]) fun k => by
    show (v1 (PyData.tuple (cutL (p.map fr) none (some (k : Int))))).bind _ = _
    rw [cutL_to]
    simp
theorem lpsum_ok {jp jt : Nat} (hp : SpPlus c jp) (ht : SpTrim c jt) {p q : List Rat} (h1 : OkL p) (h2 : OkL q) (l1 : Ln p) (l2 : Ln q) :
    bo G c T (b_law_poly_sum jp jt) [.va (pol p), .va (pol q)] 2 = va (pol (trim (addL p q))) := by
  unfold Ln at l1 l2
  have c0 : (0 : Nat) ≤ line := Nat.zero_le _
  have c1 : (1 : Nat) ≤ line := by unfold line; omega
  have c2 : (2 : Nat) ≤ line := by unfold line; omega
  have z01 : PyData.tuple [.int 0, .int 1] = fr 0 := rfl
  have lp : sem1 .len (pol p) = v1 (.int p.length) := by simp [pol]
  have lq : sem1 .len (pol q) = v1 (.int q.length) := by simp [pol]
  obtain ⟨N, hN⟩ : ∃ N, N = max p.length q.length := ⟨_, rfl⟩
  have em : max (p.length : Int) (q.length : Int) = (N : Int) := by omega
  have hr := rngR_nat N (by omega)
  have okG : ∀ (p : List Rat), OkL p → ∀ k, Ok (p.getD k 0) := fun p h k => by
    by_cases hk : k < p.length
    · have : p.getD k 0 = p[k] := by simp [hk]
      rw [this]; exact h _ (List.getElem_mem _)
    · have : p.getD k 0 = 0 := by simp; rw [List.getElem?_eq_none (by omega)]; rfl
      rw [this]; exact Ok.zero
  unfold bo b_law_poly_sum
  simp [val, es_for, c0, lp, lq, em, hr]
  refine forR_then (P := fun r => outF (r.bind _) = _) (I := fun i en => ∃ z, en = [.va (pol p), .va (pol q), .ow (((List.range i).map fun k => p.getD k 0 + q.getD k 0).map fr), z]) ?_ ⟨_, rfl⟩ ?_
  · rintro i en d hi ⟨z, rfl⟩
    rw [List.getElem?_map] at hi
    cases hx : (List.range N)[i]? with
    | none => rw [hx] at hi; cases hi
    | some i' =>
      rw [hx] at hi
      cases Option.some.inj hi
      have hil := (List.getElem?_eq_some_iff.mp hx).1
      rw [List.length_range] at hil
      have hki : i' = i := by
        rw [List.getElem?_range hil] at hx
        exact (Option.some.inj hx).symm
      subst hki
      have s1 : ∀ (p : List Rat), p.length ≤ 100000 → ((semSl (pol p) (some (i' : Int)) (some ((i' : Int) + 1))).bind fun x => (sem2 .add x.1 (.tuple [fr 0])).bind fun y => sem2 .idx y.1 (.int 0)) = v1 (fr (p.getD i' 0)) := fun p hp => by
        have hl : (cutL (p.map fr) (some (i' : Int)) (some ((i' : Int) + 1))).length + [fr 0].length ≤ line := by
          show _ + 1 ≤ line
          have : (cutL (p.map fr) (some (i' : Int)) (some ((i' : Int) + 1))).length ≤ p.length := by
            unfold cutL
            rw [List.length_take, List.length_drop, List.length_map]
            omega
          unfold line
          omega
        show (v1 (PyData.tuple (cutL (p.map fr) (some (i' : Int)) (some ((i' : Int) + 1))))).bind _ = _
        simp only [v1_bind]
        rw [s2_addt, if_pos hl]
        simp only [v1_bind]
        rw [s2_idxt]
        exact cut_one p i'
      have s2 := s1 p l1
      have s3 := s1 q l2
      have e1 := hp (p.getD i' 0) (q.getD i' 0) (okG p h1 i') (okG q h2 i')
      cases t1 : semSl (pol p) (some (i' : Int)) (some ((i' : Int) + 1)) with
      | no => rw [t1] at s2; cases s2
      | ex e => rw [t1] at s2; cases s2
      | ok x1 =>
        cases t2 : semSl (pol q) (some (i' : Int)) (some ((i' : Int) + 1)) with
        | no => rw [t2] at s3; cases s3
        | ex e => rw [t2] at s3; cases s3
        | ok x2 =>
          rw [t1] at s2
          rw [t2] at s3
          have s2 : ((sem2 .add x1.1 (.tuple [fr 0])).bind fun y => sem2 .idx y.1 (.int 0)) = v1 (fr (p.getD i' 0)) := s2
          have s3 : ((sem2 .add x2.1 (.tuple [fr 0])).bind fun y => sem2 .idx y.1 (.int 0)) = v1 (fr (q.getD i' 0)) := s3
          cases u1 : sem2 .add x1.1 (.tuple [fr 0]) with
          | no => rw [u1] at s2; cases s2
          | ex e => rw [u1] at s2; cases s2
          | ok y1 =>
            cases u2 : sem2 .add x2.1 (.tuple [fr 0]) with
            | no => rw [u2] at s3; cases s3
            | ex e => rw [u2] at s3; cases s3
            | ok y2 =>
              rw [u1] at s2
              rw [u2] at s3
              have s2 : sem2 .idx y1.1 (.int 0) = v1 (fr (p.getD i' 0)) := s2
              have s3 : sem2 .idx y2.1 (.int 0) = v1 (fr (q.getD i' 0)) := s3
              have hlt : (((List.range i').map fun k => p.getD k 0 + q.getD k 0).map fr).length < line := by simp; unfold line; omega
              refine ⟨[.va (pol p), .va (pol q), .ow (((List.range (i' + 1)).map fun k => p.getD k 0 + q.getD k 0).map fr), .va (.int (i' : Int))], .inl ?_, _, rfl⟩
              rw [List.range_succ, List.map_append, List.map_append]
              generalize ((List.range i').map fun k => p.getD k 0 + q.getD k 0).map fr = F at *
              simp only [List.map_cons, List.map_nil]
              generalize p.getD i' 0 = x at *
              generalize q.getD i' 0 = y at *
              simp [val, t1, t2, z01, c1, c2, u1, u2, s2, s3, e1, hlt]
  · rintro en ⟨z, rfl⟩
    subst hN
    have e1 := ht.1 ((List.range (max p.length q.length)).map fun k => p.getD k 0 + q.getD k 0)
    rw [trim_ext ((ser_addGet p q).trans (ser_add p q).symm)] at e1
    rw [List.length_map, List.length_range]
    simp [val] at e1 ⊢
    rw [e1]
    rfl
theorem lptimes_gen {jp jb jt : Nat} (hp : SpPlus c jp) (hb : SpBy c jb) (ht : SpTrim c jt) {a b : PS} {m0 n0 B M : Nat} {K : Int} (lta : Lt a m0) (ltb : Lt b n0) (hm0 : m0 ≤ 40000) (hn0 : n0 ≤ 40000) (oka : ∀ i, Ok (a.f i)) (okb : ∀ i, Ok (b.f i))
    (K1 : K ≠ 0) (K2 : K.natAbs ≤ 2 ^ B) (hM : m0 * M ≤ 2 ^ B) (hB : B ≤ 40000000) (hK : ∀ i k, Nb K M (a.f i * b.f k)) :
    bo G c T (b_law_poly_times jp jb jt) [.va (po a), .va (po b)] 3 = va (po (a * b)) := by
  have pa : Pl a := ⟨_, lta⟩
  have pb : Pl b := ⟨_, ltb⟩
  have l1 := toL_le lta
  have l2 := toL_le ltb
  have sea := ser_toL pa
  have seb := ser_toL pb
  have geta := fun {i : Nat} (h : i < (toL a).length) => toL_get pa h
  have getb := fun {i : Nat} (h : i < (toL b).length) => toL_get pb h
  unfold po
  generalize hP : toL a = p at *
  generalize hQ : toL b = q at *
  obtain ⟨n, hn⟩ : ∃ n : Nat, n = p.length + q.length := ⟨_, rfl⟩
  have c1 : (-1000000 : Int) ≤ (p.length : Int) + (q.length : Int) := by omega
  have c2 : (p.length : Int) + (q.length : Int) ≤ 1000000 := by omega
  have c3 : n ≤ line := by unfold line; omega
  have c4 : (1 : Nat) ≤ line := by unfold line; omega
  have c5 : (2 : Nat) ≤ line := by unfold line; omega
  have c6 : ((p.length : Int) + (q.length : Int)).toNat = n := by omega
  have lp : sem1 .len (pol p) = v1 (.int p.length) := by simp [pol]
  have lq : sem1 .len (pol q) = v1 (.int q.length) := by simp [pol]
  have small : ∀ {i : Nat} {x : Rat}, i ≤ p.length → Nb K (i * M) x → Ok x := fun {i x} hi h => by
    refine Ok.of (h.bd (b := B) K1 K2 ?_) hB
    exact Nat.le_trans (Nat.mul_le_mul_right _ (by omega)) hM
  have hr1 := rngR_nat p.length (by omega)
  have hr2 := rngR_nat q.length (by omega)
  unfold bo b_law_poly_times
  simp [val, z01, es_for, lp, lq, c1, c2, c3, c4, c5, c6, hr1, hr2]
  have e0 : List.replicate n (fr 0) = (List.replicate n (0 : Rat)).map fr := by simp
  rw [e0]
  refine forR_then (P := fun r => outF (r.bind _) = _) (I := fun i en => ∃ F z3 z4, en = [.va (pol p), .va (pol q), .ow (F.map fr), z3, z4] ∧ F.length = n ∧ ser F = ser (p.take i) * ser q ∧ ∀ x ∈ F, Nb K (i * M) x) ?_ ⟨List.replicate n 0, _, _, rfl, by simp, ?_, ?_⟩ ?_
  · rintro i en d hi ⟨F0, z3, z4, rfl, k1, k2, k3⟩
    rw [List.getElem?_map] at hi
    cases hx' : (List.range p.length)[i]? with
    | none => rw [hx'] at hi; cases hi
    | some i' =>
      rw [hx'] at hi
      cases Option.some.inj hi
      have hil := (List.getElem?_eq_some_iff.mp hx').1
      rw [List.length_range] at hil
      have hki : i' = i := by
        rw [List.getElem?_range hil] at hx'
        exact (Option.some.inj hx').symm
      subst hki
      obtain ⟨x, hx⟩ : ∃ x, p[i']? = some x := ⟨p[i'], List.getElem?_eq_getElem hil⟩
      have ex : x = a.f i' := by have := geta hil; rw [hx] at this; exact Option.some.inj this
      have bx : Ok x := by rw [ex]; exact oka i'
      have ix : sem2 .idx (pol p) (.int (i' : Int)) = v1 (fr x) := by
        unfold pol; rw [s2_idxt]; exact atD_nat (by rw [List.getElem?_map, hx]; rfl)
      simp [val, es_for, lq, hr2]
      generalize hR : forR _ _ _ _ = r
      have key : ∃ en', r = .ok (.nx en') ∧ ∃ F z4, en' = [.va (pol p), .va (pol q), .ow (F.map fr), .va (.int (i' : Nat)), z4] ∧ F.length = n ∧ ser F = ser F0 + PS.X ^ i' * (PS.C x * ser q) ∧ ∀ x ∈ F, Nb K ((i' + 1) * M) x := by
       rw [← hR]
       refine forR_ex (I := fun k en => ∃ F z4, en = [.va (pol p), .va (pol q), .ow (F.map fr), .va (.int (i' : Nat)), z4] ∧ F.length = n ∧
        ser F = ser F0 + PS.X ^ i' * (PS.C x * ser (q.take k)) ∧ (∀ x ∈ F, Nb K ((i' + 1) * M) x) ∧ ∀ m, i' + k ≤ m → F.getD m 0 = F0.getD m 0) ⟨F0, _, rfl, k1, ?_, fun x hx => (k3 x hx).mono (Nat.mul_le_mul_right _ (by omega)), fun m _ => rfl⟩ ?_ ?_
       · rw [List.take_zero]
         show ser F0 = ser F0 + PS.X ^ i' * (PS.C x * 0)
         grind
       · rintro k en d hk ⟨F, y4, rfl, f1, f2, f3, f4⟩
         rw [List.getElem?_map] at hk
         cases hy' : (List.range q.length)[k]? with
         | none => rw [hy'] at hk; cases hk
         | some k' =>
           rw [hy'] at hk
           cases Option.some.inj hk
           have hkl := (List.getElem?_eq_some_iff.mp hy').1
           rw [List.length_range] at hkl
           have hkk : k' = k := by
             rw [List.getElem?_range hkl] at hy'
             exact (Option.some.inj hy').symm
           subst hkk
           obtain ⟨y, hy⟩ : ∃ y, q[k']? = some y := ⟨q[k'], List.getElem?_eq_getElem hkl⟩
           have ey : y = b.f k' := by have := getb hkl; rw [hy] at this; exact Option.some.inj this
           have by_ : Ok y := by rw [ey]; exact okb k'
           have iy : sem2 .idx (pol q) (.int (k' : Int)) = v1 (fr y) := by
             unfold pol; rw [s2_idxt]; exact atD_nat (by rw [List.getElem?_map, hy]; rfl)
           have hlt : i' + k' < F.length := by omega
           have eF : (F.map fr)[i' + k']? = some (fr (F.getD (i' + k') 0)) := by simp [hlt]
           have b0 : Nb K (i' * M) (F.getD (i' + k') 0) := by
             rw [f4 (i' + k') (by omega)]
             have : (F0.getD (i' + k') 0) ∈ F0 := by
               have hlt' : i' + k' < F0.length := by omega
               simp [hlt']
             exact k3 _ this
           have b1 : Nb K M (x * y) := by rw [ex, ey]; exact hK i' k'
           have e1 := hb x y bx by_
           have e2 := hp (F.getD (i' + k') 0) (x * y) (small (by omega) b0) (small (i := 1) (by omega) (by rw [Nat.one_mul]; exact b1))
           have e3 : ((i' : Int) + (k' : Int)) = ((i' + k' : Nat) : Int) := by omega
           have e4 := atD_nat eF
           have e5 : setD (F.map fr) ((i' + k' : Nat) : Int) (fr (F.getD (i' + k') 0 + x * y)) = .ok ((F.set (i' + k') (F.getD (i' + k') 0 + x * y)).map fr) := by
             rw [setD_nat (by rw [List.length_map]; exact hlt), List.map_set]
           generalize hv : F.getD (i' + k') 0 = v at *
           refine ⟨[.va (pol p), .va (pol q), .ow ((F.set (i' + k') (v + x * y)).map fr), .va (.int (i' : Nat)), .va (.int (k' : Nat))], .inl ?_, F.set (i' + k') (v + x * y), _, rfl, by rw [List.length_set]; exact f1, ?_, ?_, ?_⟩
           · simp [val, ix, iy, e3, e4, e1, e2, e5, -Int.natCast_add, -List.map_set]
           · rw [ser_set F (i' + k') _ hlt, f2, ser_take_succ hy, hv, show v + x * y - v = x * y by grind, PS.C_mulC]
             grind
           · intro w hw
             rcases List.mem_or_eq_of_mem_set hw with hw | rfl
             · exact f3 w hw
             · exact (b0.add b1).mono (by rw [Nat.add_mul]; omega)
           · intro m hm'
             rw [← f4 m (by omega)]
             have hne : i' + k' ≠ m := by omega
             simp [List.getElem?_set_ne hne]
       · rintro en ⟨F, y4, rfl, f1, f2, f3, f4⟩
         refine ⟨F, _, rfl, f1, ?_, f3⟩
         rw [f2, List.length_map, List.length_range, List.take_length]
      obtain ⟨en', rfl, F, y4, rfl, f1, f2, f3⟩ := key
      refine ⟨_, .inl rfl, F, ⟨_, _, rfl⟩, f1, ?_, f3⟩
      rw [f2, k2, ser_take_succ hx]
      grind
  · rw [ser_zeros, List.take_zero]
    show (0 : PS) = 0 * ser q
    grind
  · intro x hx
    rw [(List.mem_replicate.mp hx).2]
    exact Nb.zero _ _
  · rintro en ⟨F, z3, z4, rfl, k1, k2, k3⟩
    rw [List.length_map, List.length_range, List.take_length] at k2
    have e1 := ht.1 F
    rw [pol_trim, k2, sea, seb] at e1
    simp [val, e1]
    rfl
theorem lptimes_ok {jp jb jt : Nat} (hp : SpPlus c jp) (hb : SpBy c jb) (ht : SpTrim c jt) {a b : PS} {m0 n0 h0 k0 l0 : Nat} (za : Z m0 h0 a) (zb : Z n0 k0 b) (hz : m0 ≤ 2 ^ l0 ∧ h0 + k0 + l0 ≤ 40000000 ∧ m0 ≤ 40000 ∧ n0 ≤ 40000) :
    bo G c T (b_law_poly_times jp jb jt) [.va (po a), .va (po b)] 3 = va (po (a * b)) := by
  obtain ⟨hl, hs, hm0, hn0⟩ := hz
  obtain ⟨ka, ka1, ka2, ka3⟩ := za.hb
  obtain ⟨kb, kb1, kb2, kb3⟩ := zb.hb
  refine lptimes_gen (B := h0 + k0 + l0) (M := 2 ^ (h0 + k0)) (K := ka * kb) hp hb ht za.lt zb.lt hm0 hn0 (fun i => Ok.of (za.bd i) (by omega)) (fun i => Ok.of (zb.bd i) (by omega)) (Int.mul_ne_zero ka1 kb1) ?_ ?_ hs fun i k => ?_
  · exact Nat.le_trans (natAbs_mul_le ka2 kb2) (Nat.pow_le_pow_right (by decide) (by omega))
  · rw [Nat.pow_add _ _ l0, Nat.mul_comm]
    exact Nat.mul_le_mul (Nat.le_refl _) (by omega)
  · have hpow : (2 : Nat) ^ (h0 + k0) = 2 ^ h0 * 2 ^ k0 := Nat.pow_add _ _ _
    rw [hpow]
    exact Nb.mul (ka3 i) (kb3 k)
end
end AW

/-! AwLb2: the later laws' division, common parts, quotients. -/
namespace AW
open PySem PySem.Spec PyProof.Rows
theorem DivSt.skip {a b : PS} {n g : Nat} {ka kb L : Int} {h k p : Nat} {R S : PS} (st : DivSt a b n g ka kb L h k (p + 1) R S) (hp : p < g) (hb : Dg b n) (wb : ∀ j, Nb kb (2 ^ k) (b.f j)) (eL : (kb : Rat) * b.f n = L) (bL : L.natAbs ≤ 2 ^ k) (bk : kb.natAbs ≤ 2 ^ k) (z : R.f (p + n) = 0) :
    DivSt a b n g ka kb L h k p R S := by
  have := st.step hp hb wb eL bL bk
  rw [z, show (0 : Rat) * (b.f n)⁻¹ = 0 by grind, PS.C_zero, show R - 0 * (PS.X ^ p * b) = R by grind, show S + 0 * PS.X ^ p = S by grind] at this
  exact this
theorem DivSt.down {a b : PS} {n g : Nat} {ka kb L : Int} {h k : Nat} {R S : PS} (hb : Dg b n) (wb : ∀ j, Nb kb (2 ^ k) (b.f j)) (eL : (kb : Rat) * b.f n = L) (bL : L.natAbs ≤ 2 ^ k) (bk : kb.natAbs ≤ 2 ^ k) (q : Nat) (lt : Lt R (q + n)) : ∀ t, q + t ≤ g → DivSt a b n g ka kb L h k (q + t) R S → DivSt a b n g ka kb L h k q R S
  | 0, _, st => st
  | t + 1, ht, st => DivSt.down hb wb eL bL bk q lt t (by omega) (DivSt.skip (p := q + t) (by rw [show q + t + 1 = q + (t + 1) by omega]; exact st) (by omega) hb wb eL bL bk (lt _ (by omega)))
section
variable {G : Nat → D} {c : Nat → List Sl → R (D × Bool)} {T : List Fn} {nm : Nm}
theorem lparted_ok {jl js jm : Nat} (hl : SpFrac c jl) (hs : SpSum c js) (hm : SpProdZ c jm) {a b : PS} {m0 n0 h k : Nat} (za : Z m0 h a) (zb : Z n0 k b) (b0 : b ≠ 0)
    (hz : m0 ≤ 20000 ∧ n0 ≤ 20000 ∧ h + (m0 + 2) * (k + 1) ≤ 39000000) : bo G c T (b_law_poly_parted jl js jm) [.va (po a), .va (po b)] 5 = va (.tuple [po (quo a b), po (rem a b)]) := by
  obtain ⟨hm0, hn0, hsz⟩ := hz
  obtain ⟨n, db⟩ := zb.pl.dg b0
  have lb := toL_len db
  have la := toL_le za.lt
  have nn := db.lt zb.lt
  obtain ⟨ka, ka1, ka2, ka3⟩ := za.hb
  obtain ⟨kb, kb1, kb2, kb3⟩ := zb.hb
  obtain ⟨L, eL, bL⟩ := kb3 n
  have L0 : L ≠ 0 := fun z => by
    have := int_ne kb1
    have := db.2
    rw [z] at eL
    have eL : (kb : Rat) * b.f n = 0 := eL
    grind
  obtain ⟨g, hg'⟩ : ∃ g : Nat, g = (toL a).length - n := ⟨_, rfl⟩
  have e1 := idx_last db
  have hbn : (b.f n).num ≠ 0 := by rw [Ne, Rat.num_eq_zero]; exact db.2
  have c1 : (1 : Nat) ≤ line := by unfold line; omega
  have c2 : (2 : Nat) ≤ line := by unfold line; omega
  have c0 : (0 : Nat) ≤ line := by unfold line; omega
  have hgm : g * (k + 1) ≤ m0 * (k + 1) := Nat.mul_le_mul_right _ (by omega)
  rw [Nat.add_mul] at hsz
  have K0 : ∀ i, ka * L ^ i ≠ 0 := fun i => Int.mul_ne_zero ka1 (Int.pow_ne_zero L0)
  have Kb : ∀ {i : Nat}, i ≤ g → (ka * L ^ i).natAbs ≤ 2 ^ (h + g * (k + 1)) := fun {i} hi => by
    have hik : i * (k + 1) ≤ g * (k + 1) := Nat.mul_le_mul_right _ hi
    rw [Int.natAbs_mul, Int.natAbs_pow]
    refine Nat.le_trans (Nat.mul_le_mul ka2 (Nat.pow_le_pow_left bL i)) ?_
    rw [← Nat.pow_mul, ← Nat.pow_add]
    refine Nat.pow_le_pow_right (by decide) ?_
    have : k * i ≤ i * (k + 1) := by rw [Nat.mul_comm]; exact Nat.mul_le_mul_left _ (by omega)
    omega
  generalize hB : h + g * (k + 1) = B at *
  have wZ : ∀ {i : Nat} {s : PS} {n : Nat}, i ≤ g → Lt s n → (∀ j, Nb (ka * L ^ i) (2 ^ (h + i * (k + 1))) (s.f j)) → Z n B s := fun {i s n} hi hs w => ⟨hs, ka * L ^ i, K0 i, Kb hi, fun j => (w j).mono (Nat.pow_le_pow_right (by decide) (by
    have hik : i * (k + 1) ≤ g * (k + 1) := Nat.mul_le_mul_right _ hi
    omega))⟩
  have z01 : PyData.tuple [.int 0, .int 1] = fr 0 := rfl
  have zm1 : PyData.tuple [PyData.tuple [.int (-1), .int 1]] = po (PS.C (-1)) := by rw [po_C (by decide)]; rfl
  unfold bo b_law_poly_parted
  simp [val, es_whl, c0, ← po_zero]
  refine whileR_then (P := fun r => outF (r.bind _) = _) (I := fun en => ∃ R S p z4 z5 z6, en = [.va (po a), .va (po b), .va (po R), .va (po S), z4, z5, z6] ∧ p ≤ g ∧ DivSt a b n g ka kb L h k p R S ∧ Pl R)
    (m := fun en => match en with
    | [_, _, .va (.tuple ds), _, _, _, _] => ds.length
    | _ => 0) ?_
    ⟨a, 0, g, .un, .un, .un, rfl, Nat.le_refl _, DivSt.init ((toL_lt za.pl).mono (by omega)) ka3, za.pl⟩
  rintro en ⟨R, S, p, z4, z5, z6, rfl, pg, st, pR⟩
  by_cases hlen : (toL R).length < n + 1
  · left
    have hlt : ¬ (((toL b).length : Int) ≤ ((toL R).length : Int)) := by omega
    refine ⟨by simp [val]; omega, ?_⟩
    obtain ⟨u1, u2⟩ := quo_eq db ⟨_, st.ltS⟩ ((toL_lt pR).mono (by omega)) (show a = S * b + R by rw [st.eq]; grind)
    simp [val, c2, u1, u2]
  · right
    have hge : (((toL b).length : Int) ≤ ((toL R).length : Int)) := by omega
    have R0 : R ≠ 0 := fun z => by rw [z, toL_zero, List.length_nil] at hlen; omega
    obtain ⟨r, dR⟩ := pR.dg R0
    have lR := toL_len dR
    obtain ⟨q, hq⟩ : ∃ q, r = q + n := ⟨r - n, by omega⟩
    have rlt := dR.lt st.ltR
    -- down to where the rest ends
    have st1 := DivSt.down (a := a) (S := S) (g := g) (ka := ka) (h := h) db kb3 eL bL kb2 (q + 1) (R := R) (dR.1.mono (by omega)) (p - (q + 1)) (by omega) (by rw [show q + 1 + (p - (q + 1)) = p by omega]; exact st)
    have st2 := st1.step (by omega) db kb3 eL bL kb2
    have eqr : R.f (q + n) = R.f r := by rw [hq]
    rw [eqr] at st2
    have zR : Z (q + 1 + n) B R := wZ (i := g - (q + 1)) (by omega) st1.ltR st1.wR
    have zS : Z g B S := wZ (i := g - (q + 1)) (by omega) st1.ltS st1.wS
    have zR2 := wZ (i := g - q) (by omega) st2.ltR st2.wR
    have zS2 := wZ (i := g - q) (by omega) st2.ltS st2.wS
    have ir := idx_last dR
    have hrn : (R.f r).num ≠ 0 := by rw [Ne, Rat.num_eq_zero]; exact dR.2
    have hden : ((R.f r).den : Int) * (b.f n).num ≠ 0 := Int.mul_ne_zero (by have := (R.f r).den_nz; omega) hbn
    have e2 := hl ((R.f r).num * (b.f n).den) ((R.f r).den * (b.f n).num) hden
    have eN : Rat.divInt ((R.f r).num * (b.f n).den) ((R.f r).den * (b.f n).num) = R.f r * (b.f n)⁻¹ := by
      have i1 := Rat.num_divInt_den (R.f r)
      have i2 := Rat.num_divInt_den (b.f n)
      rw [Rat.divInt_eq_div] at i1 i2 ⊢
      have d1 : (((R.f r).den : Int) : Rat) ≠ 0 := int_ne (by have := (R.f r).den_nz; omega)
      have d2 : (((b.f n).den : Int) : Rat) ≠ 0 := int_ne (by have := (b.f n).den_nz; omega)
      have d3 : ((b.f n).num : Rat) ≠ 0 := int_ne hbn
      rw [Rat.intCast_mul, Rat.intCast_mul]
      conv => rhs; rw [← i1, ← i2]
      generalize (((R.f r).den : Int) : Rat) = x1 at *
      generalize (((b.f n).den : Int) : Rat) = x2 at *
      generalize ((b.f n).num : Rat) = x3 at *
      generalize ((R.f r).num : Rat) = x4 at *
      grind
    rw [eN] at e2
    have bR : Bd B (R.f r) := zR.bd r
    have bb : Bd k (b.f n) := zb.bd n
    have m1 : mulOk (R.f r).num (b.f n).den = true := mulOk_le bR.1 bb.2 (by omega)
    have m2 : mulOk (R.f r).den (b.f n).num = true := mulOk_le (i := ((R.f r).den : Int)) (by simpa using bR.2) bb.1 (by omega)
    have N0 : R.f r * (b.f n)⁻¹ ≠ 0 := by
      have h1 := dR.2
      have h2 := db.2
      intro z
      rcases Rat.mul_eq_zero.mp z with q | q
      · exact h1 q
      · have : (b.f n)⁻¹ * b.f n = 1 := by grind
        rw [q] at this
        grind
    have bN : Bd B (R.f r * (b.f n)⁻¹) := by
      have := zS2.bd q
      rw [PS.add_f, PS.C_mul, Xpow_f, if_pos rfl, st1.low q (by omega)] at this
      rw [show R.f r * (b.f n)⁻¹ = 0 + R.f r * (b.f n)⁻¹ * 1 by grind]
      exact this
    generalize hNN : R.f r * (b.f n)⁻¹ = N at *
    -- the piece
    have ed : (((toL R).length : Int) - ((toL b).length : Int)) = (q : Int) := by omega
    have ePc : pol (List.replicate q 0 ++ [N]) = po (PS.C N * PS.X ^ q) := by
      have : trim (List.replicate q 0 ++ [N]) = List.replicate q 0 ++ [N] := by rw [trim_snoc, if_neg N0]
      rw [← this, pol_trim, ser_append, ser_zeros, List.length_replicate]
      show po (0 + PS.X ^ q * (PS.C N + PS.X * 0)) = _
      congr 1
      grind
    have eD : PyData.tuple ((List.replicate q [fr 0]).flatten ++ [fr N]) = po (PS.C N * PS.X ^ q) := by
      rw [← ePc]
      unfold pol
      rw [List.map_append, ← rep_fr]
      rfl
    have zPc : Z (q + 1) B (PS.C N * PS.X ^ q) := ⟨(Xpow_lt q).smul N, by
      have := (Hb.one 0).Xpow q
      rw [show (PS.X ^ q : PS) * 1 = PS.X ^ q by grind] at this
      exact (this.ofC bN).mono (by omega)⟩
    have t1 := hs.z (n := g + q + 1) (h := B) (zS.mono (by omega) (Nat.le_refl _)) (zPc.mono (by omega) (Nat.le_refl _)) ⟨by omega, by omega⟩
    have t2 := hm (PS.C N * PS.X ^ q) b (q + 1) n0 B k 15 zPc zb ⟨by
      have : (2 : Nat) ^ 15 = 32768 := by decide
      omega, by omega, by omega, by omega⟩
    have zPb : Z (q + 1 + n) (B + k + 15) (PS.C N * PS.X ^ q * b) := (zPc.mul (⟨db.1, zb.hb⟩ : Z (n + 1) k b) (l := 15) (by
      have : (2 : Nat) ^ 15 = 32768 := by decide
      omega)).mono (by omega) (Nat.le_refl _)
    have zC1 : Z 1 0 (PS.C (-1)) := Z.C ⟨by decide, by decide⟩
    have t3 := hm (PS.C (-1)) (PS.C N * PS.X ^ q * b) 1 (q + 1 + n) 0 (B + k + 15) 0 zC1 zPb ⟨by decide, by omega, by omega, by omega⟩
    have zneg : Z (q + 1 + n) (B + k + 15) (PS.C (-1) * (PS.C N * PS.X ^ q * b)) := by
      have := Z.smul (c := (-1 : Rat)) (h := 0) ⟨by decide, by decide⟩ zPb
      exact this.mono (Nat.le_refl _) (by omega)
    have t4 := hs.z (n := q + 1 + n) (h := B + k + 15) (zR.mono (Nat.le_refl _) (by omega)) zneg ⟨by omega, by omega⟩
    have eR2 : R + PS.C (-1) * (PS.C N * PS.X ^ q * b) = R - PS.C N * (PS.X ^ q * b) := by rw [PS.C_neg, PS.C_one]; grind
    rw [eR2] at t4
    have d1 : (q : Int) ≤ 1000000 := by omega
    have d2 : (-1000000 : Int) ≤ (q : Int) := by omega
    have d3 : q ≤ line := by unfold line; omega
    have d4 : q + 1 ≤ line := by unfold line; omega
    have eb : e1 = e1 := rfl
    refine ⟨by simp [val]; omega, [.va (po a), .va (po b), .va (po (R - PS.C N * (PS.X ^ q * b))), .va (po (S + PS.C N * PS.X ^ q)), .va (fr (b.f n)), .va (fr N), .va (po (PS.C N * PS.X ^ q))], ?_, ⟨_, _, q, _, _, _, rfl, by omega, st2, ⟨_, st2.ltR⟩⟩, ?_⟩
    · have eD' : PyData.tuple (List.replicate q (fr 0) ++ [fr N]) = po (PS.C N * PS.X ^ q) := by
        rw [← eD]
        congr 2
        have : ∀ q : Nat, (List.replicate q [fr 0]).flatten = List.replicate q (fr 0) := fun q => by
          induction q with
          | zero => rfl
          | succ q ih => rw [List.replicate_succ, List.replicate_succ, List.flatten_cons, ih]; rfl
        exact (this q).symm
      simp [val, e1, ir, m1, m2, e2, z01, zm1, ed, c1, c2, d1, d2, d3, d4, eD', t1, t2, t3, t4]
    · have l1 := toL_le st2.ltR
      show ((toL (R - PS.C N * (PS.X ^ q * b))).map fr).length < ((toL R).map fr).length
      rw [List.length_map, List.length_map]
      omega
end
end AW

/-! AwLb3: the later laws' monic ones, quotients, drawn polynomials, and their walk over the script. -/
namespace AW
open PySem PySem.Spec PyProof.Rows
section
variable {G : Nat → D} {c : Nat → List Sl → R (D × Bool)} {T : List Fn} {nm : Nm}
/-- a number times a polynomial, by the polynomial's own bits -/
def SpOver (c : Nat → List Sl → R (D × Bool)) (j : Nat) : Prop := ∀ (a : PS) (n h m : Nat), Z n h a → Dg a m → n ≤ 40000 ∧ h ≤ 40000000 → c j [.va (po (PS.C (a.f m)⁻¹)), .va (po a)] = va (po (PS.C (a.f m)⁻¹ * a))
theorem lpover_ok {jp jb jt : Nat} (hp : SpPlus c jp) (hb : SpBy c jb) (ht : SpTrim c jt) {a : PS} {n h m : Nat} (z : Z n h a) (d : Dg a m) (l : n ≤ 40000 ∧ h ≤ 40000000) : bo G c T (b_law_poly_times jp jb jt) [.va (po (PS.C (a.f m)⁻¹)), .va (po a)] 3 = va (po (PS.C (a.f m)⁻¹ * a)) := by
  obtain ⟨k, k1, k2, k3⟩ := z.hb
  obtain ⟨w, w1, w2⟩ := k3 m
  have hk := int_ne k1
  have w0 : w ≠ 0 := fun e => by
    have := d.2
    rw [e] at w1
    have w1 : (k : Rat) * a.f m = 0 := w1
    grind
  have hinv : Bd h (a.f m)⁻¹ := by
    have bb := z.bd m
    have nz : (a.f m).num ≠ 0 := by rw [Ne, Rat.num_eq_zero]; exact d.2
    rw [← inv_divInt d.2]
    have := divInt_le (a := ((a.f m).den : Int)) (b := (a.f m).num) nz
    exact ⟨Nat.le_trans this.1 (by simpa using bb.2), Nat.le_trans this.2 bb.1⟩
  have hC : ∀ i, (PS.C (a.f m)⁻¹).f i = if i = 0 then (a.f m)⁻¹ else 0 := fun i => rfl
  refine lptimes_gen (B := h) (M := 2 ^ h) (K := w) (m0 := 1) (n0 := n) hp hb ht (Lt.C _) z.lt (by decide) l.1 (fun i => ?_) (fun i => Ok.of (z.bd i) l.2) w0 w2 (by omega) l.2 fun i j => ?_
  · rw [hC]
    split
    · exact Ok.of hinv l.2
    · exact Ok.zero
  · rw [hC]
    split
    · obtain ⟨v, v1, v2⟩ := k3 j
      refine ⟨v, ?_, v2⟩
      have := d.2
      rw [← w1, ← v1]
      grind
    · rw [show (0 : Rat) * a.f j = 0 by grind]; exact Nb.zero _ _
theorem law_monic_2_ok {jt jl : Nat} (ht : SpOver c jt) (hl : SpFrac c jl) {a : PS} {n h : Nat} (z : Z n h a) (l : n ≤ 40000 ∧ h ≤ 40000000) : bo G c T (b_law_monic_2 jt jl) [.va (po a)] 0 = va (po (mon a)) := by
  have c0 : (0 : Nat) ≤ line := Nat.zero_le _
  have c1 : (1 : Nat) ≤ line := by unfold line; omega
  have e0 := eq_po0 z.pl
  unfold bo b_law_monic_2
  by_cases h0 : a = 0
  · subst h0
    simp [val, c0, e0]
    rw [mon_zero, po_zero]
  · obtain ⟨m, hm⟩ := z.pl.dg h0
    have e1 := idx_last hm
    have hn : (a.f m).num ≠ 0 := by rw [Ne, Rat.num_eq_zero]; exact hm.2
    have e2 := hl (a.f m).den (a.f m).num hn
    rw [inv_divInt hm.2] at e2
    have i0 : (a.f m)⁻¹ ≠ 0 := by have := hm.2; grind
    have e3 := ht a n h m z hm l
    rw [po_C i0] at e3
    simp [val, c0, c1, e0, h0, e1, e2, e3]
    unfold mon
    rw [lc_eq hm]
theorem law_canon_ok {jc jl jt jp jm : Nat} (hc : SpCom c jc) (hl : SpFrac c jl) (ht : SpProdZ c jt) (hp : SpDiv c jp) (hm : SpMon c jm) {a b : PS} {m n h l : Nat} (za : Z m h a) (zb : Z n h b) (b0 : b ≠ 0) (ok : QuotOk m n h l) :
    bo G c T (b_law_canon jc jl jt jp jm) [.va (po a), .va (po b)] 2 = va (qd (qc a b)) := by
  obtain ⟨okc, m0, n0, ok3⟩ := ok
  have c0 : (0 : Nat) ≤ line := Nat.zero_le _
  have c1 : (1 : Nat) ≤ line := by unfold line; omega
  have c2 : (2 : Nat) ≤ line := by unfold line; omega
  obtain ⟨nb, dgb⟩ := zb.pl.dg b0
  have e4 := hc a b m n h l za zb okc
  have e5 := idx_last dgb
  have hbn : (b.f nb).num ≠ 0 := by rw [Ne, Rat.num_eq_zero]; exact dgb.2
  have e6 := hl (b.f nb).den (b.f nb).num hbn
  rw [inv_divInt dgb.2] at e6
  have i0 : (b.f nb)⁻¹ ≠ 0 := by have := dgb.2; grind
  have ig := gcd_is za.pl zb.pl
  obtain ⟨d, hd⟩ := gcd_mn za.pl zb.pl (.inr b0)
  have dl : d + 1 ≤ n := by have := ig.dvr.dg hd.dg dgb; have := dgb.lt zb.lt; omega
  have hcb : h ≤ cb m n h l := by
    unfold cb
    have : 1 * (h + l) ≤ (m + n) * (h + l) := Nat.mul_le_mul_right _ (by omega)
    omega
  have zg : Z n (cb m n h l) (gcd a b) := ⟨hd.1.mono dl, Z.gcd za zb okc.1⟩
  rw [show m + n + 2 = (m + 2) + n by omega, Nat.add_mul] at ok3
  have k1 : (n + 2) * (cb m n h l + 1) ≤ (m + 2) * (cb m n h l + 1) + n * (cb m n h l + 1) := by
    rw [← Nat.add_mul]; exact Nat.mul_le_mul_right _ (by omega)
  have e7 := hp a (gcd a b) m n h _ za zg hd.dg.ne ⟨by omega, by omega, by omega⟩
  have e8 := hp b (gcd a b) n n h _ zb zg hd.dg.ne ⟨by omega, by omega, by omega⟩
  have zqa := (Z.div za ⟨hd.1, zg.hb⟩ hd.dg).1
  have zqb := (Z.div zb ⟨hd.1, zg.hb⟩ hd.dg).1
  have k2 : (m + 2) * (cb m n h l + 1) = m * (cb m n h l + 1) + 2 * (cb m n h l + 1) := Nat.add_mul _ _ _
  have k3 : n * (cb m n h l + 1) ≤ (n + 2) * (cb m n h l + 1) := Nat.mul_le_mul_right _ (by omega)
  have hinv : Bd h (b.f nb)⁻¹ := by
    have bb := zb.bd nb
    rw [← inv_divInt dgb.2]
    have := divInt_le (a := ((b.f nb).den : Int)) (b := (b.f nb).num) hbn
    exact ⟨Nat.le_trans this.1 (by simpa using bb.2), Nat.le_trans this.2 bb.1⟩
  have e9 := ht (PS.C (b.f nb)⁻¹) (quo a (gcd a b)) 1 m h (h + m * (cb m n h l + 1)) 0 (Z.C hinv) (zqa.mono (by omega) (Nat.le_refl _)) ⟨by decide, by omega, by decide, by omega⟩
  rw [po_C i0] at e9
  have e10 := hm (quo b (gcd a b)) n (h + n * (cb m n h l + 1)) (zqb.mono (by omega) (Nat.le_refl _)) ⟨by omega, by omega⟩
  unfold bo b_law_canon
  simp [val, e4, e5, e6, e7, e8, e9, e10, c0, c1, c2]
  unfold qd qc
  rw [lc_eq dgb]
/-! ### drawn -/
def SpSmall (c : Nat → List Sl → R (D × Bool)) (j : Nat) : Prop := ∀ x k : Int, k.natAbs < 2 ^ 60 → ∃ q : Rat, Bd 5 q ∧ c j [.va (.int x), .va (.int k)] = va (fr q)
theorem small_ok' {jm jl : Nat} (hm : SpMix c jm) (hl : SpFrac c jl) (x k : Int) (hk : k.natAbs < 2 ^ 60) : ∃ q : Rat, Bd 5 q ∧ bo G c T (b_law_small jm jl) [.va (.int x), .va (.int k)] 1 = va (fr q) := by
  have e1 := hm x k hk
  obtain ⟨n1, n2⟩ := mixV_nn x k
  generalize mixV x k = m at *
  have q1 : m.fdiv 3 = m / 3 := Int.fdiv_eq_ediv_of_nonneg _ (by decide)
  have q2 : (m / 3).fmod 19 = m / 3 % 19 := Int.fmod_eq_emod_of_nonneg _ (by decide)
  have q3 : ((m / 3).fdiv 19).fmod 3 = m / 3 / 19 % 3 := by rw [Int.fdiv_eq_ediv_of_nonneg _ (by decide), Int.fmod_eq_emod_of_nonneg _ (by decide)]
  have hu : (1 + m / 3 / 19 % 3) ≠ 0 := by omega
  have e2 := hl (m / 3 % 19 - 9) (1 + m / 3 / 19 % 3) hu
  refine ⟨Rat.divInt (m / 3 % 19 - 9) (1 + m / 3 / 19 % 3), Bd.div hu (by omega) (by omega), ?_⟩
  unfold bo b_law_small
  simp [val, e1, q1, q2, q3]
  rw [e2]
  simp
def SpDrawn2 (c : Nat → List Sl → R (D × Bool)) (j : Nat) : Prop := ∀ (x : Int) (n : Nat), n ≤ 100 → ∃ a, Z (n + 1) (6 * (n + 1)) a ∧ c j [.va (.int x), .va (.int (n : Nat))] = va (po a)
theorem drawn_2_ok {jm jt js : Nat} (hm : SpMix c jm) (ht : SpTrim c jt) (hs : SpSmall c js) (x : Int) (n : Nat) (hn : n ≤ 100) : ∃ a, Z (n + 1) (6 * (n + 1)) a ∧ bo G c T (b_law_drawn_2 jm jt js) [.va (.int x), .va (.int (n : Nat))] 2 = va (po a) := by
  have h' : ∀ k : Nat, ∃ q : Rat, k ≤ 1000 → Bd 5 q ∧ c js [.va (.int x), .va (.int (2 + (k : Int)))] = va (fr q) := fun k => by
    by_cases hk : k ≤ 1000
    · have p60 : (2 : Nat) ^ 60 = 1152921504606846976 := by decide
      obtain ⟨q, h1, h2⟩ := hs x (2 + (k : Int)) (by omega)
      exact ⟨q, fun _ => ⟨h1, h2⟩⟩
    · exact ⟨0, fun h => absurd h hk⟩
  obtain ⟨f, hf⟩ := Classical.axiomOfChoice h'
  have e1 := hm x 1 (by decide)
  obtain ⟨n1, n2⟩ := mixV_nn x 1
  generalize mixV x 1 = m at *
  obtain ⟨s, hs1, hs2⟩ : ∃ s : Nat, (m.fdiv 3).fmod ((n : Int) + 2) = (s : Int) ∧ s ≤ n + 1 := by
    rw [Int.fdiv_eq_ediv_of_nonneg _ (by decide), Int.fmod_eq_emod_of_nonneg _ (by omega)]
    have h1 := Int.emod_nonneg (m / 3) (show (n : Int) + 2 ≠ 0 by omega)
    have h2 := Int.emod_lt_of_pos (m / 3) (show 0 < (n : Int) + 2 by omega)
    exact ⟨((m / 3) % ((n : Int) + 2)).toNat, by omega, by omega⟩
  have hz : ¬ ((n : Int) + 2 = 0) := by omega
  have hr := rngR_nat s (by omega)
  refine ⟨ser ((List.range s).map f), ⟨?_, ?_⟩, ?_⟩
  · have := lt_ser ((List.range s).map f)
    rw [List.length_map, List.length_range] at this
    exact this.mono hs2
  · have := Hb.ser (b := 5) (p := (List.range s).map f) fun y hy => by
      obtain ⟨k, hk, rfl⟩ := List.mem_map.mp hy
      have := List.mem_range.mp hk
      exact (hf k (by omega)).1
    rw [List.length_map, List.length_range] at this
    exact this.mono (by omega)
  · unfold bo b_law_drawn_2
    simp [val, e1, hz, hs1]
    rw [cmp_of (xs := List.range s) (e := fun (k : Nat) => .int (k : Int)) (h := fun (k : Nat) => fr (f k)) ?_ (by rw [List.length_range]; unfold line; omega) ?_]
    · have e : (List.range s).map (fun (k : Nat) => fr (f k)) = ((List.range s).map f).map fr := by rw [List.map_map]; rfl
      rw [e]
      simp only [R.bind_ok]
      rw [ht.1, pol_trim]
      simp only [lf_ok, R.bind_ok, outF_rt]
    · simp [val]
      rw [hr]
    · intro k hk
      have hk := List.mem_range.mp hk
      have := (hf k (by omega)).2
      simp [val, wipe, this]
/-! ### the walk over the script -/
def SpCell (c : Nat → List Sl → R (D × Bool)) (j : Nat) : Prop := ∀ (ns : List Int) (k : Nat), ∃ x : Int, c j [.va (.list (ns.map .int)), .va (.int (k : Nat))] = va (.int x)
theorem cell_at_ok (ns : List Int) (k : Nat) : ∃ x : Int, bo G c T b_law_cell_at [.va (.list (ns.map .int)), .va (.int (k : Nat))] 0 = va (.int x) := by
  by_cases h : k < ns.length
  · refine ⟨ns[k], ?_⟩
    have e : atD (ns.map PyData.int) (k : Int) = v1 (.int ns[k]) := atD_nat (by simp [h])
    have h' : (k : Int) < (ns.length : Int) := by omega
    unfold bo b_law_cell_at
    simp [val, h, e]
  · refine ⟨0, ?_⟩
    unfold bo b_law_cell_at
    simp [val, h]
def SpHolds (c : Nat → List Sl → R (D × Bool)) (j : Nat) : Prop := ∀ x : Int, Mk x → c j [.va (.int x)] = va (.bool true)
theorem law_walk {jm jc jh : Nat} (hm : SpMix c jm) (hc : SpCell c jc) (hh : SpHolds c jh) (ns : List Int) (hl : ns.length ≤ 1000) : bo G c T (b_law_4 jm jc jh) [.va (.list (ns.map .int))] 2 = va (.bool true) := by
  have p60 : (2 : Nat) ^ 60 = 1152921504606846976 := by decide
  have em : max 1 (ns.length : Int) = ((max 1 ns.length : Nat) : Int) := by omega
  obtain ⟨N, hN⟩ : ∃ N, N = max 1 ns.length := ⟨_, rfl⟩
  rw [← hN] at em
  have hr := rngR_nat N (by omega)
  unfold bo b_law_4
  simp [val, es_for, em, hr]
  refine forR_then (P := fun r => outF (r.bind _) = _) (I := fun i en => ∃ x z2, en = [.va (.list (ns.map PyData.int)), .va (.int x), z2]) ?_ ⟨_, _, rfl⟩ ?_
  · rintro i en d hi ⟨x, z2, rfl⟩
    rw [List.getElem?_map] at hi
    cases hx : (List.range N)[i]? with
    | none => rw [hx] at hi; cases hi
    | some k =>
      rw [hx] at hi
      cases Option.some.inj hi
      have hil := (List.getElem?_eq_some_iff.mp hx).1
      rw [List.length_range] at hil
      have hki : k = i := by
        rw [List.getElem?_range hil] at hx
        exact (Option.some.inj hx).symm
      subst hki
      obtain ⟨y, hy⟩ := hc ns k
      have e1 := hm (x + y) ((k : Int) + 30) (by omega)
      have e2 := hh _ (mixV_nn (x + y) ((k : Int) + 30))
      generalize mixV (x + y) ((k : Int) + 30) = m at *
      have q1 : (k : Int).fmod 21 = (k : Int) % 21 := Int.fmod_eq_emod_of_nonneg _ (by decide)
      refine ⟨[.va (.list (ns.map PyData.int)), .va (.int m), .va (.int (k : Int))], .inl ?_, _, _, rfl⟩
      by_cases h21 : (k : Int) % 21 = 0
      · simp [val, hy, e1, e2, q1, h21]
      · simp [val, hy, e1, e2, q1, h21]
  · rintro en ⟨x, z2, rfl⟩
    simp
end
end AW

/-! AwK32: quotients put together; the law of gathered ones. -/
namespace AW
open PySem PySem.Spec PyProof.Rows
/-- a simple fraction: its part, times, top -/
structure Row where
  p : PS
  t : Nat
  o : PS
noncomputable def rd (r : Row) : D := .tuple [po r.p, .int (r.t : Nat), po r.o]
theorem Shp.rd (r : Row) : Shp 3 (rd r) := Shp.tup fun d hd => by
  rcases List.mem_cons.mp hd with rfl | hd
  · exact Shp.po _
  · rcases List.mem_cons.mp hd with rfl | hd
    · exact (Shp.int _).mono (by decide)
    · rcases List.mem_cons.mp hd with rfl | hd
      · exact Shp.po _
      · cases hd
/-- top and bottom put together so far -/
noncomputable def gst (s : PS × PS) (r : Row) : PS × PS := (s.1 * r.p ^ r.t + r.o * s.2, s.2 * r.p ^ r.t)
theorem gst_comm (s : PS × PS) (x y : Row) : gst (gst s x) y = gst (gst s y) x := by
  unfold gst
  refine Prod.ext ?_ ?_
  · show (s.1 * x.p ^ x.t + x.o * s.2) * y.p ^ y.t + y.o * (s.2 * x.p ^ x.t) = (s.1 * y.p ^ y.t + y.o * s.2) * x.p ^ x.t + x.o * (s.2 * y.p ^ y.t)
    generalize x.p ^ x.t = u
    generalize y.p ^ y.t = v
    grind
  · show s.2 * x.p ^ x.t * y.p ^ y.t = s.2 * y.p ^ y.t * x.p ^ x.t
    grind
theorem gst_foldl (s : PS × PS) (r : Row) : ∀ rs : List Row, rs.foldl gst (gst s r) = gst (rs.foldl gst s) r
  | [] => rfl
  | x :: rs => by
    show rs.foldl gst (gst (gst s r) x) = gst (rs.foldl gst (gst s x)) r
    rw [gst_comm, gst_foldl (gst s x) r rs]
theorem gst_rev (s : PS × PS) : ∀ rs : List Row, rs.reverse.foldl gst s = rs.foldl gst s
  | [] => rfl
  | x :: rs => by
    rw [List.reverse_cons, List.foldl_append, gst_rev s rs]
    show gst (rs.foldl gst s) x = rs.foldl gst (gst s x)
    rw [gst_foldl]
/-- a small row -/
def Rw (r : Row) : Prop := (∃ m, Mn r.p m ∧ m ≤ 2 ∧ Hb 6 r.p) ∧ 1 ≤ r.t ∧ r.t ≤ 2 ∧ Z 3 18 r.o
theorem Rw.pow {r : Row} (h : Rw r) : ∃ m, Mn (r.p ^ r.t) m ∧ m ≤ 4 ∧ Z 5 14 (r.p ^ r.t) := by
  obtain ⟨⟨m, h1, h2, h3⟩, h4, h5, _⟩ := h
  have z : Z 3 6 r.p := ⟨h1.1.mono (by omega), h3⟩
  have : r.t = 1 ∨ r.t = 2 := by omega
  rcases this with e | e
  · rw [e, show (r.p ^ 1 : PS) = r.p by grind]
    exact ⟨m, h1, by omega, z.mono (by decide) (by decide)⟩
  · rw [e, show (r.p ^ 2 : PS) = r.p * r.p by grind]
    exact ⟨m + m, h1.mul h1, by omega, (z.mul z (l := 2) (by decide)).mono (by decide) (by decide)⟩
/-- top and bottom of i small rows -/
theorem gst_z {w : PS} (zw : Z 4 24 w) : ∀ (i : Nat) {rs : List Row}, (∀ r ∈ rs, Rw r) → rs.length = i → i ≤ 5 → Z (4 * i + 1) (19 * i) (rs.foldl gst (w, 1)).2 ∧ Z (4 * i + 4) (24 + 120 * i) (rs.foldl gst (w, 1)).1 ∧ ∃ m, Mn (rs.foldl gst (w, 1)).2 m
  | 0, rs, _, hl, _ => by
    have : rs = [] := List.eq_nil_of_length_eq_zero hl
    subst this
    exact ⟨Z.one _ _ (by decide), zw, 0, Mn.one⟩
  | i + 1, rs, h, hl, hi => by
    rcases List.eq_nil_or_concat rs with rfl | ⟨rs', r, rfl⟩
    · simp at hl
    · rw [List.concat_eq_append] at *
      rw [List.length_append] at hl
      rw [List.length_cons, List.length_nil] at hl
      obtain ⟨z2, z1, m, hm⟩ := gst_z zw i (rs := rs') (fun x hx => h x (List.mem_append_left _ hx)) (by omega) (by omega)
      have hr := h r (List.mem_append_right _ List.mem_cons_self)
      obtain ⟨mp, hp, hp4, zp⟩ := hr.pow
      have zo := hr.2.2.2
      rw [List.foldl_append]
      generalize rs'.foldl gst (w, 1) = s at *
      have hi' : i = 0 ∨ i = 1 ∨ i = 2 ∨ i = 3 ∨ i = 4 := by omega
      refine ⟨?_, ?_, m + mp, hm.mul hp⟩
      · exact (z2.mul zp (l := 5) (by omega)).mono (by omega) (by omega)
      · have a1 := z1.mul zp (l := 5) (by omega)
        have a2 := zo.mul z2 (l := 2) (by decide)
        exact (a1.add a2).mono (by omega) (by omega)
section
variable {G : Nat → D} {c : Nat → List Sl → R (D × Bool)} {T : List Fn} {nm : Nm}
theorem of_poly_ok {kO : Nat} (hG : G kO = po 1) (a : PS) : bo G c T (b_of_poly kO) [.va (po a)] 0 = va (qd (a, 1)) := by
  have c2 : (2 : Nat) ≤ line := by unfold line; omega
  unfold bo b_of_poly
  simp [val, c2, hG]
  rfl
def SpOfPoly (c : Nat → List Sl → R (D × Bool)) (j : Nat) : Prop := ∀ a : PS, c j [.va (po a)] = va (qd (a, 1))
def SpPow (c : Nat → List Sl → R (D × Bool)) (j : Nat) : Prop := ∀ (a : PS) (n h t : Nat), Z (n + 1) h a → t ≤ 1000 ∧ n * t + 1 ≤ 2 ^ 12 ∧ t * (h + 12) ≤ 30000000 → c j [.va (po a), .va (.int (t : Nat))] = va (po (a ^ t))
theorem Z.pow {a : PS} {n h : Nat} (z : Z (n + 1) h a) : ∀ t, n * t + 1 ≤ 2 ^ 12 → Z (n * t + 1) (t * (h + 12)) (a ^ t)
  | 0, _ => by rw [show (a ^ 0 : PS) = 1 by grind]; exact Z.one _ _ (by omega)
  | t + 1, ht => by
    rw [Nat.mul_add] at ht
    have ih := Z.pow z t (by omega)
    rw [show (a ^ (t + 1) : PS) = a ^ t * a by grind]
    refine (ih.mul z (l := 12) (by omega)).mono ?_ ?_
    · rw [Nat.mul_add]; omega
    · rw [Nat.add_mul]; omega
theorem power_of_ok {kO jp : Nat} (hG : G kO = po 1) (hp : SpProdZ c jp) {a : PS} {n h t : Nat} (z : Z (n + 1) h a) (hz : t ≤ 1000 ∧ n * t + 1 ≤ 2 ^ 12 ∧ t * (h + 12) ≤ 30000000) : bo G c T (b_power_of kO jp) [.va (po a), .va (.int (t : Nat))] 2 = va (po (a ^ t)) := by
  obtain ⟨h1, h2, h3⟩ := hz
  have hr := rngR_nat t (by omega)
  unfold bo b_power_of
  simp [val, es_for, hG, hr]
  refine forR_then (P := fun r => outF (r.bind _) = _) (I := fun i en => ∃ z3, en = [.va (po a), .va (.int (t : Nat)), .va (po (a ^ i)), z3]) ?_ ⟨.un, by rw [show (a ^ 0 : PS) = 1 by grind]⟩ ?_
  · rintro i en d hi ⟨z3, rfl⟩
    rw [List.getElem?_map] at hi
    cases hx : (List.range t)[i]? with
    | none => rw [hx] at hi; cases hi
    | some k =>
      rw [hx] at hi
      cases Option.some.inj hi
      have hil := (List.getElem?_eq_some_iff.mp hx).1
      rw [List.length_range] at hil
      have m1 : n * i ≤ n * t := Nat.mul_le_mul_left _ (by omega)
      have m2 : (i + 1) * (h + 12) ≤ t * (h + 12) := Nat.mul_le_mul_right _ (by omega)
      rw [Nat.add_mul] at m2
      have zi := z.pow i (by omega)
      have e1 := hp (a ^ i) a (n * i + 1) (n + 1) (i * (h + 12)) h 12 zi z ⟨by omega, by omega, by omega, by
        rcases Nat.eq_zero_or_pos t with q | q
        · omega
        · have : n * 1 ≤ n * t := Nat.mul_le_mul_left _ q
          omega⟩
      rw [show a ^ i * a = a ^ (i + 1) by grind] at e1
      exact ⟨[.va (po a), .va (.int (t : Nat)), .va (po (a ^ (i + 1))), .va (.int (k : Int))], .inl (by simp [val, e1]), _, rfl⟩
  · rintro en ⟨z3, rfl⟩
    rw [List.length_map, List.length_range]
    simp [val]
/-- the sum of quotients that are told in lowest terms -/
def SpQSum (c : Nat → List Sl → R (D × Bool)) (j : Nat) : Prop := ∀ (p q : PS × PS) (m1 n1 h1 k1 m2 n2 h2 k2 l M N : Nat), Z m1 h1 p.1 → Z n1 k1 p.2 → Z m2 h2 q.1 → Z n2 k2 q.2 → p.2 ≠ 0 → q.2 ≠ 0 → m1 ≤ 2 ^ l ∧ n1 ≤ 2 ^ l ∧ m2 ≤ 2 ^ l ∧ n2 ≤ 2 ^ l ∧ m1 + n2 ≤ M + 1 ∧ m2 + n1 ≤ M + 1 ∧ n1 + n2 ≤ N + 1 ∧ m1 ≤ 10000 ∧ n1 ≤ 10000 ∧ m2 ≤ 10000 ∧ n2 ≤ 10000 ∧ QuotOk M N (h1 + h2 + k1 + k2 + 2 * l + 1) l → c j [.va (qd p), .va (qd q)] = va (qd (qc (p.1 * q.2 + q.1 * p.2) (p.2 * q.2)))
theorem q_sum_ok {jp jq js : Nat} (hp : SpProdZ c jp) (hq : SpQuot c jq) (hs : SpSum c js) {p q : PS × PS} {m1 n1 h1 k1 m2 n2 h2 k2 l M N : Nat} (a1 : Z m1 h1 p.1) (a2 : Z n1 k1 p.2) (b1 : Z m2 h2 q.1) (b2 : Z n2 k2 q.2) (p0 : p.2 ≠ 0) (q0 : q.2 ≠ 0)
    (ok : m1 ≤ 2 ^ l ∧ n1 ≤ 2 ^ l ∧ m2 ≤ 2 ^ l ∧ n2 ≤ 2 ^ l ∧ m1 + n2 ≤ M + 1 ∧ m2 + n1 ≤ M + 1 ∧ n1 + n2 ≤ N + 1 ∧ m1 ≤ 10000 ∧ n1 ≤ 10000 ∧ m2 ≤ 10000 ∧ n2 ≤ 10000 ∧ QuotOk M N (h1 + h2 + k1 + k2 + 2 * l + 1) l) : bo G c T (b_q_sum jp jq js) [.va (qd p), .va (qd q)] 2 = va (qd (qc (p.1 * q.2 + q.1 * p.2) (p.2 * q.2))) := by
  obtain ⟨l1, l2, l3, l4, w1, w2, w3, w4, w5, w6, w7, okq⟩ := ok
  have okq' := okq
  obtain ⟨oc, x1, x2, x3⟩ := okq'
  have e1 := hp p.1 q.2 _ _ _ _ l a1 b2 ⟨l1, by omega, by omega, by omega⟩
  have e2 := hp q.1 p.2 _ _ _ _ l b1 a2 ⟨l3, by omega, by omega, by omega⟩
  have e3 := hp p.2 q.2 _ _ _ _ l a2 b2 ⟨l2, by omega, by omega, by omega⟩
  have z1 := (a1.mul b2 l1).mono (n := M) (k := h1 + k2 + l) (by omega) (by omega)
  have z2 := (b1.mul a2 l3).mono (n := M) (k := h2 + k1 + l) (by omega) (by omega)
  have z3 := (a2.mul b2 l2).mono (n := N) (k := h1 + h2 + k1 + k2 + 2 * l + 1) (by omega) (by omega)
  have e4 := hs.z (z1.mono (k := h1 + h2 + k1 + k2 + 2 * l + 1) (Nat.le_refl _) (by omega)) (z2.mono (Nat.le_refl _) (by omega)) ⟨by omega, by omega⟩
  have z4 := (z1.add z2).mono (n := M) (k := h1 + h2 + k1 + k2 + 2 * l + 1) (by omega) (by omega)
  have e5 := hq _ _ _ _ _ l z4 z3 (Pl.mul_ne a2.pl b2.pl p0 q0) okq
  unfold bo b_q_sum
  simp [val, e1, e2, e3, e4, e5]
def SpGath (c : Nat → List Sl → R (D × Bool)) (j : Nat) : Prop := ∀ (w : PS) (rs : List Row) (d : D), Z 4 24 w → (∀ r ∈ rs, Rw r) → rs.length ≤ 5 → seqR d = .ok (rs.map rd) → c j [.va (po w), .va d] = va (qd (qc (rs.foldl gst (w, 1)).1 (rs.foldl gst (w, 1)).2))
theorem gathered_ok {jo js jq jp : Nat} (ho : SpOfPoly c jo) (hs : SpQSum c js) (hq : SpQuot c jq) (hp : SpPow c jp) {w : PS} {rs : List Row} {d : D} (zw : Z 4 24 w) (hr : ∀ r ∈ rs, Rw r) (hl : rs.length ≤ 5) (hd : seqR d = .ok (rs.map rd)) :
    bo G c T (b_gathered jo js jq jp) [.va (po w), .va d] 4 = va (qd (qc (rs.foldl gst (w, 1)).1 (rs.foldl gst (w, 1)).2)) := by
  have e0 := ho w
  unfold bo b_gathered
  simp [val, es_for, e0, hd]
  refine forR_then (P := fun r => outF (r.bind _) = _) (I := fun i en => ∃ z3 z4 z5, en = [.va (po w), .va d, .va (qd (qc ((rs.take i).foldl gst (w, 1)).1 ((rs.take i).foldl gst (w, 1)).2)), z3, z4, z5]) ?_ ⟨.un, .un, .un, by
    rw [List.take_zero]
    show _ = [_, _, Sl.va (qd (qc w 1)), _, _, _]
    rw [qc_one zw.pl]⟩ ?_
  · rintro i en dd hi ⟨z3, z4, z5, rfl⟩
    rw [List.getElem?_map] at hi
    cases hx : rs[i]? with
    | none => rw [hx] at hi; cases hi
    | some r =>
      rw [hx] at hi
      cases Option.some.inj hi
      have hil := (List.getElem?_eq_some_iff.mp hx).1
      have hrr := hr r (List.mem_of_getElem? hx)
      obtain ⟨mp, hmp, hp4, zp⟩ := hrr.pow
      obtain ⟨⟨m, g1, g2, g3⟩, g4, g5, zo⟩ := hrr
      obtain ⟨t2, t1, mt, hmt⟩ := gst_z zw i (rs := rs.take i) (fun x hx => hr x (List.mem_of_mem_take hx)) (by rw [List.length_take]; omega) (by omega)
      have t1' : Z 20 504 ((rs.take i).foldl gst (w, 1)).1 := t1.mono (by omega) (by omega)
      have t2' : Z 17 76 ((rs.take i).foldl gst (w, 1)).2 := t2.mono (by omega) (by omega)
      have estep : (rs.take (i + 1)).foldl gst (w, 1) = gst ((rs.take i).foldl gst (w, 1)) r := by
        rw [List.take_succ, hx]
        show ((rs.take i) ++ [r]).foldl gst (w, 1) = _
        rw [List.foldl_append]
        rfl
      rw [estep]
      generalize (rs.take i).foldl gst (w, 1) = s at *
      have e1 := hp r.p 2 6 r.t ⟨g1.1.mono (by omega), g3⟩ ⟨by omega, by
        have : (2 : Nat) ^ 12 = 4096 := by decide
        omega, by
        have : r.t * (6 + 12) ≤ 2 * (6 + 12) := Nat.mul_le_mul_right _ g5
        omega⟩
      have zp' : Z 5 18 (r.p ^ r.t) := zp.mono (by decide) (by decide)
      have e2 := hq r.o (r.p ^ r.t) 3 5 18 5 zo zp' hmp.dg.ne (by unfold QuotOk ComOk cb; decide)
      obtain ⟨u2, u1⟩ := qc_z (l := 4) zo zp hmp.dg.ne (by decide)
      obtain ⟨w2, w1⟩ := qc_z (l := 5) t1' t2' hmt.dg.ne (by decide)
      have hqs := qc_is t1'.pl t2'.pl hmt.dg.ne
      have hqr := qc_is zo.pl zp'.pl hmp.dg.ne
      obtain ⟨_, q1p, ⟨k1, hk1⟩, q1e⟩ := hqs
      obtain ⟨_, q2p, ⟨k2, hk2⟩, q2e⟩ := hqr
      -- the sum in lowest terms
      have fin : qc ((qc s.1 s.2).1 * (qc r.o (r.p ^ r.t)).2 + (qc r.o (r.p ^ r.t)).1 * (qc s.1 s.2).2) ((qc s.1 s.2).2 * (qc r.o (r.p ^ r.t)).2) = qc (gst s r).1 (gst s r).2 := by
        refine qc_eq ((q1p.mul hk2.dg.pl).add (q2p.mul hk1.dg.pl)) (hk1.dg.pl.mul hk2.dg.pl) ((t1'.pl.mul hmp.dg.pl).add (zo.pl.mul t2'.pl)) (t2'.pl.mul hmp.dg.pl) (hk1.mul hk2).dg.ne (hmt.mul hmp).dg.ne ?_
        show _ * (s.2 * r.p ^ r.t) = (s.1 * r.p ^ r.t + r.o * s.2) * _
        generalize qc s.1 s.2 = A at *
        generalize qc r.o (r.p ^ r.t) = B at *
        generalize r.p ^ r.t = U at *
        have x1 : A.1 * s.2 = s.1 * A.2 := q1e
        have x2 : B.1 * U = r.o * B.2 := q2e
        have y1 : (A.1 * B.2 + B.1 * A.2) * (s.2 * U) = A.1 * s.2 * (B.2 * U) + B.1 * U * (A.2 * s.2) := by grind
        rw [y1, x1, x2]
        grind
      have e3 := hs (qc s.1 s.2) (qc r.o (r.p ^ r.t)) 20 17 6300 3000 3 5 400 250 7 24 21 (w1.mono (by decide) (by unfold db; decide)) (w2.mono (by decide) (by unfold db; decide)) (u1.mono (by decide) (by unfold db; decide)) (u2.mono (by decide) (by unfold db; decide)) hk1.dg.ne hk2.dg.ne ⟨by decide, by decide, by decide, by decide, by decide, by decide, by decide, by decide, by decide, by decide, by decide, by unfold QuotOk ComOk cb; decide⟩
      rw [fin] at e3
      refine ⟨[.va (po w), .va d, .va (qd (qc (gst s r).1 (gst s r).2)), .va (po r.p), .va (.int (r.t : Nat)), .va (po r.o)], .inl ?_, _, _, _, rfl⟩
      unfold rd
      simp only [bindT_tpt, bindTs_cons, bindT_nm, bindTs_nil, R.bind_ok, List.set_cons_succ, List.set_cons_zero]
      simp [val, e1, e2, e3]
  · rintro en ⟨z3, z4, z5, rfl⟩
    rw [List.length_map, List.take_length]
    simp [val]
end
end AW

/-! AwTs: polynomials moved to a place; parting by x less a place. -/
namespace AW
open PySem PySem.Spec PyProof.Rows PS
/-- the values at a of a row's ends -/
def svs (a : Rat) : List Rat → List Rat
  | [] => []
  | c :: r => hv (c :: r) a :: svs a r
/-- the row put in at x + a -/
def tsl (a : Rat) : List Rat → PS
  | [] => 0
  | c :: r => tsl a r * (PS.X + PS.C a) + PS.C c
theorem svs_len (a : Rat) : ∀ p, (svs a p).length = p.length
  | [] => rfl
  | c :: r => by show (svs a r).length + 1 = r.length + 1; rw [svs_len a r]
theorem svs_get (a : Rat) : ∀ (p : List Rat) (j : Nat), (svs a p).getD j 0 = hv (p.drop j) a
  | [], j => by simp [svs]; rfl
  | c :: r, 0 => rfl
  | c :: r, j + 1 => by
    show (svs a r).getD j 0 = hv (r.drop j) a
    exact svs_get a r j
theorem svs_drop (a : Rat) : ∀ (p : List Rat) (j : Nat), (svs a p).drop j = svs a (p.drop j)
  | [], j => by simp [svs]
  | c :: r, 0 => rfl
  | c :: r, j + 1 => svs_drop a r j
theorem tsl_svs (a : Rat) : ∀ (c : Rat) (r : List Rat), tsl a (c :: r) = PS.X * tsl a (svs a r) + PS.C (hv (c :: r) a)
  | c, [] => by
    show (0 : PS) * (PS.X + PS.C a) + PS.C c = PS.X * 0 + PS.C (c + a * 0)
    rw [Rat.mul_zero, Rat.add_zero]
    grind
  | c, d :: r => by
    have ih := tsl_svs a d r
    show tsl a (d :: r) * (PS.X + PS.C a) + PS.C c = PS.X * (tsl a (svs a r) * (PS.X + PS.C a) + PS.C (hv (d :: r) a)) + PS.C (c + a * hv (d :: r) a)
    rw [ih, PS.C_add, PS.C_mulC]
    grind
theorem ser_svs (a : Rat) : ∀ (c : Rat) (r : List Rat), ser (c :: r) = ser (svs a r) * (PS.X - PS.C a) + PS.C (hv (c :: r) a)
  | c, [] => by
    show PS.C c + PS.X * 0 = (0 : PS) * (PS.X - PS.C a) + PS.C (c + a * 0)
    rw [Rat.mul_zero, Rat.add_zero]
    grind
  | c, d :: r => by
    have ih := ser_svs a d r
    show PS.C c + PS.X * ser (d :: r) = (PS.C (hv (d :: r) a) + PS.X * ser (svs a r)) * (PS.X - PS.C a) + PS.C (c + a * hv (d :: r) a)
    rw [ih, PS.C_add, PS.C_mulC]
    grind
theorem dg_less (a : Rat) : Dg (PS.X - PS.C a) 1 := ⟨fun k hk => by
    rw [PS.sub_f]
    show (if k = 1 then (1 : Rat) else 0) - (if k = 0 then a else 0) = 0
    rw [if_neg (by omega), if_neg (by omega)]
    decide +kernel, by
    rw [PS.sub_f]
    show (if 1 = 1 then (1 : Rat) else 0) - (if 1 = 0 then a else 0) ≠ 0
    rw [if_pos rfl, if_neg (by omega)]
    decide +kernel⟩
theorem dg_more (a : Rat) : Dg (PS.X + PS.C a) 1 := ⟨fun k hk => by
    rw [PS.add_f]
    show (if k = 1 then (1 : Rat) else 0) + (if k = 0 then a else 0) = 0
    rw [if_neg (by omega), if_neg (by omega)]
    decide +kernel, by
    rw [PS.add_f]
    show (if 1 = 1 then (1 : Rat) else 0) + (if 1 = 0 then a else 0) ≠ 0
    rw [if_pos rfl, if_neg (by omega)]
    decide +kernel⟩
theorem tsl_dg (a : Rat) {x : Rat} (hx : x ≠ 0) : ∀ q : List Rat, Dg (tsl a (q ++ [x])) q.length
  | [] => by
    show Dg ((0 : PS) * (PS.X + PS.C a) + PS.C x) 0
    rw [show (0 : PS) * (PS.X + PS.C a) + PS.C x = PS.C x by grind]
    exact Dg.C hx
  | c :: q => by
    have ih := (tsl_dg a hx q).mul (dg_more a)
    refine ⟨ih.1.add ((Lt.C c).mono (by omega)), ?_⟩
    show (tsl a (q ++ [x]) * (PS.X + PS.C a) + PS.C c).f (q.length + 1) ≠ 0
    rw [PS.add_f]
    show _ + (if q.length + 1 = 0 then c else 0) ≠ 0
    rw [if_neg (by omega), Rat.add_zero]
    exact ih.2
theorem tsl_ne {a : Rat} {s : PS} (p : Pl s) (h : s ≠ 0) : tsl a (toL s) ≠ 0 := by
  obtain ⟨n, hn⟩ := p.dg h
  rw [toL_last hn]
  exact (tsl_dg a hn.2 _).ne
theorem Z.less {a : Rat} {d : Nat} (h : Bd d a) : Z 2 (d + 1) (PS.X - PS.C a) :=
  ⟨(dg_less a).1, by
    have z := (Hb.X_mul (Hb.one 0)).sub (Hb.C h)
    rw [show (PS.X * 1 : PS) = PS.X by grind] at z
    exact z.mono (by omega)⟩
theorem Z.more {a : Rat} {d : Nat} (h : Bd d a) : Z 2 (d + 1) (PS.X + PS.C a) :=
  ⟨(dg_more a).1, by
    have z := (Hb.X_mul (Hb.one 0)).add (Hb.C h)
    rw [show (PS.X * 1 : PS) = PS.X by grind] at z
    exact z.mono (by omega)⟩
/-- the bits of a moved row -/
theorem tsl_z {a : Rat} {k b l : Nat} (ha : Z 2 k (PS.X + PS.C a)) : ∀ {p : List Rat}, BdL b p → p.length + 1 ≤ 2 ^ l → Z (p.length + 1) (p.length * (k + b + l + 1)) (tsl a p)
  | [], _, _ => Z.zero _ _
  | c :: r, h, hl => by
    rw [List.length_cons] at hl ⊢
    have ih := tsl_z (l := l) ha (p := r) (fun x hx => h x (List.mem_cons_of_mem _ hx)) (by omega)
    have m := (ih.mul ha (l := l) (by omega)).add (Z.C (h c List.mem_cons_self))
    refine m.mono (by omega) ?_
    rw [Nat.add_mul]
    omega
/-- the bits of a row's parting by x less a -/
theorem svs_z {a : Rat} {h d : Nat} (ha : Bd d a) {c : Rat} {r : List Rat} (z : Hb h (ser (c :: r))) : Z r.length (h + (r.length + 1) * (d + 1 + 1)) (ser (svs a r)) ∧ Bd (h + (r.length + 1) * (d + 1 + 1)) (hv (c :: r) a) := by
  have z' : Z (r.length + 1) h (ser (c :: r)) := ⟨lt_ser (c :: r), z⟩
  obtain ⟨e1, e2⟩ := quo_eq (dg_less a) (pl_ser (svs a r)) (Lt.C (hv (c :: r) a)) (ser_svs a c r)
  obtain ⟨d1, d2⟩ := Z.div z' (Z.less ha) (dg_less a)
  rw [e1] at d1
  rw [e2] at d2
  refine ⟨d1.mono (by omega) (by omega), ?_⟩
  have := d2.bd 0
  exact this.mono (by omega)
theorem svs_bd {a : Rat} {h d : Nat} (ha : Bd d a) {p : List Rat} (z : Hb h (ser p)) (j : Nat) : Bd (h + (p.length + 1) * (d + 1 + 1)) (hv (p.drop j) a) := by
  cases p with
  | nil => rw [List.drop_nil]; exact Bd.zero _
  | cons c r =>
    obtain ⟨z1, z2⟩ := svs_z ha z
    have hle : (r.length + 1) * (d + 1 + 1) ≤ ((c :: r).length + 1) * (d + 1 + 1) := Nat.mul_le_mul_right _ (by simp)
    cases j with
    | zero => exact z2.mono (by omega)
    | succ j =>
      have := z1.bd j
      rw [ser_f, svs_get] at this
      exact this.mono (by omega)
end AW

/-! AwK42: orders at a place. -/
namespace AW
open PySem PySem.Spec PyProof.Rows
section
variable {G : Nat → D} {c : Nat → List Sl → R (D × Bool)} {T : List Fn} {nm : Nm}
def SpAhead (c : Nat → List Sl → R (D × Bool)) (j : Nat) : Prop := ∀ (s t : PS) (k n : Nat), s = PS.X ^ k * t → t.f 0 ≠ 0 → Lt s n → n ≤ 10000 → c j [.va (po s)] = va (.int (k : Nat))
theorem ahead_ok {kN : Nat} (hG : G kN = fr 0) {s t : PS} {k n : Nat} (e : s = PS.X ^ k * t) (t0 : t.f 0 ≠ 0) (hl : Lt s n) (hn : n ≤ 10000) : bo G c T (b_noughts_ahead kN) [.va (po s)] 1 = va (.int (k : Nat)) := by
  have ps : Pl s := ⟨n, hl⟩
  have sf : ∀ i, s.f i = if k ≤ i then t.f (i - k) else 0 := fun i => by rw [e]; exact Xpow_mul k t i
  have hk : s.f k ≠ 0 := by rw [sf, if_pos (Nat.le_refl _), Nat.sub_self]; exact t0
  have hlen : k < (toL s).length := by
    by_cases h : k < (toL s).length
    · exact h
    · exfalso
      apply hk
      rw [← toL_getD ps]
      simp [List.getD, List.getElem?_eq_none (Nat.le_of_not_lt h)]
  unfold bo b_noughts_ahead
  simp [val, es_whl, hG]
  refine whileR_then (P := fun r => outF (r.bind _) = _) (I := fun en => ∃ i : Nat, i ≤ k ∧ en = [.va (po s), .va (.int (i : Nat))]) (m := fun en => match en with
    | [_, .va (.int i)] => k - i.toNat
    | _ => 0) ?_ ⟨0, Nat.zero_le _, rfl⟩
  rintro en ⟨i, hi, rfl⟩
  have e1 := idx_po ps (show i < (toL s).length by omega)
  by_cases h : i = k
  · subst h
    left
    refine ⟨by simp [val, hG, e1, hk], ?_⟩
    simp [val]
  · right
    have h0 : s.f i = 0 := by rw [sf, if_neg (by omega)]
    refine ⟨by simp [val, hG, e1, h0], [.va (po s), .va (.int ((i + 1 : Nat) : Int))], by simp [val], ⟨i + 1, by omega, rfl⟩, ?_⟩
    show k - ((i + 1 : Nat) : Int).toNat < k - ((i : Nat) : Int).toNat
    omega
def SpPutT (c : Nat → List Sl → R (D × Bool)) (j : Nat) : Prop := ∀ (s : PS) (a : Rat) (n h k : Nat), Z n h s → Z 2 k (PS.X + PS.C a) → n ≤ 60 ∧ h ≤ 300000 ∧ k ≤ 1000 → c j [.va (po s), .va (po (PS.X + PS.C a))] = va (po (tsl a (toL s)))
theorem put_t_ok {js jp jt : Nat} (hs : SpSum c js) (hp : SpProdZ c jp) (ht : SpTrim c jt) {s : PS} {a : Rat} {n h k : Nat} (z : Z n h s) (zq : Z 2 k (PS.X + PS.C a)) (hz : n ≤ 60 ∧ h ≤ 300000 ∧ k ≤ 1000) :
    bo G c T (b_poly_put_in js jp jt) [.va (po s), .va (po (PS.X + PS.C a))] 2 = va (po (tsl a (toL s))) := by
  obtain ⟨hn, hh, hk⟩ := hz
  have h0 : (0 : Nat) ≤ line := by unfold line; omega
  have hone : (1 : Nat) ≤ line := by unfold line; omega
  have bl := z.hb.bdL z.pl
  have ll := toL_le z.lt
  have es : po s = pol (toL s) := rfl
  rw [es]
  generalize hP : toL s = p at *
  generalize hQ : PS.X + PS.C a = q at *
  have hseq : seqR (pol p) = .ok (p.map fr) := rfl
  unfold bo b_poly_put_in
  simp [val, es_for, h0, ← po_zero, hseq]
  refine forR_then (P := fun r => outF (r.bind _) = _) (I := fun i en => ∃ z, en = [.va (pol p), .va (po q), .va (po (tsl a (p.reverse.take i).reverse)), z]) ?_ ⟨.un, rfl⟩ ?_
  · rintro i en dd hi ⟨z3, rfl⟩
    rw [← List.map_reverse, List.getElem?_map] at hi
    cases hx : p.reverse[i]? with
    | none => rw [hx] at hi; cases hi
    | some x =>
      rw [hx] at hi
      cases Option.some.inj hi
      have hm : x ∈ p := List.mem_reverse.mp (List.mem_of_getElem? hx)
      have hlt : i < p.length := by have := (List.getElem?_eq_some_iff.mp hx).1; simpa using this
      have hlen : (p.reverse.take i).reverse.length = i := by simp; omega
      have hR : BdL h (p.reverse.take i).reverse := fun y hy => bl y (List.mem_reverse.mp (List.mem_of_mem_take (List.mem_reverse.mp hy)))
      generalize hr : (p.reverse.take i).reverse = r at *
      have zt := tsl_z (l := 6) (by rw [hQ]; exact zq) hR (by omega)
      have hmul : r.length * (k + h + 6 + 1) ≤ 60 * (k + h + 6 + 1) := Nat.mul_le_mul_right _ (by omega)
      have zt' : Z 64 (60 * (k + h + 6 + 1)) (tsl a r) := zt.mono (by omega) hmul
      have e1 := hp _ _ _ _ _ _ 6 zt' zq (by omega)
      have zm := zt'.mul zq (l := 6) (by omega)
      have e2 : c jt [.va (.list [fr x])] = va (po (PS.C x)) := by
        have := ht.1 [x]
        rw [pol_trim] at this
        rw [show (PS.C x : PS) = ser [x] by show _ = PS.C x + PS.X * 0; grind]
        exact this
      have zx : Z 1 h (PS.C x) := ⟨Lt.C x, Hb.C (bl x hm)⟩
      have e3 := hs.z (zm.mono (n := 65) (k := 60 * (k + h + 6 + 1) + k + 6) (by omega) (by omega)) (zx.mono (n := 65) (k := 60 * (k + h + 6 + 1) + k + 6) (by omega) (by omega)) (by omega)
      refine ⟨[.va (pol p), .va (po q), .va (po (tsl a r * q + PS.C x)), .va (fr x)], .inl ?_, .va (fr x), ?_⟩
      · simp [val, e1, e2, e3, hone]
      · rw [take_snoc hx, List.reverse_append, hr, ← hQ]
        rfl
  · rintro en ⟨z3, rfl⟩
    have e : (p.reverse.take (p.map fr).reverse.length).reverse = p := by
      rw [List.length_reverse, List.length_map, List.take_of_length_le (by simp), List.reverse_reverse]
    rw [e]
    simp [val]
def SpPoly (c : Nat → List Sl → R (D × Bool)) (j : Nat) : Prop := ∀ a : Rat, c j [.va (.list [fr a, fr 1])] = va (po (PS.X + PS.C a))
theorem poly_ok {jf e jt : Nat} (hf : SpIsFr c jf) (ht : SpTrim c jt) (a : Rat) : bo G c T (b_poly jf e jt) [.va (.list [fr a, fr 1])] 1 = va (po (PS.X + PS.C a)) := by
  have c2 : (2 : Nat) ≤ line := by unfold line; omega
  have e1 : c jt [.va (.list [fr a, fr 1])] = va (po (PS.X + PS.C a)) := by
    have := ht.1 [a, 1]
    rw [pol_trim] at this
    rw [show (PS.X + PS.C a : PS) = ser [a, 1] by show _ = PS.C a + PS.X * (PS.C 1 + PS.X * 0); rw [PS.C_one]; grind]
    exact this
  have e2 := cmp_of (G := G) (c := c) (dfl := dflT T) (elt := (.call jf (.cons (.var 1) .nil) 0)) (tg := .nm 1) (it := .seq (.var 0)) (ifs := .none) (own := [(Nm.n 1, 1)]) (en := [.va (.list [fr a, fr 1])] ++ List.replicate 1 .un) (xs := [a, 1]) (e := fr) (h := fun _ => .bool true) (by simp [val]) (by simpa using c2) (fun x _ => by simp [val, wipe, hf x])
  have e2' : evF G c (dflT T) (.cmp (.call jf (.cons (.var 1) .nil) 0) (.nm 1) (.seq (.var 0)) .none [(Nm.n 1, 1)]) [.va (.list [fr a, fr 1]), .un] = .ok (.list [.bool true, .bool true], true) := e2
  have e3 : allB [PyData.bool true, PyData.bool true] = .ok true := rfl
  have e4 : isTy (.list [fr a, fr 1]) (.bi "list") = true := rfl
  unfold bo b_poly
  simp [val, e2', e3, e4, e1]
end
end AW

/-! AwK42b: about a place, the order; the law's count of a root. -/
namespace AW
open PySem PySem.Spec PyProof.Rows
section
variable {G : Nat → D} {c : Nat → List Sl → R (D × Bool)} {T : List Fn} {nm : Nm}
structure SpAbout (c : Nat → List Sl → R (D × Bool)) (j : Nat) : Prop where
  at_ : ∀ (q : PS × PS) (a : Rat) (n h k k1 k2 : Nat) (t1 t2 : PS), Z n h q.1 → Z n h q.2 → Z 2 k (PS.X + PS.C a) → n ≤ 60 ∧ h ≤ 300000 ∧ k ≤ 1000 → tsl a (toL q.1) = PS.X ^ k1 * t1 → t1.f 0 ≠ 0 → tsl a (toL q.2) = PS.X ^ k2 * t2 → t2.f 0 ≠ 0 →
    ∃ d0 d1, c j [.va (qd q), .va (fr a)] = va (.tuple [d0, d1, .int ((k1 : Int) - (k2 : Int))])
  far : ∀ q : PS × PS, ∃ d0 d1, c j [.va (qd q), .va .none] = va (.tuple [d0, d1, .int (((toL q.2).length : Int) - ((toL q.1).length : Int))])
theorem len_po' (s : PS) : sem1 .len (po s) = v1 (.int ((toL s).length : Int)) := by simp [po, pol]
theorem tsl_lt {a : Rat} {s : PS} {n h k : Nat} (z : Z n h s) (zq : Z 2 k (PS.X + PS.C a)) : Lt (tsl a (toL s)) (n + 1) := by
  have h1 := toL_le z.lt
  exact (tsl_z (l := (toL s).length + 1) zq (z.hb.bdL z.pl) (Nat.le_of_lt Nat.lt_two_pow_self)).lt.mono (by omega)
theorem about_at {jo kU ji jn : Nat} (hU : G kU = fr 1) (ho : SpPoly c jo) (hi : SpPutT c ji) (hn : SpAhead c jn) {q : PS × PS} {a : Rat} {n h k k1 k2 : Nat} {t1 t2 : PS} (z1 : Z n h q.1) (z2 : Z n h q.2) (zq : Z 2 k (PS.X + PS.C a)) (hz : n ≤ 60 ∧ h ≤ 300000 ∧ k ≤ 1000)
    (e1 : tsl a (toL q.1) = PS.X ^ k1 * t1) (h1 : t1.f 0 ≠ 0) (e2 : tsl a (toL q.2) = PS.X ^ k2 * t2) (h2 : t2.f 0 ≠ 0) :
    ∃ d0 d1, bo G c T (b_about jo kU ji jn) [.va (qd q), .va (fr a)] 5 = va (.tuple [d0, d1, .int ((k1 : Int) - (k2 : Int))]) := by
  have c2 : (2 : Nat) ≤ line := by unfold line; omega
  have c3 : (3 : Nat) ≤ line := by unfold line; omega
  have a1 := ho a
  have a2 := hi _ a _ _ _ z1 zq hz
  have a3 := hi _ a _ _ _ z2 zq hz
  have a4 := hn _ _ _ _ e1 h1 (tsl_lt z1 zq) (by omega)
  have a5 := hn _ _ _ _ e2 h2 (tsl_lt z2 zq) (by omega)
  have i0 : sem2 .idx (qd q) (.int 0) = v1 (po q.1) := idx_qd0 q
  have i1 : sem2 .idx (qd q) (.int 1) = v1 (po q.2) := idx_qd1 q
  obtain ⟨xs, hxs⟩ : ∃ xs, fr a = .tuple xs := ⟨_, rfl⟩
  rw [hxs] at a1 ⊢
  generalize tsl a (toL q.1) = u1 at *
  generalize tsl a (toL q.2) = u2 at *
  have s1 : ∀ (u : PS) (i : Nat), semSl (po u) (some (i : Int)) none = v1 (.tuple (cutL ((toL u).map fr) (some (i : Int)) none)) := fun u i => rfl
  refine ⟨.tuple (cutL ((toL u1).map fr) (some (k1 : Int)) none), .tuple (cutL ((toL u2).map fr) (some (k2 : Int)) none), ?_⟩
  generalize qd q = Q at *
  unfold bo b_about
  simp [val, hU, a1, a2, a3, a4, a5, i0, i1, c2, c3, s1]
theorem about_far {jo kU ji jn : Nat} (hU : G kU = fr 1) (ho : SpPoly c jo) (hi : SpPutT c ji) (hn : SpAhead c jn) (q : PS × PS) :
    ∃ d0 d1, bo G c T (b_about jo kU ji jn) [.va (qd q), .va .none] 5 = va (.tuple [d0, d1, .int (((toL q.2).length : Int) - ((toL q.1).length : Int))]) := by
  have c3 : (3 : Nat) ≤ line := by unfold line; omega
  have i0 : sem2 .idx (qd q) (.int 0) = v1 (po q.1) := idx_qd0 q
  have i1 : sem2 .idx (qd q) (.int 1) = v1 (po q.2) := idx_qd1 q
  have r1 : ∀ u : PS, semRev (po u) = v1 (.tuple ((toL u).map fr).reverse) := fun u => rfl
  refine ⟨.tuple ((toL q.1).map fr).reverse, .tuple ((toL q.2).map fr).reverse, ?_⟩
  have l1 := len_po' q.1
  have l2 := len_po' q.2
  generalize qd q = Q at *
  unfold bo b_about
  simp [val, i0, i1, c3, r1, l1, l2]
structure SpOrder (c : Nat → List Sl → R (D × Bool)) (j : Nat) : Prop where
  at_ : ∀ (q : PS × PS) (a : Rat) (n h k k1 k2 : Nat) (t1 t2 : PS), Z n h q.1 → Z n h q.2 → Z 2 k (PS.X + PS.C a) → n ≤ 60 ∧ h ≤ 300000 ∧ k ≤ 1000 → q.1 ≠ 0 → tsl a (toL q.1) = PS.X ^ k1 * t1 → t1.f 0 ≠ 0 → tsl a (toL q.2) = PS.X ^ k2 * t2 → t2.f 0 ≠ 0 →
    c j [.va (qd q), .va (fr a)] = va (.int ((k1 : Int) - (k2 : Int)))
  far : ∀ q : PS × PS, Pl q.1 → q.1 ≠ 0 → c j [.va (qd q), .va .none] = va (.int (((toL q.2).length : Int) - ((toL q.1).length : Int)))
  nought : ∀ (q : PS × PS) (d : D), q.1 = 0 → c j [.va (qd q), .va d] = va .none
theorem order_go {jb : Nat} {q : PS × PS} {d d0 d1 : D} {i : Int} (p : Pl q.1) (h : q.1 ≠ 0) (e : c jb [.va (qd q), .va d] = va (.tuple [d0, d1, .int i])) : bo G c T (b_order jb) [.va (qd q), .va d] 0 = va (.int i) := by
  have c0 : (0 : Nat) ≤ line := Nat.zero_le _
  have i0 : sem2 .idx (qd q) (.int 0) = v1 (po q.1) := idx_qd0 q
  have e0 := eq_po0 p
  have e2 : sem2 .idx (.tuple [d0, d1, .int i]) (.int 2) = v1 (.int i) := by rw [s2_idxt]; exact atD_nat (n := 2) rfl
  generalize qd q = Q at *
  unfold bo b_order
  simp [val, i0, e0, h, e, e2, c0]
theorem order_nought {jb : Nat} (hb : SpAbout c jb) {q : PS × PS} {d : D} (h : q.1 = 0) : bo G c T (b_order jb) [.va (qd q), .va d] 0 = va .none := by
  have c0 : (0 : Nat) ≤ line := Nat.zero_le _
  have i0 : sem2 .idx (qd q) (.int 0) = v1 (po q.1) := idx_qd0 q
  have e0 := eq_po0 Pl.zero
  generalize qd q = Q at *
  unfold bo b_order
  simp [val, i0, e0, h, c0]
theorem order_at {jb : Nat} (hb : SpAbout c jb) {q : PS × PS} {a : Rat} {n h k k1 k2 : Nat} {t1 t2 : PS} (z1 : Z n h q.1) (z2 : Z n h q.2) (zq : Z 2 k (PS.X + PS.C a)) (hz : n ≤ 60 ∧ h ≤ 300000 ∧ k ≤ 1000) (q0 : q.1 ≠ 0)
    (e1 : tsl a (toL q.1) = PS.X ^ k1 * t1) (h1 : t1.f 0 ≠ 0) (e2 : tsl a (toL q.2) = PS.X ^ k2 * t2) (h2 : t2.f 0 ≠ 0) : bo G c T (b_order jb) [.va (qd q), .va (fr a)] 0 = va (.int ((k1 : Int) - (k2 : Int))) := by
  obtain ⟨d0, d1, e⟩ := hb.at_ q a n h k k1 k2 t1 t2 z1 z2 zq hz e1 h1 e2 h2
  exact order_go z1.pl q0 e
theorem order_far {jb : Nat} (hb : SpAbout c jb) {q : PS × PS} (p : Pl q.1) (q0 : q.1 ≠ 0) : bo G c T (b_order jb) [.va (qd q), .va .none] 0 = va (.int (((toL q.2).length : Int) - ((toL q.1).length : Int))) := by
  obtain ⟨d0, d1, e⟩ := hb.far q
  exact order_go p q0 e
/-! ### the law's count -/
theorem whileR_thn {t : En → R Bool} {b : En → R Fl} {P : R Fl → Prop} {en : En} (I : En → Prop) (m : En → Nat) (step : ∀ en, I en → t en = .ok true ∧ ((∃ en', b en = .ok (.nx en') ∧ I en' ∧ m en' < m en) ∨ ∃ d f, b en = .ok (.rt d f) ∧ P (.ok (.rt d f)))) (init : I en) : P (whileR t b en) := by
  generalize hk : m en = k
  induction k using Nat.strongRecOn generalizing en with
  | _ k ih =>
    subst hk
    obtain ⟨h1, ⟨en', h2, h3, h4⟩ | ⟨d, f, h2, h3⟩⟩ := step en init
    · rw [whileR_step h1, h2]
      exact ih _ h4 h3 rfl
    · rw [whileR_step h1, h2]
      exact h3
theorem drop_rev_get (L : List Rat) {i : Nat} {x : Rat} (h : L.reverse[i]? = some x) : i < L.length ∧ L.drop (L.length - (i + 1)) = x :: L.drop (L.length - i) := by
  have hl : i < L.length := by have := (List.getElem?_eq_some_iff.mp h).1; simpa using this
  refine ⟨hl, ?_⟩
  have hx : L[L.length - (i + 1)]? = some x := by
    rw [List.getElem?_reverse hl] at h
    rw [show L.length - (i + 1) = L.length - 1 - i by omega]
    exact h
  obtain ⟨hlt, e⟩ := List.getElem?_eq_some_iff.mp hx
  rw [List.drop_eq_getElem_cons hlt, e, show L.length - (i + 1) + 1 = L.length - i by omega]
def SpRoot (c : Nat → List Sl → R (D × Bool)) (j : Nat) : Prop := ∀ (s : PS) (a : Rat) (n h d : Nat), Z n h s → s ≠ 0 → Bd d a → n ≤ 60 ∧ h ≤ 300000 ∧ d ≤ 100 → ∃ (k : Nat) (t : PS), tsl a (toL s) = PS.X ^ k * t ∧ t.f 0 ≠ 0 ∧ c j [.va (po s), .va (fr a)] = va (.int (k : Nat))
theorem times_root_ok {jp jb : Nat} (hp : SpPlus c jp) (hb : SpBy c jb) {s : PS} {a : Rat} {n h d : Nat} (z : Z n h s) (s0 : s ≠ 0) (ha : Bd d a) (hz : n ≤ 60 ∧ h ≤ 300000 ∧ d ≤ 100) :
    ∃ (k : Nat) (t : PS), tsl a (toL s) = PS.X ^ k * t ∧ t.f 0 ≠ 0 ∧ bo G c T (b_law_times_root jp jb) [.va (po s), .va (fr a)] 5 = va (.int (k : Nat)) := by
  obtain ⟨hn, hh, hd⟩ := hz
  have tne := tsl_ne (a := a) z.pl s0
  have ll := toL_le z.lt
  have zs : Hb h (ser (toL s)) := by rw [ser_toL z.pl]; exact z.hb
  have es : po s = pol (toL s) := rfl
  rw [es]
  generalize toL s = p at *
  have z01' : PyData.tuple [.int 0, .int 1] = fr 0 := rfl
  have oa : Ok a := Ok.of ha (by omega)
  have c0 : (0 : Nat) ≤ line := Nat.zero_le _
  have c2 : (2 : Nat) ≤ line := by unfold line; omega
  have lst : sem1 .list (pol p) = .ok (.list (p.map fr), true) := rfl
  obtain ⟨P, hP⟩ : ∃ P : R (D × Bool) → Prop, P = (fun r => ∃ (k : Nat) (t : PS), tsl a p = PS.X ^ k * t ∧ t.f 0 ≠ 0 ∧ r = va (.int (k : Nat))) := ⟨_, rfl⟩
  have key : P (bo G c T (b_law_times_root jp jb) [.va (pol p), .va (fr a)] 5) := by
    unfold bo b_law_times_root
    simp [val, es_whl, lst]
    refine whileR_thn (P := fun r => P (outF (r.bind _))) (I := fun en => ∃ (k : Nat) (L : List Rat) (z4 z5 z6 : Sl), en = [.va (pol p), .va (fr a), .va (.int (k : Nat)), .va (.list (L.map fr)), z4, z5, z6] ∧ tsl a p = PS.X ^ k * tsl a L ∧ Hb (h + k * 6222) (ser L) ∧ k + L.length ≤ 60) (m := fun en => match en with
      | [_, _, _, .va (.list L), _, _, _] => L.length
      | _ => 0) ?_ ⟨0, p, _, _, _, rfl, by rw [show (PS.X ^ 0 : PS) = 1 by grind]; grind, by simpa using zs, by omega⟩
    rintro en ⟨k, L, z4, z5, z6, rfl, i1, i3, i4⟩
    refine ⟨by simp [val], ?_⟩
    -- one parting
    have hle : (L.length + 1) * (d + 1 + 1) ≤ 61 * 102 := Nat.mul_le_mul (by omega) (by omega)
    have hk6 : k * 6222 ≤ 60 * 6222 := Nat.mul_le_mul_right _ (by omega)
    have bds := fun j => (svs_bd ha i3 j).mono (show h + k * 6222 + (L.length + 1) * (d + 1 + 1) ≤ 700000 by omega)
    cases L with
    | nil =>
      exfalso
      apply tne
      rw [i1]
      show PS.X ^ k * (0 : PS) = 0
      grind
    | cons c1 r1 =>
    generalize hLL : c1 :: r1 = L at *
    have key : ∃ y6, forR (fun d e => bindT (.nm 6) d e) (evSs G c (dflT T) (.cons (.asg (.nm 4) (.call jp (.cons (.call jb (.cons (.var 4) (.cons (.var 1) .nil)) 0) (.cons (.var 6) .nil)) 0)) (.cons (.app 5 (.var 4)) .nil))) (L.map fr).reverse [.va (pol p), .va (fr a), .va (.int (k : Nat)), .va (.list (L.map fr)), .va (fr 0), .ow [], z6]
        = .ok (.nx [.va (pol p), .va (fr a), .va (.int (k : Nat)), .va (.list (L.map fr)), .va (fr (hv L a)), .ow (((svs a L).reverse).map fr), y6]) := by
      refine forR_then (P := fun r => ∃ y6, r = .ok (.nx [_, _, _, _, _, _, y6])) (I := fun i en => ∃ z6, en = [.va (pol p), .va (fr a), .va (.int (k : Nat)), .va (.list (L.map fr)), .va (fr (hv (L.drop (L.length - i)) a)), .ow (((svs a (L.drop (L.length - i))).reverse).map fr), z6]) ?_ ⟨z6, ?_⟩ ?_
      · rintro i en dd hi ⟨y6, rfl⟩
        rw [← List.map_reverse, List.getElem?_map] at hi
        cases hx : L.reverse[i]? with
        | none => rw [hx] at hi; cases hi
        | some x =>
          rw [hx] at hi
          cases Option.some.inj hi
          obtain ⟨hil, ed⟩ := drop_rev_get L hx
          have b1 := bds (L.length - i)
          have b2 := bds (L.length - (i + 1))
          have bx : Bd (h + k * 6222) x := by
            obtain ⟨j, hj⟩ := List.getElem?_of_mem (List.mem_reverse.mp (List.mem_of_getElem? hx))
            have := i3.bd j
            rw [ser_f] at this
            simp only [List.getD, hj, Option.getD_some] at this
            exact this
          have hl : ((svs a (L.drop (L.length - i))).reverse.map fr).length < line := by
            rw [List.length_map, List.length_reverse, svs_len, List.length_drop]
            unfold line; omega
          rw [ed]
          generalize L.drop (L.length - i) = r at *
          have e1 := hb (hv r a) a (Ok.of b1 (by omega)) oa
          have e2 := hp (hv r a * a) x (Ok.of (b1.mul ha) (by omega)) (Ok.of bx (by omega))
          refine ⟨[.va (pol p), .va (fr a), .va (.int (k : Nat)), .va (.list (L.map fr)), .va (fr (hv r a * a + x)), .ow ((svs a r).reverse.map fr ++ [fr (hv r a * a + x)]), .va (fr x)], .inl ?_, .va (fr x), ?_⟩
          · generalize (svs a r).reverse.map fr = F at *
            simp [val, e1, e2, hl]
          · have eh : hv r a * a + x = hv (x :: r) a := by show _ = x + a * hv r a; grind
            rw [eh]
            show _ = [_, _, _, _, _, Sl.ow (((hv (x :: r) a :: svs a r).reverse).map fr), _]
            rw [List.reverse_cons, List.map_append]
            rfl
      · rw [Nat.sub_zero, List.drop_length]; rfl
      · rintro en' ⟨y6, rfl⟩
        rw [List.length_reverse, List.length_map, Nat.sub_self, List.drop_zero]
        exact ⟨y6, rfl⟩
    obtain ⟨y6, key⟩ := key
    by_cases h0 : hv L a = 0
    · left
      have er : (svs a L).reverse.dropLast.reverse = svs a r1 := by
        rw [← hLL]
        show ((hv (c1 :: r1) a :: svs a r1).reverse).dropLast.reverse = _
        rw [List.reverse_cons, List.dropLast_concat, List.reverse_reverse]
      refine ⟨[.va (pol p), .va (fr a), .va (.int ((k + 1 : Nat) : Int)), .va (.list ((svs a r1).map fr)), .va (fr (hv L a)), .ow (((svs a L).reverse).map fr), y6], ?_, ⟨k + 1, svs a r1, _, _, _, rfl, ?_, ?_, ?_⟩, ?_⟩
      · have ec : cutL ((svs a L).reverse.map fr) none (some (-1)) = ((svs a L).reverse.dropLast).map fr := by rw [cutL_init, List.map_dropLast]
        have s1 : semSl (.list ((svs a L).reverse.map fr)) none (some (-1)) = .ok (.list (((svs a L).reverse.dropLast).map fr), true) := by show R.ok (PyData.list (cutL _ _ _), true) = _; rw [ec]
        have s2 : semRev (.list (((svs a L).reverse.dropLast).map fr)) = .ok (.list ((svs a r1).map fr), true) := by rw [semRev_l, ← List.map_reverse, er]
        rw [semRev_l] at s2
        generalize (svs a L).reverse.map fr = F at *
        generalize ((svs a L).reverse.dropLast).map fr = F2 at *
        generalize (svs a r1).map fr = F3 at *
        generalize L.map fr = F4 at *
        simp [val, es_for, z01', c0, c2, key, h0, s1, s2]
      · rw [i1, ← hLL, tsl_svs, hLL, h0, PS.C_zero, show (PS.X ^ (k + 1) : PS) = PS.X ^ k * PS.X by grind]
        grind
      · have i3' := i3
        rw [← hLL] at i3'
        have := (svs_z ha i3').1.hb
        have hle2 : (r1.length + 1) * (d + 1 + 1) ≤ 61 * 102 := Nat.mul_le_mul (by rw [← hLL, List.length_cons] at i4; omega) (by omega)
        exact this.mono (by omega)
      · rw [svs_len]
        rw [← hLL, List.length_cons] at i4
        omega
      · show ((svs a r1).map fr).length < (L.map fr).length
        rw [List.length_map, List.length_map, svs_len, ← hLL, List.length_cons]
        omega
    · right
      refine ⟨.int (k : Nat), false, ?_, ?_⟩
      · generalize (svs a L).reverse.map fr = F at *
        generalize L.map fr = F4 at *
        simp [val, es_for, z01', c0, c2, key, h0]
      · rw [hP]
        refine ⟨k, tsl a L, i1, ?_, by simp [val]⟩
        rw [← hLL, tsl_svs, hLL, PS.add_f, PS.X_mul]
        show 0 + (if 0 = 0 then hv L a else 0) ≠ 0
        rw [if_pos rfl, Rat.zero_add]
        exact h0
  rw [hP] at key
  exact key
end
end AW

/-! AwK42c: the law's own helpers of the rows' laws. -/
namespace AW
open PySem PySem.Spec PyProof.Rows
section
variable {G : Nat → D} {c : Nat → List Sl → R (D × Bool)} {T : List Fn} {nm : Nm}
theorem lowest_ok {a b : Int} (hb : b ≠ 0) : bo G c T b_law_lowest [.va (.int a), .va (.int b)] 2 = va (fr (Rat.divInt a b)) := by
  have h0 : Nat.gcd a.natAbs b.natAbs ≠ 0 := by
    have := Nat.gcd_pos_of_pos_right a.natAbs (show 0 < b.natAbs by omega)
    omega
  rw [fr_made hb]
  unfold bo b_law_lowest
  simp [val, es_whl]
  refine whileR_then (P := fun r => outF (r.bind _) = _) (I := fun en => ∃ m n : Nat, en = [.va (.int a), .va (.int b), .va (.int m), .va (.int n)] ∧ Nat.gcd m n = Nat.gcd a.natAbs b.natAbs) (m := fun en => match en with
    | [_, _, _, .va (.int n)] => n.toNat
    | _ => 0) ?_ ⟨_, _, rfl, rfl⟩
  rintro en ⟨m, n, rfl, hg⟩
  by_cases hn : n = 0
  · subst hn
    left
    rw [Nat.gcd_zero_right] at hg
    subst hg
    refine ⟨by simp [val], ?_⟩
    by_cases h : b < 0
    · simp [val, h, hb, h0, line]
    · simp [val, h, hb, h0, line]
  · right
    have hm : (m : Int).fmod (n : Int) = ((m % n : Nat) : Int) := by rw [Int.fmod_eq_emod_of_nonneg _ (by omega)]; rfl
    refine ⟨by simp [val]; omega, [.va (.int a), .va (.int b), .va (.int n), .va (.int (m % n : Nat))], by simp [val, hn, hm], ⟨n, m % n, rfl, ?_⟩, ?_⟩
    · rw [← hg, Nat.gcd_comm n, Nat.gcd_comm m n]
      exact (Nat.gcd_rec n m).symm
    · simp
      have := Nat.mod_lt m (show 0 < n by omega)
      omega
theorem plain_ok (p : List Rat) : bo G c T b_law_plain [.va (.list (p.map fr))] 1 = va (pol (trim p)) := by
  have c0 : (0 : Nat) ≤ line := Nat.zero_le _
  have c2 : (2 : Nat) ≤ line := by unfold line; omega
  unfold bo b_law_plain
  simp [val, es_whl]
  refine whileR_then (P := fun r => outF (r.bind _) = _) (I := fun en => ∃ p' : List Rat, en = [.va (.list (p.map fr)), .ow (p'.map fr)] ∧ trim p' = trim p) (m := fun en => match en with
    | [_, .ow ds] => ds.length
    | _ => 0) ?_ ⟨p, rfl, rfl⟩
  rintro en ⟨p', rfl, hp⟩
  rcases List.eq_nil_or_concat p' with rfl | ⟨r, a, rfl⟩
  · left
    have e := ne_row []
    refine ⟨by simp [c0] at e ⊢; rw [e]; simp, ?_⟩
    simp [val]
    rw [← hp]
    rfl
  · have hne : (r ++ [a]).isEmpty = false := by cases r <;> rfl
    have e := ne_row (r ++ [a])
    rw [hne, List.map_append] at e
    have e' : sem2 .ne (.list (r.map fr ++ [fr a])) (.list []) = v1 (.bool true) := e
    have e2 : atD (r.map fr ++ [fr a]) (-1) = v1 (fr a) := atD_last
    rw [List.concat_eq_append] at hp
    rw [trim_snoc] at hp
    by_cases h0 : a = 0
    · right
      rw [if_pos h0] at hp
      subst h0
      refine ⟨by simp [val, c0, c2, e', e2, z01], [.va (.list (p.map fr)), .ow (r.map fr)], by simp, ⟨r, rfl, hp⟩, by simp⟩
    · left
      rw [if_neg h0] at hp
      refine ⟨by simp [val, c0, c2, e', e2, z01, h0], ?_⟩
      simp [val]
      rw [← hp]
      simp [pol]
theorem lprod_ok {jp jb : Nat} (hp : SpPlus c jp) (hb : SpBy c jb) {p q : List Rat} {h0 k0 l0 : Nat} (za : Hb h0 (ser p)) (zb : Hb k0 (ser q)) (hz : p.length ≤ 2 ^ l0 ∧ h0 + k0 + l0 ≤ 40000000 ∧ p.length ≤ 40000 ∧ q.length ≤ 40000) :
    ∃ F : List Rat, F.length = p.length + q.length - 1 ∧ ser F = ser p * ser q ∧ bo G c T (b_law_product jp jb) [.va (.list (p.map fr)), .va (.list (q.map fr))] 5 = .ok (.list (F.map fr), true) := by
  obtain ⟨hl, hs, hm0, hn0⟩ := hz
  have bda := fun i => za.bd i
  have bdb := fun i => zb.bd i
  obtain ⟨ka, ka1, ka2, ka3⟩ := za
  obtain ⟨kb, kb1, kb2, kb3⟩ := zb
  have geta : ∀ {i : Nat} {x : Rat}, p[i]? = some x → (ser p).f i = x := fun {i x} h => by rw [ser_f]; simp [List.getD, h]
  have getb : ∀ {i : Nat} {x : Rat}, q[i]? = some x → (ser q).f i = x := fun {i x} h => by rw [ser_f]; simp [List.getD, h]
  obtain ⟨P, hP⟩ : ∃ P : R (D × Bool) → Prop, P = (fun r => ∃ F : List Rat, F.length = p.length + q.length - 1 ∧ ser F = ser p * ser q ∧ r = .ok (.list (F.map fr), true)) := ⟨_, rfl⟩
  have key0 : P (bo G c T (b_law_product jp jb) [.va (.list (p.map fr)), .va (.list (q.map fr))] 5) := by
    obtain ⟨n, hn, hm⟩ : ∃ n : Nat, max 0 ((p.length : Int) + (q.length : Int) - 1) = (n : Int) ∧ n = p.length + q.length - 1 := ⟨p.length + q.length - 1, by omega, rfl⟩
    have c1 : (-1000000 : Int) ≤ (n : Int) := by omega
    have c2 : (n : Int) ≤ 1000000 := by omega
    have c3 : n ≤ line := by unfold line; omega
    have c4 : (1 : Nat) ≤ line := by unfold line; omega
    have c5 : (2 : Nat) ≤ line := by unfold line; omega
    have lp : sem1 .len (.list (p.map fr)) = v1 (.int p.length) := by simp
    have lq : sem1 .len (.list (q.map fr)) = v1 (.int q.length) := by simp
    have sp : seqR (.list (p.map fr)) = .ok (p.map fr) := rfl
    have sq : seqR (.list (q.map fr)) = .ok (q.map fr) := rfl
    have hpow : (2 : Nat) ^ (h0 + k0) = 2 ^ h0 * 2 ^ k0 := Nat.pow_add _ _ _
    have small : ∀ {i : Nat} {x : Rat}, i ≤ p.length → Nb (ka * kb) (i * 2 ^ (h0 + k0)) x → Ok x := fun {i x} hi h => by
      refine Ok.of (h.bd (b := h0 + k0 + l0) (Int.mul_ne_zero ka1 kb1) ?_ ?_) hs
      · exact Nat.le_trans (natAbs_mul_le ka2 kb2) (Nat.pow_le_pow_right (by decide) (by omega))
      · rw [Nat.pow_add _ _ l0, Nat.mul_comm]
        exact Nat.mul_le_mul (Nat.le_refl _) (by omega)
    unfold bo b_law_product
    simp [val, z01, es_for, lp, lq, hn, c1, c2, c3, c4, c5, sp, sq]
    have e0 : List.replicate n (fr 0) = (List.replicate n (0 : Rat)).map fr := by simp
    rw [e0, enumD_map]
    refine forR_then (P := fun r => P (outF (r.bind _))) (I := fun i en => ∃ F z3 z4 z5 z6, en = [.va (.list (p.map fr)), .va (.list (q.map fr)), .ow (F.map fr), z3, z4, z5, z6] ∧ F.length = n ∧ ser F = ser (p.take i) * ser q ∧ ∀ x ∈ F, Nb (ka * kb) (i * 2 ^ (h0 + k0)) x) ?_ ⟨List.replicate n 0, _, _, _, _, rfl, by simp, ?_, ?_⟩ ?_
    · rintro i en d hi ⟨F0, z3, z4, z5, z6, rfl, k1, k2, k3⟩
      rw [List.getElem?_map, enumN_get] at hi
      cases hx : p[i]? with
      | none => rw [hx] at hi; cases hi
      | some x =>
        rw [hx] at hi
        cases Option.some.inj hi
        have hil := (List.getElem?_eq_some_iff.mp hx).1
        have ex : x = (ser p).f i := (geta hx).symm
        have bx : Bd h0 x := by rw [ex]; exact bda i
        have nx : Nb ka (2 ^ h0) x := by rw [ex]; exact ka3 i
        simp [val, es_for, sq]
        rw [enumD_map]
        generalize hR : forR _ _ _ _ = r
        have key : ∃ en', r = .ok (.nx en') ∧ ∃ F z5 z6, en' = [.va (.list (p.map fr)), .va (.list (q.map fr)), .ow (F.map fr), .va (.int (i : Nat)), .va (fr x), z5, z6] ∧ F.length = n ∧ ser F = ser F0 + PS.X ^ i * (PS.C x * ser q) ∧ ∀ x ∈ F, Nb (ka * kb) ((i + 1) * 2 ^ (h0 + k0)) x := by
         rw [← hR]
         refine forR_ex (I := fun k en => ∃ F z5 z6, en = [.va (.list (p.map fr)), .va (.list (q.map fr)), .ow (F.map fr), .va (.int (i : Nat)), .va (fr x), z5, z6] ∧ F.length = n ∧
          ser F = ser F0 + PS.X ^ i * (PS.C x * ser (q.take k)) ∧ (∀ x ∈ F, Nb (ka * kb) ((i + 1) * 2 ^ (h0 + k0)) x) ∧ ∀ m, i + k ≤ m → F.getD m 0 = F0.getD m 0) ⟨F0, _, _, rfl, k1, ?_, fun x hx => (k3 x hx).mono (Nat.mul_le_mul_right _ (by omega)), fun m _ => rfl⟩ ?_ ?_
         · rw [List.take_zero]
           show ser F0 = ser F0 + PS.X ^ i * (PS.C x * 0)
           grind
         · rintro k en d hk ⟨F, y5, y6, rfl, f1, f2, f3, f4⟩
           rw [List.getElem?_map, enumN_get] at hk
           cases hy : q[k]? with
           | none => rw [hy] at hk; cases hk
           | some y =>
             rw [hy] at hk
             cases Option.some.inj hk
             have hkl := (List.getElem?_eq_some_iff.mp hy).1
             have ey : y = (ser q).f k := (getb hy).symm
             have by_ : Bd k0 y := by rw [ey]; exact bdb k
             have ny : Nb kb (2 ^ k0) y := by rw [ey]; exact kb3 k
             have hlt : i + k < F.length := by omega
             have eF : (F.map fr)[i + k]? = some (fr (F.getD (i + k) 0)) := by simp [hlt]
             have b0 : Nb (ka * kb) (i * 2 ^ (h0 + k0)) (F.getD (i + k) 0) := by
               rw [f4 (i + k) (by omega)]
               have : (F0.getD (i + k) 0) ∈ F0 := by
                 have hlt' : i + k < F0.length := by omega
                 simp [hlt']
               exact k3 _ this
             have b1 : Nb (ka * kb) (2 ^ (h0 + k0)) (x * y) := by rw [hpow]; exact nx.mul ny
             have e1 := hb x y (Ok.of bx (by omega)) (Ok.of by_ (by omega))
             have e2 := hp (F.getD (i + k) 0) (x * y) (small (by omega) b0) (small (i := 1) (by omega) (by rw [Nat.one_mul]; exact b1))
             have e3 : ((i : Int) + (k : Int)) = ((i + k : Nat) : Int) := by omega
             have e4 := atD_nat eF
             have e5 : setD (F.map fr) ((i + k : Nat) : Int) (fr (F.getD (i + k) 0 + x * y)) = .ok ((F.set (i + k) (F.getD (i + k) 0 + x * y)).map fr) := by
               rw [setD_nat (by rw [List.length_map]; exact hlt), List.map_set]
             generalize hv : F.getD (i + k) 0 = v at *
             refine ⟨[.va (.list (p.map fr)), .va (.list (q.map fr)), .ow ((F.set (i + k) (v + x * y)).map fr), .va (.int (i : Nat)), .va (fr x), .va (.int (k : Nat)), .va (fr y)], .inl ?_, F.set (i + k) (v + x * y), _, _, rfl, by rw [List.length_set]; exact f1, ?_, ?_, ?_⟩
             · simp only [Nat.zero_add, bindT_tpt, bindTs_cons, bindT_nm, bindTs_nil, R.bind_ok, List.set_cons_succ, List.set_cons_zero]
               simp [val, e3, e4, e1, e2, e5, -Int.natCast_add]
             · rw [ser_set F (i + k) _ hlt, f2, ser_take_succ hy, hv, show v + x * y - v = x * y by grind, PS.C_mulC]
               grind
             · intro w hw
               rcases List.mem_or_eq_of_mem_set hw with hw | rfl
               · exact f3 w hw
               · exact (b0.add b1).mono (by rw [Nat.add_mul]; omega)
             · intro m hm'
               rw [← f4 m (by omega)]
               have hne : i + k ≠ m := by omega
               simp [List.getElem?_set_ne hne]
         · rintro en ⟨F, y5, y6, rfl, f1, f2, f3, f4⟩
           refine ⟨F, _, _, rfl, f1, ?_, f3⟩
           rw [f2, List.length_map, enumN_len, List.take_length]
        obtain ⟨en', rfl, F, y5, y6, rfl, f1, f2, f3⟩ := key
        refine ⟨_, .inl rfl, F, ⟨_, _, _, _, rfl⟩, f1, ?_, f3⟩
        rw [f2, k2, ser_take_succ hx]
        grind
    · rw [ser_zeros, List.take_zero]
      show (0 : PS) = 0 * ser q
      grind
    · intro x hx
      rw [(List.mem_replicate.mp hx).2]
      exact Nb.zero _ _
    · rintro en ⟨F, z3, z4, z5, z6, rfl, k1, k2, k3⟩
      rw [List.length_map, enumN_len, List.take_length] at k2
      rw [hP]
      exact ⟨F, by omega, k2, by simp [val]⟩
  rw [hP] at key0
  exact key0
end
end AW

/-! AwK42d: the drawn quotient of the rows' laws. -/
namespace AW
open PySem PySem.Spec PyProof.Rows
def half : Rat := ⟨1, 2, by decide, by decide⟩
def mhalf3 : Rat := ⟨-3, 2, by decide, by decide⟩
theorem bd_int {i : Int} (h : i.natAbs ≤ 4) : Bd 2 (i : Rat) := Bd.int h
section
variable {G : Nat → D} {c : Nat → List Sl → R (D × Bool)} {T : List Fn} {nm : Nm}
theorem fdm {x : Int} (h : 0 ≤ x) (a b : Int) (ha : 0 < a) (hb : 0 < b) : (x.fdiv a).fmod b = x / a % b := by rw [Int.fdiv_eq_ediv_of_nonneg _ (by omega), Int.fmod_eq_emod_of_nonneg _ (by omega)]
theorem fdv {x : Int} (a : Int) (ha : 0 < a) : x.fdiv a = x / a := Int.fdiv_eq_ediv_of_nonneg _ (by omega)
theorem fmd {x : Int} (a : Int) (ha : 0 < a) : x.fmod a = x % a := Int.fmod_eq_emod_of_nonneg _ (by omega)
/-- the law's cell -/
def SpCellN (c : Nat → List Sl → R (D × Bool)) (j : Nat) : Prop := ∀ (ns : List Int) (k : Nat), k ≤ 1000 → ∃ x : Int, 0 ≤ x ∧ c j [.va (.list (ns.map .int)), .va (.int (k : Nat))] = va (.int x)
theorem cell_at2_ok {jm : Nat} (hm : SpMix c jm) (ns : List Int) (k : Nat) (hk : k ≤ 1000) : ∃ x : Int, 0 ≤ x ∧ bo G c T (b_law_cell_at_2 jm) [.va (.list (ns.map .int)), .va (.int (k : Nat))] 0 = va (.int x) := by
  have p60 : (2 : Nat) ^ 60 = 1152921504606846976 := by decide
  by_cases h : k < ns.length
  · refine ⟨mixV ns[k] (k : Int), (mixV_nn _ _).1, ?_⟩
    have e : atD (ns.map PyData.int) (k : Int) = v1 (.int ns[k]) := atD_nat (by simp [h])
    have h' : (k : Int) < (ns.length : Int) := by omega
    have em := hm ns[k] (k : Int) (by omega)
    unfold bo b_law_cell_at_2
    simp [val, h, e, em]
  · refine ⟨mixV (k : Int) 3, (mixV_nn _ _).1, ?_⟩
    have em := hm (k : Int) 3 (by decide)
    unfold bo b_law_cell_at_2
    simp [val, h, em]
/-- the law's small fraction -/
def SpLFr (c : Nat → List Sl → R (D × Bool)) (j : Nat) : Prop := ∀ x : Int, 0 ≤ x → ∃ q : Rat, Bd 4 q ∧ c j [.va (.int x)] = va (fr q)
theorem lfr_ok {jl : Nat} (hl : SpFrac c jl) {x : Int} (hx : 0 ≤ x) : ∃ q : Rat, Bd 4 q ∧ bo G c T (b_law_fraction jl) [.va (.int x)] 0 = va (fr q) := by
  have c4 : (4 : Nat) ≤ line := by unfold line; omega
  obtain ⟨d, hd, ed⟩ := atD_mem (xs := [PyData.int 1, .int 1, .int 2, .int 3]) (i := x / 19 % 4) (by omega) (by show x / 19 % 4 < 4; omega)
  obtain ⟨m, rfl, m1, m2⟩ : ∃ m : Int, d = .int m ∧ 1 ≤ m ∧ m ≤ 3 := by
    simp only [List.mem_cons, List.not_mem_nil, or_false] at hd
    rcases hd with rfl | rfl | rfl | rfl <;> exact ⟨_, rfl, by decide, by decide⟩
  have u1 := fdm hx 19 4 (by decide) (by decide)
  have u2 := fmd (x := x) 19 (by decide)
  have e1 := hl (x % 19 - 9) m (by omega)
  refine ⟨Rat.divInt (x % 19 - 9) m, ?_, ?_⟩
  · obtain ⟨h1, h2⟩ := divInt_le (a := x % 19 - 9) (b := m) (by omega)
    have p4 : (2 : Nat) ^ 4 = 16 := by decide
    exact ⟨by omega, by omega⟩
  · unfold bo b_law_fraction
    simp [val, c4, u1, u2, ed, e1]
/-- the law's place -/
def SpPlace (c : Nat → List Sl → R (D × Bool)) (j : Nat) : Prop := ∀ x : Int, 0 ≤ x → ∃ q : Rat, Bd 2 q ∧ c j [.va (.int x)] = va (fr q)
theorem place_ok {x : Int} (hx : 0 ≤ x) : ∃ q : Rat, Bd 2 q ∧ bo G c T b_law_place [.va (.int x)] 0 = va (fr q) := by
  have c8 : (8 : Nat) ≤ line := by unfold line; omega
  have c2 : (2 : Nat) ≤ line := by unfold line; omega
  obtain ⟨d, hd, ed⟩ := atD_mem (xs := [PyData.tuple [.int 0, .int 1], .tuple [.int 1, .int 1], .tuple [.int (-1), .int 1], .tuple [.int 2, .int 1], .tuple [.int 1, .int 2], .tuple [.int (-3), .int 2], .tuple [.int 3, .int 1], .tuple [.int (-2), .int 1]]) (i := x % 8) (by omega) (by show x % 8 < 8; omega)
  obtain ⟨q, hq, rfl⟩ : ∃ q : Rat, Bd 2 q ∧ d = fr q := by
    simp only [List.mem_cons, List.not_mem_nil, or_false] at hd
    rcases hd with rfl | rfl | rfl | rfl | rfl | rfl | rfl | rfl
    · exact ⟨((0 : Int) : Rat), bd_int (by decide), rfl⟩
    · exact ⟨((1 : Int) : Rat), bd_int (by decide), rfl⟩
    · exact ⟨((-1 : Int) : Rat), bd_int (by decide), rfl⟩
    · exact ⟨((2 : Int) : Rat), bd_int (by decide), rfl⟩
    · exact ⟨half, ⟨by decide, by decide⟩, rfl⟩
    · exact ⟨mhalf3, ⟨by decide, by decide⟩, rfl⟩
    · exact ⟨((3 : Int) : Rat), bd_int (by decide), rfl⟩
    · exact ⟨((-2 : Int) : Rat), bd_int (by decide), rfl⟩
  have u2 := fmd (x := x) 8 (by decide)
  refine ⟨q, hq, ?_⟩
  unfold bo b_law_place
  simp [val, c8, c2, u2, ed]
/-- the law's piece -/
def SpPiece (c : Nat → List Sl → R (D × Bool)) (j : Nat) : Prop := ∀ x : Int, 0 ≤ x → ∃ p : List Rat, p.length ≤ 2 ∧ BdL 2 p ∧ c j [.va (.int x)] = .ok (.list ((p ++ [1]).map fr), true)
theorem fr_neg (q : Rat) : fr (-q) = .tuple [.int (-q.num), .int (q.den : Int)] := by unfold fr; rw [Rat.neg_num, Rat.neg_den]
theorem piece_ok {jp : Nat} (hp : SpPlace c jp) {x : Int} (hx : 0 ≤ x) : ∃ p : List Rat, p.length ≤ 2 ∧ BdL 2 p ∧ bo G c T (b_law_piece jp) [.va (.int x)] 2 = .ok (.list ((p ++ [1]).map fr), true) := by
  have c1 : (1 : Nat) ≤ line := by unfold line; omega
  have c2 : (2 : Nat) ≤ line := by unfold line; omega
  have c3 : (3 : Nat) ≤ line := by unfold line; omega
  have c4 : (4 : Nat) ≤ line := by unfold line; omega
  have u1 := fdm hx 3 4 (by decide) (by decide)
  have u2 := fmd (x := x) 3 (by decide)
  have u3 := fdv (x := x) 3 (by decide)
  by_cases h : 0 < x % 3
  · obtain ⟨q, hq, eq⟩ := hp (x / 3) (by omega)
    refine ⟨[-q], by simp, BdL.cons ⟨by rw [Rat.neg_num, Int.natAbs_neg]; exact hq.1, by rw [Rat.neg_den]; exact hq.2⟩ (BdL.nil _), ?_⟩
    have i0 : sem2 .idx (fr q) (.int 0) = v1 (.int q.num) := rfl
    have i1 : sem2 .idx (fr q) (.int 1) = v1 (.int (q.den : Int)) := rfl
    have ef := fr_neg q
    generalize fr q = F at *
    unfold bo b_law_piece
    simp [val, u2, u3, h, eq, i0, i1, c2, ef]
    rfl
  · obtain ⟨d, hd, ed⟩ := atD_mem (xs := [PyData.list [.tuple [.int 1, .int 1], .tuple [.int 0, .int 1]], .list [.tuple [.int 1, .int 1], .tuple [.int 1, .int 1]], .list [.tuple [.int (-2), .int 1], .tuple [.int 0, .int 1]], .list [.tuple [.int 3, .int 1], .tuple [.int (-1), .int 1]]]) (i := x / 3 % 4) (by omega) (by show x / 3 % 4 < 4; omega)
    obtain ⟨p, hl, hb, rfl⟩ : ∃ p : List Rat, p.length = 2 ∧ BdL 2 p ∧ d = .list (p.map fr) := by
      have two : ∀ i j : Int, i.natAbs ≤ 4 → j.natAbs ≤ 4 → BdL 2 [(i : Rat), (j : Rat)] := fun i j h1 h2 => BdL.cons (bd_int h1) (BdL.cons (bd_int h2) (BdL.nil _))
      simp only [List.mem_cons, List.not_mem_nil, or_false] at hd
      rcases hd with rfl | rfl | rfl | rfl
      · exact ⟨[((1 : Int) : Rat), ((0 : Int) : Rat)], rfl, two _ _ (by decide) (by decide), rfl⟩
      · exact ⟨[((1 : Int) : Rat), ((1 : Int) : Rat)], rfl, two _ _ (by decide) (by decide), rfl⟩
      · exact ⟨[((-2 : Int) : Rat), ((0 : Int) : Rat)], rfl, two _ _ (by decide) (by decide), rfl⟩
      · exact ⟨[((3 : Int) : Rat), ((-1 : Int) : Rat)], rfl, two _ _ (by decide) (by decide), rfl⟩
    refine ⟨p, by omega, hb, ?_⟩
    have hle : (p.map fr).length + 1 ≤ line := by rw [List.length_map, hl]; exact c3
    rw [List.map_append]
    generalize p.map fr = F at *
    unfold bo b_law_piece
    simp [val, u1, u2, h, ed, c1, c2, c4, hle]
    rfl
end
end AW

/-! AwK42e: the drawn quotient; the law of orders. -/
namespace AW
open PySem PySem.Spec PyProof.Rows
theorem mn_ser1 {p : List Rat} : Mn (ser (p ++ [1])) p.length := mn_snoc1 p
section
variable {G : Nat → D} {c : Nat → List Sl → R (D × Bool)} {T : List Fn} {nm : Nm}
def SpLProd (c : Nat → List Sl → R (D × Bool)) (j : Nat) : Prop := ∀ (p q : List Rat) (h0 k0 l0 : Nat), Hb h0 (ser p) → Hb k0 (ser q) → p.length ≤ 2 ^ l0 ∧ h0 + k0 + l0 ≤ 40000000 ∧ p.length ≤ 40000 ∧ q.length ≤ 40000 →
    ∃ F : List Rat, F.length = p.length + q.length - 1 ∧ ser F = ser p * ser q ∧ c j [.va (.list (p.map fr)), .va (.list (q.map fr))] = .ok (.list (F.map fr), true)
def SpPlain (c : Nat → List Sl → R (D × Bool)) (j : Nat) : Prop := ∀ p : List Rat, c j [.va (.list (p.map fr))] = va (pol (trim p))
theorem hb_piece {p : List Rat} (hl : p.length ≤ 2) (hb : BdL 2 p) : Hb 9 (ser (p ++ [1])) := by
  have := Hb.ser (b := 2) (p := p ++ [1]) fun x hx => by
    rcases List.mem_append.mp hx with hx | hx
    · exact hb x hx
    · rcases List.mem_cons.mp hx with rfl | hx
      · exact Bd.one _
      · cases hx
  rw [List.length_append] at this
  exact this.mono (by simp; omega)
def SpLQuot (c : Nat → List Sl → R (D × Bool)) (j : Nat) : Prop := ∀ x : Int, ∃ a b : PS, Z 10 100 a ∧ Z 20 200 b ∧ b ≠ 0 ∧ c j [.va (.int x), .va (.int 3)] = va (qd (qc a b))
theorem lquot_ok {jm jp jt jf jq jl : Nat} (hm : SpMix c jm) (hp : SpPiece c jp) (ht : SpLProd c jt) (hf : SpLFr c jf) (hq : SpQuot c jq) (hl : SpPlain c jl) (x : Int) :
    ∃ a b : PS, Z 10 100 a ∧ Z 20 200 b ∧ b ≠ 0 ∧ bo G c T (b_law_quotient jm jp jt jf jq jl) [.va (.int x), .va (.int 3)] 6 = va (qd (qc a b)) := by
  have p60 : (2 : Nat) ^ 60 = 1152921504606846976 := by decide
  have c0 : (0 : Nat) ≤ line := Nat.zero_le _
  have c1 : (1 : Nat) ≤ line := by unfold line; omega
  have c2 : (2 : Nat) ≤ line := by unfold line; omega
  have c4 : (4 : Nat) ≤ line := by unfold line; omega
  have z11 : PyData.tuple [.int 1, .int 1] = fr 1 := rfl
  obtain ⟨P, hP⟩ : ∃ P : R (D × Bool) → Prop, P = (fun r => ∃ a b : PS, Z 10 100 a ∧ Z 20 200 b ∧ b ≠ 0 ∧ r = va (qd (qc a b))) := ⟨_, rfl⟩
  have key : P (bo G c T (b_law_quotient jm jp jt jf jq jl) [.va (.int x), .va (.int 3)] 6) := by
    have e1 := hm x 1 (by decide)
    have n1 := mixV_nn x 1
    generalize mixV x 1 = m1 at *
    obtain ⟨n, q1, hn⟩ : ∃ n : Nat, m1.fmod 4 = (n : Int) ∧ n ≤ 3 := ⟨(m1 % 4).toNat, by rw [fmd 4 (by decide)]; omega, by omega⟩
    have hr := rngR_nat n (by omega)
    have f1 : [fr 1] = [(1 : Rat)].map fr := rfl
    have s11 : ser [1] = 1 := by show PS.C 1 + PS.X * 0 = 1; rw [PS.C_one]; grind
    unfold bo b_law_quotient
    simp [val, es_for, c0, c1, c2, z11, e1, q1, hr]
    rw [f1]
    refine forR_then (P := fun r => P (outF (r.bind _))) (I := fun i en => ∃ (F : List Rat) (ps : List D) (m : Nat) (z4 z6 z7 : Sl), en = [.va (.int x), .va (.int 3), .ow ps, .va (.list (F.map fr)), z4, .un, z6, z7] ∧ Mn (ser F) m ∧ Hb (i * 42) (ser F) ∧ F.length ≤ 1 + 4 * i ∧ ps.length ≤ i ∧ ∀ d ∈ ps, Shp 2 d) ?_ ⟨[1], [], 0, _, _, _, rfl, ?_, ?_, by simp, by simp, fun d hd => by cases hd⟩ ?_
    · rintro i en dd hi ⟨F, ps, m, z4, z6, z7, rfl, i1, i2, i3, i4, i5⟩
      rw [List.getElem?_map] at hi
      cases hk : (List.range n)[i]? with
      | none => rw [hk] at hi; cases hi
      | some k =>
        rw [hk] at hi
        cases Option.some.inj hi
        have hkn : k = i ∧ i < n := by
          rw [List.getElem?_eq_some_iff] at hk
          obtain ⟨hlt, e⟩ := hk
          rw [List.getElem_range] at e
          rw [List.length_range] at hlt
          exact ⟨e.symm, hlt⟩
        obtain ⟨rfl, hin⟩ := hkn
        have e2 := hm x (10 + (k : Int)) (by omega)
        have n2 := (mixV_nn x (10 + (k : Int))).1
        have e3 := hm x (20 + (k : Int)) (by omega)
        have n3 := (mixV_nn x (20 + (k : Int))).1
        generalize mixV x (10 + (k : Int)) = w2 at *
        generalize mixV x (20 + (k : Int)) = w3 at *
        obtain ⟨p, hp1, hp2, ep⟩ := hp w2 n2
        have hbp := hb_piece hp1 hp2
        have shp : Shp 2 (.list ((p ++ [1]).map fr)) := shp_row _
        have shps : Shp 3 (.list ps) := Shp.lst i5
        have enin : sem2 .nin (.list ((p ++ [1]).map fr)) (.list ps) = v1 (.bool (!ps.any fun z => z.eqv (.list ((p ++ [1]).map fr)))) := if_pos ⟨shp.ok (by decide), shps.ok (by decide)⟩
        have hlt : ps.length < line := by unfold line; omega
        have mp : Mn (ser (p ++ [1])) p.length := mn_ser1
        have lp : (p ++ [1]).length ≤ 3 := by rw [List.length_append]; simp; omega
        generalize hpp : p ++ [1] = pp at *
        generalize hin' : (ps.any fun z => z.eqv (.list (pp.map fr))) = bb at *
        cases bb with
        | true =>
          refine ⟨[.va (.int x), .va (.int 3), .ow ps, .va (.list (F.map fr)), .va (.int (k : Nat)), .un, .va (.list (pp.map fr)), z7], .inl ?_, F, ps, m, _, _, _, rfl, i1, i2.mono (by omega), by omega, by omega, i5⟩
          generalize pp.map fr = PP at *
          simp [val, e2, ep, enin]
        | false =>
          obtain ⟨d, hd, ed⟩ := atD_mem (xs := [PyData.int 1, .int 1, .int 2, .int 2]) (i := w3 % 4) (by omega) (by show w3 % 4 < 4; omega)
          obtain ⟨t, rfl, t2⟩ : ∃ t : Nat, d = .int (t : Nat) ∧ t ≤ 2 := by
            simp only [List.mem_cons, List.not_mem_nil, or_false] at hd
            rcases hd with rfl | rfl | rfl | rfl
            · exact ⟨1, rfl, by decide⟩
            · exact ⟨1, rfl, by decide⟩
            · exact ⟨2, rfl, by decide⟩
            · exact ⟨2, rfl, by decide⟩
          have u3 := fmd (x := w3) 4 (by decide)
          have hr2 := rngR_nat t (by omega)
          have a32 : atD [PyData.int 3, .int 2] 1 = v1 (.int 2) := rfl
          have inner : ∃ (F' : List Rat) (m' : Nat) (y7 : Sl), forR (bindT (.nm 7)) (evSs G c (dflT T) (.cons (.asg (.nm 3) (.call jt (.cons (.var 3) (.cons (.var 6) .nil)) 0)) .nil)) ((List.range t).map fun (k : Nat) => PyData.int (k : Int)) [.va (.int x), .va (.int 3), .ow (ps ++ [.list (pp.map fr)]), .va (.list (F.map fr)), .va (.int (k : Nat)), .un, .va (.list (pp.map fr)), z7]
              = .ok (.nx [.va (.int x), .va (.int 3), .ow (ps ++ [.list (pp.map fr)]), .va (.list (F'.map fr)), .va (.int (k : Nat)), .un, .va (.list (pp.map fr)), y7]) ∧ Mn (ser F') m' ∧ Hb (k * 42 + t * 14) (ser F') ∧ F'.length ≤ 1 + 4 * k + 2 * t := by
            refine forR_then (P := fun r => ∃ (F' : List Rat) (m' : Nat) (y7 : Sl), r = .ok (.nx [_, _, _, .va (.list (F'.map fr)), _, _, _, y7]) ∧ Mn (ser F') m' ∧ Hb (k * 42 + t * 14) (ser F') ∧ F'.length ≤ 1 + 4 * k + 2 * t) (I := fun i en => ∃ (F' : List Rat) (m' : Nat) (y7 : Sl), en = [.va (.int x), .va (.int 3), .ow (ps ++ [.list (pp.map fr)]), .va (.list (F'.map fr)), .va (.int (k : Nat)), .un, .va (.list (pp.map fr)), y7] ∧ Mn (ser F') m' ∧ Hb (k * 42 + i * 14) (ser F') ∧ F'.length ≤ 1 + 4 * k + 2 * i) ?_ ⟨F, m, z7, rfl, i1, i2.mono (by omega), by omega⟩ ?_
            · rintro i en dd hi ⟨F', m', y7, rfl, j1, j2, j3⟩
              have hit : i < t := by
                have := (List.getElem?_eq_some_iff.mp hi).1
                simpa using this
              obtain ⟨F2, g1, g2, g3⟩ := ht F' pp _ _ 5 j2 hbp (by omega)
              refine ⟨[.va (.int x), .va (.int 3), .ow (ps ++ [.list (pp.map fr)]), .va (.list (F2.map fr)), .va (.int (k : Nat)), .un, .va (.list (pp.map fr)), .va dd], .inl ?_, F2, m' + p.length, _, rfl, by rw [g2]; exact j1.mul mp, ?_, by omega⟩
              · generalize F2.map fr = FF2 at *
                generalize F'.map fr = FF' at *
                generalize pp.map fr = PP at *
                simp [val, g3]
              · rw [g2]
                exact (j2.mul hbp (lt_ser F') (l := 5) (by omega)).mono (by omega)
            · rintro en ⟨F', m', y7, rfl, j1, j2, j3⟩
              rw [List.length_map, List.length_range] at j2 j3
              exact ⟨F', m', y7, rfl, j1, j2, j3⟩
          obtain ⟨F', m', y7, g1, g2, g3, g4⟩ := inner
          refine ⟨[.va (.int x), .va (.int 3), .ow (ps ++ [.list (pp.map fr)]), .va (.list (F'.map fr)), .va (.int (k : Nat)), .un, .va (.list (pp.map fr)), y7], .inl ?_, F', ps ++ [.list (pp.map fr)], m', _, _, _, rfl, g2, g3.mono (by omega), by omega, by rw [List.length_append]; simp; omega, fun d hd => ?_⟩
          · generalize F'.map fr = FF' at *
            generalize F.map fr = FF at *
            generalize pp.map fr = PP at *
            simp [val, es_for, e2, ep, enin, hlt, e3, u3, c4, c2, a32, ed, hr2, g1]
          · rcases List.mem_append.mp hd with hd | hd
            · exact i5 d hd
            · rcases List.mem_cons.mp hd with rfl | hd
              · exact shp
              · cases hd
    · rw [s11]; exact Mn.one
    · rw [s11]; exact Hb.one _
    · rintro en ⟨F, ps, m, z4, z6, z7, rfl, i1, i2, i3, i4, i5⟩
      rw [List.length_map, List.length_range] at i2 i3 i4
      have e2 := hm x 2 (by decide)
      have n2 := (mixV_nn x 2).1
      have e3 := hm x 3 (by decide)
      have n3 := (mixV_nn x 3).1
      have e4 := hm x 4 (by decide)
      have n4 := (mixV_nn x 4).1
      obtain ⟨g, hg⟩ : ∃ g : Nat → Rat, ∀ k : Nat, Bd 4 (g k) ∧ c jf [.va (.int (mixV x (30 + (k : Int))))] = va (fr (g k)) :=
        ⟨fun k => (hf (mixV x (30 + (k : Int))) (mixV_nn _ _).1).choose, fun k => (hf (mixV x (30 + (k : Int))) (mixV_nn _ _).1).choose_spec⟩
      have em : ∀ k : Nat, k < 10 → c jm [.va (.int x), .va (.int (30 + (k : Int)))] = va (.int (mixV x (30 + (k : Int)))) := fun k hk => hm x _ (by omega)
      generalize mixV x 2 = w2 at *
      generalize mixV x 3 = w3 at *
      generalize mixV x 4 = w4 at *
      obtain ⟨s, q2, hs⟩ : ∃ s : Nat, w2.fmod 7 = (s : Int) ∧ s ≤ 6 := ⟨(w2 % 7).toNat, by rw [fmd 7 (by decide)]; omega, by omega⟩
      have hr2 := rngR_nat s (by omega)
      have u3 := fmd (x := w3) 3 (by decide)
      have ecmp : evF G c (dflT T) (.cmp (.call jf (.cons (.call jm (.cons (.var 0) (.cons (.op2 .add (.con (.int 30)) (.var 4)) .nil)) 0) .nil) 0) (.nm 4) (.rng1 (.op2 .mod (.call jm (.cons (.var 0) (.cons (.con (.int 2)) .nil)) 0) (.con (.int 7)))) .none [(Nm.n 4, 4)])
          [.va (.int x), .va (.int 3), .va (.list ps), .va (.list (F.map fr)), z4, .un, z6, z7] = .ok (.list (((List.range s).map g).map fr), true) := by
        rw [List.map_map]
        refine cmp_of (xs := List.range s) (e := fun (k : Nat) => .int (k : Int)) (h := fun (k : Nat) => fr (g k)) (by simp [val, e2, q2, hr2]) (by rw [List.length_range]; unfold line; omega) (fun k hk => ?_)
        have hk := List.mem_range.mp hk
        simp [val, wipe, em k (by omega), (hg k).2]
      have ht0 : Hb 30 (ser ((List.range s).map g)) := by
        have := Hb.ser (b := 4) (p := (List.range s).map g) fun y hy => by
          obtain ⟨k, hk, rfl⟩ := List.mem_map.mp hy
          exact (hg k).1
        rw [List.length_map, List.length_range] at this
        exact this.mono (by omega)
      have lt0 : ((List.range s).map g).length ≤ 6 := by rw [List.length_map, List.length_range]; exact hs
      generalize (List.range s).map g = t0 at *
      have zb : Z 20 200 (ser F) := ⟨(lt_ser F).mono (by omega), i2.mono (by omega)⟩
      have b0 := i1.dg.ne
      have pb := hl F
      rw [pol_trim] at pb
      have fin : ∀ t : List Rat, Z 10 100 (ser t) → c jq [.va (po (ser t)), .va (po (ser F))] = va (qd (qc (ser t) (ser F))) := fun t zt => hq _ _ 10 20 200 6 (zt.mono (by decide) (by decide)) zb b0 (by unfold QuotOk ComOk cb; decide)
      rw [hP]
      by_cases h3 : w3 % 3 = 0
      · obtain ⟨p, hp1, hp2, ep⟩ := hp w4 n4
        have hbp := hb_piece hp1 hp2
        have lp : (p ++ [1]).length ≤ 3 := by rw [List.length_append]; simp; omega
        generalize p ++ [1] = pp at *
        obtain ⟨t1, g1, g2, g3⟩ := ht t0 pp _ _ 3 ht0 hbp (by omega)
        have zt : Z 10 100 (ser t1) := ⟨(lt_ser t1).mono (by omega), by rw [g2]; exact (ht0.mul hbp (lt_ser t0) (l := 3) (by omega)).mono (by omega)⟩
        have pt := hl t1
        rw [pol_trim] at pt
        refine ⟨ser t1, ser F, zt, zb, b0, ?_⟩
        have ef := fin t1 zt
        generalize F.map fr = FF at *
        generalize t1.map fr = TT1 at *
        generalize t0.map fr = TT0 at *
        generalize pp.map fr = PP at *
        simp [val, ecmp, e3, u3, h3, e4, ep, g3, pt, pb, ef]
      · have zt : Z 10 100 (ser t0) := ⟨(lt_ser t0).mono (by omega), ht0.mono (by omega)⟩
        have pt := hl t0
        rw [pol_trim] at pt
        refine ⟨ser t0, ser F, zt, zb, b0, ?_⟩
        have ef := fin t0 zt
        generalize F.map fr = FF at *
        generalize t0.map fr = TT0 at *
        simp [val, ecmp, e3, u3, h3, pt, pb, ef]
  rw [hP] at key
  exact key
end
end AW

/-! AwK62: eight pieces, unlike ones without a common part; sums of numbers over them. -/
namespace AW
open PySem PySem.Spec PyProof.Rows
def pcs : List (List Rat) := [[(0 : Rat), (1 : Rat)], [(-1 : Rat), (1 : Rat)], [(1 : Rat), (1 : Rat)], [(⟨-1, 2, by decide, by decide⟩ : Rat), (1 : Rat)], [(3 : Rat), (1 : Rat)], [(1 : Rat), (0 : Rat), (1 : Rat)], [(-2 : Rat), (0 : Rat), (1 : Rat)], [(1 : Rat), (1 : Rat), (1 : Rat)]]
def bzs : List (List Rat × List Rat × List Rat × List Rat) := [([(0 : Rat), (1 : Rat)], [(-1 : Rat), (1 : Rat)], [(1 : Rat)], [(-1 : Rat)]),
  ([(0 : Rat), (1 : Rat)], [(1 : Rat), (1 : Rat)], [(-1 : Rat)], [(1 : Rat)]),
  ([(0 : Rat), (1 : Rat)], [(⟨-1, 2, by decide, by decide⟩ : Rat), (1 : Rat)], [(2 : Rat)], [(-2 : Rat)]),
  ([(0 : Rat), (1 : Rat)], [(3 : Rat), (1 : Rat)], [(⟨-1, 3, by decide, by decide⟩ : Rat)], [(⟨1, 3, by decide, by decide⟩ : Rat)]),
  ([(0 : Rat), (1 : Rat)], [(1 : Rat), (0 : Rat), (1 : Rat)], [(0 : Rat), (-1 : Rat)], [(1 : Rat)]),
  ([(0 : Rat), (1 : Rat)], [(-2 : Rat), (0 : Rat), (1 : Rat)], [(0 : Rat), (⟨1, 2, by decide, by decide⟩ : Rat)], [(⟨-1, 2, by decide, by decide⟩ : Rat)]),
  ([(0 : Rat), (1 : Rat)], [(1 : Rat), (1 : Rat), (1 : Rat)], [(-1 : Rat), (-1 : Rat)], [(1 : Rat)]),
  ([(-1 : Rat), (1 : Rat)], [(0 : Rat), (1 : Rat)], [(-1 : Rat)], [(1 : Rat)]),
  ([(-1 : Rat), (1 : Rat)], [(1 : Rat), (1 : Rat)], [(⟨-1, 2, by decide, by decide⟩ : Rat)], [(⟨1, 2, by decide, by decide⟩ : Rat)]),
  ([(-1 : Rat), (1 : Rat)], [(⟨-1, 2, by decide, by decide⟩ : Rat), (1 : Rat)], [(-2 : Rat)], [(2 : Rat)]),
  ([(-1 : Rat), (1 : Rat)], [(3 : Rat), (1 : Rat)], [(⟨-1, 4, by decide, by decide⟩ : Rat)], [(⟨1, 4, by decide, by decide⟩ : Rat)]),
  ([(-1 : Rat), (1 : Rat)], [(1 : Rat), (0 : Rat), (1 : Rat)], [(⟨-1, 2, by decide, by decide⟩ : Rat), (⟨-1, 2, by decide, by decide⟩ : Rat)], [(⟨1, 2, by decide, by decide⟩ : Rat)]),
  ([(-1 : Rat), (1 : Rat)], [(-2 : Rat), (0 : Rat), (1 : Rat)], [(1 : Rat), (1 : Rat)], [(-1 : Rat)]),
  ([(-1 : Rat), (1 : Rat)], [(1 : Rat), (1 : Rat), (1 : Rat)], [(⟨-2, 3, by decide, by decide⟩ : Rat), (⟨-1, 3, by decide, by decide⟩ : Rat)], [(⟨1, 3, by decide, by decide⟩ : Rat)]),
  ([(1 : Rat), (1 : Rat)], [(0 : Rat), (1 : Rat)], [(1 : Rat)], [(-1 : Rat)]),
  ([(1 : Rat), (1 : Rat)], [(-1 : Rat), (1 : Rat)], [(⟨1, 2, by decide, by decide⟩ : Rat)], [(⟨-1, 2, by decide, by decide⟩ : Rat)]),
  ([(1 : Rat), (1 : Rat)], [(⟨-1, 2, by decide, by decide⟩ : Rat), (1 : Rat)], [(⟨2, 3, by decide, by decide⟩ : Rat)], [(⟨-2, 3, by decide, by decide⟩ : Rat)]),
  ([(1 : Rat), (1 : Rat)], [(3 : Rat), (1 : Rat)], [(⟨-1, 2, by decide, by decide⟩ : Rat)], [(⟨1, 2, by decide, by decide⟩ : Rat)]),
  ([(1 : Rat), (1 : Rat)], [(1 : Rat), (0 : Rat), (1 : Rat)], [(⟨1, 2, by decide, by decide⟩ : Rat), (⟨-1, 2, by decide, by decide⟩ : Rat)], [(⟨1, 2, by decide, by decide⟩ : Rat)]),
  ([(1 : Rat), (1 : Rat)], [(-2 : Rat), (0 : Rat), (1 : Rat)], [(-1 : Rat), (1 : Rat)], [(-1 : Rat)]),
  ([(1 : Rat), (1 : Rat)], [(1 : Rat), (1 : Rat), (1 : Rat)], [(0 : Rat), (-1 : Rat)], [(1 : Rat)]),
  ([(⟨-1, 2, by decide, by decide⟩ : Rat), (1 : Rat)], [(0 : Rat), (1 : Rat)], [(-2 : Rat)], [(2 : Rat)]),
  ([(⟨-1, 2, by decide, by decide⟩ : Rat), (1 : Rat)], [(-1 : Rat), (1 : Rat)], [(2 : Rat)], [(-2 : Rat)]),
  ([(⟨-1, 2, by decide, by decide⟩ : Rat), (1 : Rat)], [(1 : Rat), (1 : Rat)], [(⟨-2, 3, by decide, by decide⟩ : Rat)], [(⟨2, 3, by decide, by decide⟩ : Rat)]),
  ([(⟨-1, 2, by decide, by decide⟩ : Rat), (1 : Rat)], [(3 : Rat), (1 : Rat)], [(⟨-2, 7, by decide, by decide⟩ : Rat)], [(⟨2, 7, by decide, by decide⟩ : Rat)]),
  ([(⟨-1, 2, by decide, by decide⟩ : Rat), (1 : Rat)], [(1 : Rat), (0 : Rat), (1 : Rat)], [(⟨-2, 5, by decide, by decide⟩ : Rat), (⟨-4, 5, by decide, by decide⟩ : Rat)], [(⟨4, 5, by decide, by decide⟩ : Rat)]),
  ([(⟨-1, 2, by decide, by decide⟩ : Rat), (1 : Rat)], [(-2 : Rat), (0 : Rat), (1 : Rat)], [(⟨2, 7, by decide, by decide⟩ : Rat), (⟨4, 7, by decide, by decide⟩ : Rat)], [(⟨-4, 7, by decide, by decide⟩ : Rat)]),
  ([(⟨-1, 2, by decide, by decide⟩ : Rat), (1 : Rat)], [(1 : Rat), (1 : Rat), (1 : Rat)], [(⟨-6, 7, by decide, by decide⟩ : Rat), (⟨-4, 7, by decide, by decide⟩ : Rat)], [(⟨4, 7, by decide, by decide⟩ : Rat)]),
  ([(3 : Rat), (1 : Rat)], [(0 : Rat), (1 : Rat)], [(⟨1, 3, by decide, by decide⟩ : Rat)], [(⟨-1, 3, by decide, by decide⟩ : Rat)]),
  ([(3 : Rat), (1 : Rat)], [(-1 : Rat), (1 : Rat)], [(⟨1, 4, by decide, by decide⟩ : Rat)], [(⟨-1, 4, by decide, by decide⟩ : Rat)]),
  ([(3 : Rat), (1 : Rat)], [(1 : Rat), (1 : Rat)], [(⟨1, 2, by decide, by decide⟩ : Rat)], [(⟨-1, 2, by decide, by decide⟩ : Rat)]),
  ([(3 : Rat), (1 : Rat)], [(⟨-1, 2, by decide, by decide⟩ : Rat), (1 : Rat)], [(⟨2, 7, by decide, by decide⟩ : Rat)], [(⟨-2, 7, by decide, by decide⟩ : Rat)]),
  ([(3 : Rat), (1 : Rat)], [(1 : Rat), (0 : Rat), (1 : Rat)], [(⟨3, 10, by decide, by decide⟩ : Rat), (⟨-1, 10, by decide, by decide⟩ : Rat)], [(⟨1, 10, by decide, by decide⟩ : Rat)]),
  ([(3 : Rat), (1 : Rat)], [(-2 : Rat), (0 : Rat), (1 : Rat)], [(⟨3, 7, by decide, by decide⟩ : Rat), (⟨-1, 7, by decide, by decide⟩ : Rat)], [(⟨1, 7, by decide, by decide⟩ : Rat)]),
  ([(3 : Rat), (1 : Rat)], [(1 : Rat), (1 : Rat), (1 : Rat)], [(⟨2, 7, by decide, by decide⟩ : Rat), (⟨-1, 7, by decide, by decide⟩ : Rat)], [(⟨1, 7, by decide, by decide⟩ : Rat)]),
  ([(1 : Rat), (0 : Rat), (1 : Rat)], [(0 : Rat), (1 : Rat)], [(1 : Rat)], [(0 : Rat), (-1 : Rat)]),
  ([(1 : Rat), (0 : Rat), (1 : Rat)], [(-1 : Rat), (1 : Rat)], [(⟨1, 2, by decide, by decide⟩ : Rat)], [(⟨-1, 2, by decide, by decide⟩ : Rat), (⟨-1, 2, by decide, by decide⟩ : Rat)]),
  ([(1 : Rat), (0 : Rat), (1 : Rat)], [(1 : Rat), (1 : Rat)], [(⟨1, 2, by decide, by decide⟩ : Rat)], [(⟨1, 2, by decide, by decide⟩ : Rat), (⟨-1, 2, by decide, by decide⟩ : Rat)]),
  ([(1 : Rat), (0 : Rat), (1 : Rat)], [(⟨-1, 2, by decide, by decide⟩ : Rat), (1 : Rat)], [(⟨4, 5, by decide, by decide⟩ : Rat)], [(⟨-2, 5, by decide, by decide⟩ : Rat), (⟨-4, 5, by decide, by decide⟩ : Rat)]),
  ([(1 : Rat), (0 : Rat), (1 : Rat)], [(3 : Rat), (1 : Rat)], [(⟨1, 10, by decide, by decide⟩ : Rat)], [(⟨3, 10, by decide, by decide⟩ : Rat), (⟨-1, 10, by decide, by decide⟩ : Rat)]),
  ([(1 : Rat), (0 : Rat), (1 : Rat)], [(-2 : Rat), (0 : Rat), (1 : Rat)], [(⟨1, 3, by decide, by decide⟩ : Rat)], [(⟨-1, 3, by decide, by decide⟩ : Rat)]),
  ([(1 : Rat), (0 : Rat), (1 : Rat)], [(1 : Rat), (1 : Rat), (1 : Rat)], [(1 : Rat), (1 : Rat)], [(0 : Rat), (-1 : Rat)]),
  ([(-2 : Rat), (0 : Rat), (1 : Rat)], [(0 : Rat), (1 : Rat)], [(⟨-1, 2, by decide, by decide⟩ : Rat)], [(0 : Rat), (⟨1, 2, by decide, by decide⟩ : Rat)]),
  ([(-2 : Rat), (0 : Rat), (1 : Rat)], [(-1 : Rat), (1 : Rat)], [(-1 : Rat)], [(1 : Rat), (1 : Rat)]),
  ([(-2 : Rat), (0 : Rat), (1 : Rat)], [(1 : Rat), (1 : Rat)], [(-1 : Rat)], [(-1 : Rat), (1 : Rat)]),
  ([(-2 : Rat), (0 : Rat), (1 : Rat)], [(⟨-1, 2, by decide, by decide⟩ : Rat), (1 : Rat)], [(⟨-4, 7, by decide, by decide⟩ : Rat)], [(⟨2, 7, by decide, by decide⟩ : Rat), (⟨4, 7, by decide, by decide⟩ : Rat)]),
  ([(-2 : Rat), (0 : Rat), (1 : Rat)], [(3 : Rat), (1 : Rat)], [(⟨1, 7, by decide, by decide⟩ : Rat)], [(⟨3, 7, by decide, by decide⟩ : Rat), (⟨-1, 7, by decide, by decide⟩ : Rat)]),
  ([(-2 : Rat), (0 : Rat), (1 : Rat)], [(1 : Rat), (0 : Rat), (1 : Rat)], [(⟨-1, 3, by decide, by decide⟩ : Rat)], [(⟨1, 3, by decide, by decide⟩ : Rat)]),
  ([(-2 : Rat), (0 : Rat), (1 : Rat)], [(1 : Rat), (1 : Rat), (1 : Rat)], [(⟨-2, 7, by decide, by decide⟩ : Rat), (⟨1, 7, by decide, by decide⟩ : Rat)], [(⟨3, 7, by decide, by decide⟩ : Rat), (⟨-1, 7, by decide, by decide⟩ : Rat)]),
  ([(1 : Rat), (1 : Rat), (1 : Rat)], [(0 : Rat), (1 : Rat)], [(1 : Rat)], [(-1 : Rat), (-1 : Rat)]),
  ([(1 : Rat), (1 : Rat), (1 : Rat)], [(-1 : Rat), (1 : Rat)], [(⟨1, 3, by decide, by decide⟩ : Rat)], [(⟨-2, 3, by decide, by decide⟩ : Rat), (⟨-1, 3, by decide, by decide⟩ : Rat)]),
  ([(1 : Rat), (1 : Rat), (1 : Rat)], [(1 : Rat), (1 : Rat)], [(1 : Rat)], [(0 : Rat), (-1 : Rat)]),
  ([(1 : Rat), (1 : Rat), (1 : Rat)], [(⟨-1, 2, by decide, by decide⟩ : Rat), (1 : Rat)], [(⟨4, 7, by decide, by decide⟩ : Rat)], [(⟨-6, 7, by decide, by decide⟩ : Rat), (⟨-4, 7, by decide, by decide⟩ : Rat)]),
  ([(1 : Rat), (1 : Rat), (1 : Rat)], [(3 : Rat), (1 : Rat)], [(⟨1, 7, by decide, by decide⟩ : Rat)], [(⟨2, 7, by decide, by decide⟩ : Rat), (⟨-1, 7, by decide, by decide⟩ : Rat)]),
  ([(1 : Rat), (1 : Rat), (1 : Rat)], [(1 : Rat), (0 : Rat), (1 : Rat)], [(0 : Rat), (-1 : Rat)], [(1 : Rat), (1 : Rat)]),
  ([(1 : Rat), (1 : Rat), (1 : Rat)], [(-2 : Rat), (0 : Rat), (1 : Rat)], [(⟨3, 7, by decide, by decide⟩ : Rat), (⟨-1, 7, by decide, by decide⟩ : Rat)], [(⟨-2, 7, by decide, by decide⟩ : Rat), (⟨1, 7, by decide, by decide⟩ : Rat)])]
def bds : List (List Rat × List Rat × List Rat) := [([(0 : Rat), (1 : Rat)], [], [(1 : Rat)]),
  ([(-1 : Rat), (1 : Rat)], [], [(1 : Rat)]),
  ([(1 : Rat), (1 : Rat)], [], [(1 : Rat)]),
  ([(⟨-1, 2, by decide, by decide⟩ : Rat), (1 : Rat)], [], [(1 : Rat)]),
  ([(3 : Rat), (1 : Rat)], [], [(1 : Rat)]),
  ([(1 : Rat), (0 : Rat), (1 : Rat)], [(1 : Rat)], [(0 : Rat), (⟨-1, 2, by decide, by decide⟩ : Rat)]),
  ([(-2 : Rat), (0 : Rat), (1 : Rat)], [(⟨-1, 2, by decide, by decide⟩ : Rat)], [(0 : Rat), (⟨1, 4, by decide, by decide⟩ : Rat)]),
  ([(1 : Rat), (1 : Rat), (1 : Rat)], [(⟨4, 3, by decide, by decide⟩ : Rat)], [(⟨-1, 3, by decide, by decide⟩ : Rat), (⟨-2, 3, by decide, by decide⟩ : Rat)])]
def plcs : List Rat := [(5 : Rat), (⟨-7, 3, by decide, by decide⟩ : Rat), (⟨11, 2, by decide, by decide⟩ : Rat), (⟨4, 5, by decide, by decide⟩ : Rat), (-9 : Rat), (⟨100, 7, by decide, by decide⟩ : Rat), (⟨2, 3, by decide, by decide⟩ : Rat)]
def bz1 (u p v q : List Rat) : Bool := decide (trim (addL (mulL u p) (mulL v q)) = [1])
theorem ser_one1 : ser [1] = 1 := by show PS.C 1 + PS.X * 0 = 1; rw [PS.C_one]; grind
theorem cop_bz1 {u p v q : List Rat} (h : bz1 u p v q = true) : Cop (ser p) (ser q) := by
  have h := of_decide_eq_true h
  refine ⟨ser u, ser v, pl_ser u, pl_ser v, ?_⟩
  rw [← ser_mul, ← ser_mul, ← ser_add, ← ser_trim, h, ser_one1]
theorem chk1 : (pcs.all fun p => pcs.all fun q => p == q || bzs.any fun r => r.1 == p && r.2.1 == q && bz1 r.2.2.1 p r.2.2.2 q) = true := by decide +kernel
theorem chk2 : (pcs.all fun p => bds.any fun r => r.1 == p && bz1 r.2.1 p r.2.2 (derL p)) = true := by decide +kernel
theorem chk3 : (pcs.all fun p => plcs.all fun x => decide (hv p x ≠ 0)) = true := by decide +kernel
theorem chk4 : (pcs.all fun p => decide (p.length ≤ 3) && decide (2 ≤ p.length) && decide (p.getLast? = some 1)) = true := by decide +kernel
theorem chk5 : (pcs.all fun p => p.all fun x => decide (x.num.natAbs ≤ 2 ^ 2) && decide (x.den ≤ 2 ^ 2)) = true := by decide +kernel
theorem pc_cop {p q : List Rat} (hp : p ∈ pcs) (hq : q ∈ pcs) (ne : p ≠ q) : Cop (ser p) (ser q) := by
  have h := List.all_eq_true.mp (List.all_eq_true.mp chk1 p hp) q hq
  rcases Bool.or_eq_true_iff.mp h with h | h
  · exact absurd (eq_of_beq h) ne
  · obtain ⟨r, _, h⟩ := List.any_eq_true.mp h
    exact cop_bz1 (Bool.and_eq_true_iff.mp h).2
theorem pc_der {p : List Rat} (hp : p ∈ pcs) : Cop (ser p) (der (ser p)) := by
  have h := List.all_eq_true.mp chk2 p hp
  obtain ⟨r, _, h⟩ := List.any_eq_true.mp h
  have := cop_bz1 (Bool.and_eq_true_iff.mp h).2
  rw [ser_der] at this
  exact this
theorem pc_hv {p : List Rat} (hp : p ∈ pcs) {x : Rat} (hx : x ∈ plcs) : hv p x ≠ 0 := of_decide_eq_true (List.all_eq_true.mp (List.all_eq_true.mp chk3 p hp) x hx)
theorem pc_bd {p : List Rat} (hp : p ∈ pcs) : BdL 2 p := fun x hx => by
  have h := List.all_eq_true.mp (List.all_eq_true.mp chk5 p hp) x hx
  obtain ⟨h1, h2⟩ := Bool.and_eq_true_iff.mp h
  exact ⟨of_decide_eq_true h1, of_decide_eq_true h2⟩
theorem pc_len {p : List Rat} (hp : p ∈ pcs) : 2 ≤ p.length ∧ p.length ≤ 3 := by
  have h := List.all_eq_true.mp chk4 p hp
  obtain ⟨h1, h2⟩ := Bool.and_eq_true_iff.mp h
  obtain ⟨h1, h3⟩ := Bool.and_eq_true_iff.mp h1
  exact ⟨of_decide_eq_true h3, of_decide_eq_true h1⟩
theorem pc_mn {p : List Rat} (hp : p ∈ pcs) : Mn (ser p) (p.length - 1) := by
  have h := List.all_eq_true.mp chk4 p hp
  have h2 := of_decide_eq_true (Bool.and_eq_true_iff.mp h).2
  have hl := pc_len hp
  rcases List.eq_nil_or_concat p with rfl | ⟨r, a, rfl⟩
  · cases h2
  · rw [List.concat_eq_append] at *
    rw [List.getLast?_append] at h2
    have e : a = 1 := by simpa using h2
    subst e
    have := mn_snoc1 r
    rwa [List.length_append, List.length_cons, List.length_nil, Nat.add_sub_cancel]
theorem pc_z {p : List Rat} (hp : p ∈ pcs) : Z 3 9 (ser p) := by
  have hl := pc_len hp
  have h := Hb.ser (pc_bd hp)
  have hm : p.length * (2 + 1) ≤ 3 * 3 := Nat.mul_le_mul hl.2 (Nat.le_refl _)
  exact ⟨(lt_ser p).mono hl.2, h.mono (by omega)⟩
/-- a number times the slope of a piece over it, put to a sum -/
def lst (s : List Rat × List Rat) (t : Rat × List Rat) : List Rat × List Rat := (addL (mulL s.1 t.2) (mulL ((derL t.2).map fun b => t.1 * b) s.2), mulL s.2 t.2)
theorem lst_ser (s : List Rat × List Rat) (t : Rat × List Rat) : ser (lst s t).1 = ser s.1 * ser t.2 + PS.C t.1 * der (ser t.2) * ser s.2 ∧ ser (lst s t).2 = ser s.2 * ser t.2 := by
  unfold lst
  refine ⟨?_, ser_mul _ _⟩
  show ser (addL _ _) = _
  rw [ser_add, ser_mul, ser_mul, ser_smul, ser_der]
/-- what is told of a sum at places -/
def due (x : Rat) (d : Rat) (t : Rat × List Rat) : Rat := d + t.1 * (hv (derL t.2) x * (hv t.2 x)⁻¹)
theorem lst_hv {s : List Rat × List Rat} {t : Rat × List Rat} {x d : Rat} (h : hv s.1 x = d * hv s.2 x) (h0 : hv t.2 x ≠ 0) : hv (lst s t).1 x = due x d t * hv (lst s t).2 x := by
  unfold lst due
  show hv (addL _ _) x = _ * hv (mulL _ _) x
  rw [hv_add, hv_mul, hv_mul, hv_smul, hv_mul, h]
  have e : (hv t.2 x)⁻¹ * hv t.2 x = 1 := Rat.inv_mul_cancel _ h0
  generalize (hv t.2 x)⁻¹ = i at *
  grind
/-- the state of a sum over unlike pieces -/
structure LS (s : List Rat × List Rat) (us : List (List Rat)) (i h : Nat) : Prop where
  cop : Cop (ser s.1) (ser s.2)
  mn : ∃ m, Mn (ser s.2) m ∧ m ≤ 2 * i
  oth : ∀ q ∈ pcs, q ∉ us → Cop (ser s.2) (ser q)
  za : Z (2 * i + 1) h (ser s.1)
  zb : Z (2 * i + 1) (14 * i) (ser s.2)
theorem LS.start : LS ([], [1]) [] 0 0 := ⟨by rw [ser_one1]; exact Cop.one _, ⟨0, by rw [ser_one1]; exact Mn.one, by omega⟩, fun q _ _ => by rw [ser_one1]; exact (Cop.one _).symm, Z.zero _ _, by rw [ser_one1]; exact Z.one _ _ (by omega)⟩
theorem LS.step {s : List Rat × List Rat} {us : List (List Rat)} {i h b : Nat} {t : Rat × List Rat} (l : LS s us i h) (hi : i ≤ 3) (ht : t.2 ∈ pcs) (hu : t.2 ∉ us) (t0 : t.1 ≠ 0) (hb : Bd b t.1) : LS (lst s t) (us ++ [t.2]) (i + 1) (h + b + 80) := by
  obtain ⟨e1, e2⟩ := lst_ser s t
  have zp := pc_z ht
  obtain ⟨m, hm, hmi⟩ := l.mn
  have mp := pc_mn ht
  have lp := pc_len ht
  have cbp := l.oth _ ht hu
  have cpd := pc_der ht
  have pa := l.za.pl
  have pb := l.zb.pl
  have pp := zp.pl
  have pd := pp.der
  refine ⟨?_, ⟨_, by rw [e2]; exact hm.mul mp, by omega⟩, fun q hq hn => ?_, ?_, ?_⟩
  · rw [e1, e2]
    refine Cop.mul ((pa.mul pp).add (((Pl.C _).mul pd).mul pb)) pb pp ?_ ?_
    · exact ((Cop.mul pb pa pp l.cop.symm cbp).add_mul (s := PS.C t.1 * der (ser t.2)) ((Pl.C _).mul pd)).symm
    · have h1 : Cop (ser t.2) (PS.C t.1 * (der (ser t.2) * ser s.2)) := (Cop.mul pp pd pb cpd cbp.symm).smul t0
      have h2 := (h1.add_mul (s := ser s.1) pa).symm
      rwa [show PS.C t.1 * (der (ser t.2) * ser s.2) + ser s.1 * ser t.2 = ser s.1 * ser t.2 + PS.C t.1 * der (ser t.2) * ser s.2 by grind] at h2
  · rw [e2]
    have hq1 : q ∉ us := fun z => hn (List.mem_append_left _ z)
    have hq2 : t.2 ≠ q := fun z => hn (List.mem_append_right _ (by rw [z]; exact List.mem_cons_self))
    exact Cop.mul_l pb pp (pl_ser q) (l.oth q hq hq1) (pc_cop ht hq hq2)
  · rw [e1]
    have z1 := l.za.mul zp (l := 3) (by omega)
    have z2 : Z 2 (b + 11) (PS.C t.1 * der (ser t.2)) := ((zp.der (l := 2) (by decide)).smul hb).mono (by decide) (by omega)
    have z3 := z2.mul l.zb (l := 1) (by decide)
    exact (z1.add z3).mono (by omega) (by omega)
  · rw [e2]
    exact (l.zb.mul zp (l := 3) (by omega)).mono (by omega) (by omega)
theorem LS.qc {s : List Rat × List Rat} {us : List (List Rat)} {i h : Nat} (l : LS s us i h) : AW.qc (ser s.1) (ser s.2) = (ser s.1, ser s.2) := by
  obtain ⟨m, hm, _⟩ := l.mn
  exact qc_of ⟨l.cop, l.za.pl, ⟨m, hm⟩, rfl⟩ l.za.pl l.zb.pl hm.dg.ne
end AW

/-! AwK62b: values at a place, slopes of logarithms. -/
namespace AW
open PySem PySem.Spec PyProof.Rows
theorem Bd.inv {b : Nat} {x : Rat} (h : Bd b x) (h0 : x ≠ 0) : Bd b x⁻¹ := by
  rw [← inv_divInt h0]
  have hn : x.num ≠ 0 := by rw [Ne, Rat.num_eq_zero]; exact h0
  obtain ⟨h1, h2⟩ := divInt_le (a := (x.den : Int)) (b := x.num) hn
  exact ⟨Nat.le_trans h1 (by have := h.2; simpa using this), Nat.le_trans h2 h.1⟩
theorem mul_inv_divInt {q u : Rat} (hu : u ≠ 0) : Rat.divInt (q.num * u.den) (q.den * u.num) = q * u⁻¹ := by
  have hn : u.num ≠ 0 := by rw [Ne, Rat.num_eq_zero]; exact hu
  rw [← inv_divInt hu]
  conv => rhs; rw [← Rat.num_divInt_den q]
  rw [Rat.divInt_mul_divInt]
theorem chk6 : (pcs.all fun p => decide (trim p = p)) = true := by decide +kernel
theorem pc_po {p : List Rat} (hp : p ∈ pcs) : pol p = po (ser p) := by
  have h := of_decide_eq_true (List.all_eq_true.mp chk6 p hp)
  rw [← pol_trim, h]
section
variable {G : Nat → D} {c : Nat → List Sl → R (D × Bool)} {T : List Fn} {nm : Nm}
def SpQAt (c : Nat → List Sl → R (D × Bool)) (j : Nat) : Prop := ∀ (q : PS × PS) (x : Rat) (n h d : Nat), Z n h q.1 → Z n h q.2 → Bd d x → (n + 1) * (h + d + 1) ≤ 10000000 → hv (toL q.2) x ≠ 0 → c j [.va (qd q), .va (fr x)] = va (fr (hv (toL q.1) x * (hv (toL q.2) x)⁻¹))
theorem q_at_ok {ja kN e jb jt : Nat} (hG : G kN = fr 0) (ha : SpAt c ja) (hb : SpBy c jb) (ht : SpTurn c jt) {q : PS × PS} {x : Rat} {n h d : Nat} (z1 : Z n h q.1) (z2 : Z n h q.2) (hx : Bd d x) (hz : (n + 1) * (h + d + 1) ≤ 10000000) (h0 : hv (toL q.2) x ≠ 0) :
    bo G c T (b_q_at ja kN e jb jt) [.va (qd q), .va (fr x)] 1 = va (fr (hv (toL q.1) x * (hv (toL q.2) x)⁻¹)) := by
  have l1 := toL_le z1.lt
  have l2 := toL_le z2.lt
  have b1 := z1.hb.bdL z1.pl
  have b2 := z2.hb.bdL z2.pl
  have m1 : ((toL q.1).length + 1) * (h + d + 1) ≤ (n + 1) * (h + d + 1) := Nat.mul_le_mul_right _ (by omega)
  have m2 : ((toL q.2).length + 1) * (h + d + 1) ≤ (n + 1) * (h + d + 1) := Nat.mul_le_mul_right _ (by omega)
  have e1 := ha _ x _ _ b1 hx (by omega)
  have e2 := ha _ x _ _ b2 hx (by omega)
  have v1b := Bd.hv hx b1
  have v2b := Bd.hv hx b2
  have m3 : (toL q.1).length * (h + d + 1) ≤ (n + 1) * (h + d + 1) := Nat.mul_le_mul_right _ (by omega)
  have m4 : (toL q.2).length * (h + d + 1) ≤ (n + 1) * (h + d + 1) := Nat.mul_le_mul_right _ (by omega)
  have e3 := ht _ h0
  have e4 := hb (hv (toL q.1) x) (hv (toL q.2) x)⁻¹ (Ok.of v1b (by omega)) (Ok.of (v2b.inv h0) (by omega))
  have i0 : sem2 .idx (qd q) (.int 0) = v1 (pol (toL q.1)) := idx_qd0 q
  have i1 : sem2 .idx (qd q) (.int 1) = v1 (pol (toL q.2)) := idx_qd1 q
  generalize hv (toL q.1) x = u1 at *
  generalize hv (toL q.2) x = u2 at *
  generalize qd q = Q at *
  unfold bo b_q_at
  simp [val, i0, i1, e1, e2, hG, h0, e3, e4]
/-! ### sums over pieces -/
/-- the numbers and pieces that may be asked -/
def Tm (ts : List (Rat × List Rat)) : Prop := (∀ t ∈ ts, t.2 ∈ pcs ∧ t.1 ≠ 0 ∧ Bd 200 t.1) ∧ (ts.map (·.2)).Nodup ∧ ts.length ≤ 3
def tm (t : Rat × List Rat) : D := .tuple [fr t.1, pol t.2]
theorem Tm.take {ts : List (Rat × List Rat)} (h : Tm ts) (i : Nat) : Tm (ts.take i) := ⟨fun t ht => h.1 t (List.mem_of_mem_take ht), by rw [List.map_take]; exact h.2.1.sublist (List.take_sublist _ _), by rw [List.length_take]; have := h.2.2; omega⟩
theorem Tm.ls : ∀ (i : Nat) {ts : List (Rat × List Rat)}, Tm ts → ts.length = i → LS (ts.foldl lst ([], [1])) (ts.map (·.2)) i (280 * i)
  | 0, ts, _, hl => by
    have : ts = [] := List.eq_nil_of_length_eq_zero hl
    subst this
    exact LS.start
  | i + 1, ts, h, hl => by
    rcases List.eq_nil_or_concat ts with rfl | ⟨ts', t, rfl⟩
    · simp at hl
    · rw [List.concat_eq_append] at *
      rw [List.length_append, List.length_cons, List.length_nil] at hl
      obtain ⟨h1, h2, h3⟩ := h
      rw [List.map_append, List.nodup_append] at h2
      obtain ⟨h4, h5, h6⟩ := h2
      rw [List.length_append] at h3
      have hT : Tm ts' := ⟨fun x hx => h1 x (List.mem_append_left _ hx), h4, by simp at h3; omega⟩
      have ih := Tm.ls i hT (by omega)
      obtain ⟨g1, g2, g3⟩ := h1 t (List.mem_append_right _ List.mem_cons_self)
      rw [List.foldl_append, List.map_append]
      have := ih.step (by simp at h3; omega) g1 (fun z => h6 _ z _ (by simp) rfl) g2 g3
      exact ⟨this.cop, this.mn, this.oth, this.za.mono (Nat.le_refl _) (by omega), this.zb⟩
def SpLogSl (c : Nat → List Sl → R (D × Bool)) (j : Nat) : Prop := ∀ (ts : List (Rat × List Rat)) (d : D), Tm ts → seqR d = .ok (ts.map tm) → c j [.va d] = va (qd (ser (ts.foldl lst ([], [1])).1, ser (ts.foldl lst ([], [1])).2))
theorem log_slope_ok {kN js jq jc jl : Nat} (hG : G kN = qd (0, 1)) (hs : SpQSum c js) (hq : SpQuot c jq) (hc : SpScaled c jc) (hl : SpSlope c jl) {ts : List (Rat × List Rat)} {d : D} (hT : Tm ts) (hd : seqR d = .ok (ts.map tm)) :
    bo G c T (b_log_slope kN js jq jc jl) [.va d] 3 = va (qd (ser (ts.foldl lst ([], [1])).1, ser (ts.foldl lst ([], [1])).2)) := by
  unfold bo b_log_slope
  simp [val, es_for, hG, hd]
  refine forR_then (P := fun r => outF (r.bind _) = _) (I := fun i en => ∃ z2 z3, en = [.va d, .va (qd (ser ((ts.take i).foldl lst ([], [1])).1, ser ((ts.take i).foldl lst ([], [1])).2)), z2, z3]) ?_ ⟨.un, .un, by rw [List.take_zero]; show _ = [Sl.va d, Sl.va (qd ((0 : PS), ser [1])), _, _]; rw [ser_one1]⟩ ?_
  · rintro i en dd hi ⟨z2, z3, rfl⟩
    rw [List.getElem?_map] at hi
    cases hx : ts[i]? with
    | none => rw [hx] at hi; cases hi
    | some t =>
      rw [hx] at hi
      cases Option.some.inj hi
      have hil := (List.getElem?_eq_some_iff.mp hx).1
      have h3 := hT.2.2
      obtain ⟨g1, g2, g3⟩ := hT.1 t (List.mem_of_getElem? hx)
      have l0 := (hT.take i).ls _ rfl
      have l1 := (hT.take (i + 1)).ls _ rfl
      rw [List.length_take, Nat.min_eq_left (by omega)] at l0 l1
      have estep : (ts.take (i + 1)).foldl lst ([], [1]) = lst ((ts.take i).foldl lst ([], [1])) t := by
        rw [List.take_succ, hx]
        show ((ts.take i) ++ [t]).foldl lst _ = _
        rw [List.foldl_append]
        rfl
      rw [estep] at l1 ⊢
      have lq := l1.qc
      obtain ⟨s1, s2⟩ := lst_ser ((ts.take i).foldl lst ([], [1])) t
      rw [s1, s2] at lq ⊢
      obtain ⟨mb, hmb, _⟩ := l0.mn
      have za := l0.za.mono (n := 7) (k := 900) (by omega) (by omega)
      have zb := l0.zb.mono (n := 7) (k := 50) (by omega) (by omega)
      generalize (ts.take i).foldl lst ([], [1]) = S at *
      have zp := pc_z g1
      have mp := pc_mn g1
      have e1 := hl.z zp (by omega)
      have zd : Z 2 11 (der (ser t.2)) := (zp.der (l := 2) (by decide)).mono (by decide) (by decide)
      have e2 := hc.z (zd.mono (n := 2) (k := 200) (by omega) (by omega)) g3 (by omega)
      have zc : Z 2 211 (PS.C t.1 * der (ser t.2)) := (zd.smul g3).mono (by omega) (by omega)
      have e3 := hq (PS.C t.1 * der (ser t.2)) (ser t.2) 3 3 300 5 (zc.mono (by omega) (by omega)) (zp.mono (by omega) (by omega)) mp.dg.ne (by unfold QuotOk ComOk cb; decide)
      have q1 : qc (PS.C t.1 * der (ser t.2)) (ser t.2) = (PS.C t.1 * der (ser t.2), ser t.2) := qc_of ⟨((pc_der g1).smul g2).symm, zc.pl, ⟨_, mp⟩, rfl⟩ zc.pl zp.pl mp.dg.ne
      rw [q1] at e3
      have e4 := hs (ser S.1, ser S.2) (PS.C t.1 * der (ser t.2), ser t.2) 7 7 900 50 2 3 211 9 6 9 9 za zb zc zp hmb.dg.ne mp.dg.ne (by unfold QuotOk ComOk cb; decide)
      simp only at e4
      rw [lq] at e4
      have ep := pc_po g1
      refine ⟨[.va d, .va (qd (ser S.1 * ser t.2 + PS.C t.1 * der (ser t.2) * ser S.2, ser S.2 * ser t.2)), .va (fr t.1), .va (po (ser t.2))], .inl ?_, _, _, rfl⟩
      unfold tm
      rw [ep]
      simp only [Nat.zero_add, bindT_tpt, bindTs_cons, bindT_nm, bindTs_nil, R.bind_ok, List.set_cons_succ, List.set_cons_zero]
      simp [val, e1, e2, e3, e4]
  · rintro en ⟨z2, z3, rfl⟩
    rw [List.length_map, List.take_length]
    simp [val]
end
end AW

/-! AwK62c: the law's values, slopes and pieces. -/
namespace AW
open PySem PySem.Spec PyProof.Rows
section
variable {G : Nat → D} {c : Nat → List Sl → R (D × Bool)} {T : List Fn} {nm : Nm}
/-- a product with a pair turned about -/
def SpByT (c : Nat → List Sl → R (D × Bool)) (j : Nat) : Prop := ∀ q u : Rat, Ok q → Ok u → u ≠ 0 → c j [.va (fr q), .va (.tuple [.int (u.den : Int), .int u.num])] = va (fr (q * u⁻¹))
theorem by_t_ok {jf : Nat} (hf : SpFrac c jf) {q u : Rat} (hq : Ok q) (hu : Ok u) (u0 : u ≠ 0) : bo G c T (b_by jf) [.va (fr q), .va (.tuple [.int (u.den : Int), .int u.num])] 0 = va (fr (q * u⁻¹)) := by
  have hn : u.num ≠ 0 := by rw [Ne, Rat.num_eq_zero]; exact u0
  have hd : ((q.den : Int) * u.num) ≠ 0 := Int.mul_ne_zero (by have := q.den_pos; omega) hn
  have h := hf (q.num * u.den) (q.den * u.num) hd
  rw [mul_inv_divInt u0] at h
  have m1 : mulOk q.num (u.den : Int) = true := hq.nd hu
  have m2 : mulOk (q.den : Int) u.num = true := mulOk_le hq.2 hu.1 (by decide)
  have i0 : sem2 .idx (fr q) (.int 0) = v1 (.int q.num) := rfl
  have i1 : sem2 .idx (fr q) (.int 1) = v1 (.int (q.den : Int)) := rfl
  have k0 : sem2 .idx (.tuple [.int (u.den : Int), .int u.num]) (.int 0) = v1 (.int (u.den : Int)) := rfl
  have k1 : sem2 .idx (.tuple [.int (u.den : Int), .int u.num]) (.int 1) = v1 (.int u.num) := rfl
  generalize fr (q * u⁻¹) = W at *
  generalize fr q = F at *
  generalize PyData.tuple [.int (u.den : Int), .int u.num] = F2 at *
  unfold bo b_by
  simp [val, i0, i1, k0, k1, m1, m2, h]
/-- the law's value at a place -/
structure SpLAt (c : Nat → List Sl → R (D × Bool)) (j : Nat) : Prop where
  tup : ∀ (p : List Rat) (x : Rat) (b d : Nat), BdL b p → Bd d x → (p.length + 1) * (b + d + 1) ≤ 40000000 → c j [.va (pol p), .va (fr x)] = va (fr (hv p x))
  lst : ∀ (p : List Rat) (x : Rat) (b d : Nat), BdL b p → Bd d x → (p.length + 1) * (b + d + 1) ≤ 40000000 → c j [.va (.list (p.map fr)), .va (fr x)] = va (fr (hv p x))
theorem lat_go {jp jb : Nat} (hp : SpPlus c jp) (hb : SpBy c jb) {p : List Rat} {x : Rat} {b d : Nat} (h1 : BdL b p) (h2 : Bd d x) (h3 : (p.length + 1) * (b + d + 1) ≤ 40000000) {D0 X : D} {f : Bool} (hr : semRev D0 = .ok (X, f)) (hs : seqR X = .ok (p.map fr).reverse) :
    bo G c T (b_law_at jp jb) [.va D0, .va (fr x)] 2 = va (fr (hv p x)) := by
  rw [Nat.add_mul] at h3
  have c2 : (2 : Nat) ≤ line := by unfold line; omega
  unfold bo b_law_at
  simp [val, es_for, c2, z01, hr, hs]
  refine forR_then (P := fun r => outF (r.bind _) = _) (I := fun i en => ∃ z, en = [.va D0, .va (fr x), .va (fr (hv (p.reverse.take i).reverse x)), z]) ?_ ⟨.un, rfl⟩ ?_
  · rintro i en dd hi ⟨z, rfl⟩
    rw [← List.map_reverse, List.getElem?_map] at hi
    cases ha : p.reverse[i]? with
    | none => rw [ha] at hi; cases hi
    | some a =>
      rw [ha] at hi
      cases Option.some.inj hi
      have hm : a ∈ p := List.mem_reverse.mp (List.mem_of_getElem? ha)
      have hlt : i < p.length := by have := (List.getElem?_eq_some_iff.mp ha).1; simpa using this
      have hB : BdL b (p.reverse.take i).reverse := fun y hy => h1 y (List.mem_reverse.mp (List.mem_of_mem_take (List.mem_reverse.mp hy)))
      have hv1 := Bd.hv h2 hB
      have hle : (p.reverse.take i).reverse.length * (b + d + 1) ≤ p.length * (b + d + 1) := Nat.mul_le_mul_right _ (by simp; omega)
      have o1 : Ok (hv (p.reverse.take i).reverse x) := Ok.of hv1 (by omega)
      have o2 : Ok x := Ok.of h2 (by omega)
      have o3 : Ok (hv (p.reverse.take i).reverse x * x) := Ok.of (hv1.mul h2) (by omega)
      have e1 := hb _ _ o1 o2
      have e2 := hp _ a o3 (Ok.of (h1 a hm) (by omega))
      refine ⟨[.va D0, .va (fr x), .va (fr (hv (p.reverse.take i).reverse x * x + a)), .va (fr a)], .inl ?_, .va (fr a), ?_⟩
      · simp [val, e1, e2]
      · rw [take_snoc ha, List.reverse_append]
        show _ = [_, _, Sl.va (fr (a + x * hv (p.reverse.take i).reverse x)), _]
        rw [show hv (p.reverse.take i).reverse x * x + a = a + x * hv (p.reverse.take i).reverse x by grind]
  · rintro en ⟨z, rfl⟩
    have e : (p.reverse.take (p.map fr).reverse.length).reverse = p := by
      rw [List.length_reverse, List.length_map, List.take_of_length_le (by simp), List.reverse_reverse]
    rw [e]
    simp [val]
theorem lat_tup {jp jb : Nat} (hp : SpPlus c jp) (hb : SpBy c jb) {p : List Rat} {x : Rat} {b d : Nat} (h1 : BdL b p) (h2 : Bd d x) (h3 : (p.length + 1) * (b + d + 1) ≤ 40000000) : bo G c T (b_law_at jp jb) [.va (pol p), .va (fr x)] 2 = va (fr (hv p x)) :=
  lat_go hp hb h1 h2 h3 (X := .tuple (p.map fr).reverse) rfl rfl
theorem lat_lst {jp jb : Nat} (hp : SpPlus c jp) (hb : SpBy c jb) {p : List Rat} {x : Rat} {b d : Nat} (h1 : BdL b p) (h2 : Bd d x) (h3 : (p.length + 1) * (b + d + 1) ≤ 40000000) : bo G c T (b_law_at jp jb) [.va (.list (p.map fr)), .va (fr x)] 2 = va (fr (hv p x)) :=
  lat_go hp hb h1 h2 h3 (X := .list (p.map fr).reverse) rfl rfl
/-- the law's slope: a list -/
def SpLSl (c : Nat → List Sl → R (D × Bool)) (j : Nat) : Prop := ∀ p : List Rat, OkL p → p.length ≤ 1000 → c j [.va (pol p)] = .ok (.list ((derL p).map fr), true)
theorem lsl_ok {jb : Nat} (hb : SpBy c jb) {p : List Rat} (h1 : OkL p) (l1 : p.length ≤ 1000) : bo G c T (b_law_slope jb) [.va (pol p)] 2 = .ok (.list ((derL p).map fr), true) := by
  have c2 : (2 : Nat) ≤ line := by unfold line; omega
  have esl : semSl (pol p) (some 1) none = v1 (.tuple ((p.drop 1).map fr)) := by
    show v1 (PyData.tuple (cutL (p.map fr) (some ((1 : Nat) : Int)) none)) = _
    rw [cutL_from, List.map_drop]
  unfold bo b_law_slope
  simp [val]
  rw [cmp_of (xs := enumN 0 (p.drop 1)) (e := fun (z : Nat × Rat) => .tuple [.int (z.1 : Nat), fr z.2]) (h := fun (z : Nat × Rat) => fr ((((z.1 + 1 : Nat) : Int) : Rat) * z.2)) ?_ (by rw [enumN_len, List.length_drop]; unfold line; omega) ?_]
  · have e : (enumN 0 (p.drop 1)).map (fun (z : Nat × Rat) => fr ((((z.1 + 1 : Nat) : Int) : Rat) * z.2)) = (derL p).map fr := by unfold derL; rw [List.map_map]; rfl
    rw [e]
    rfl
  · simp [val, esl]
    rw [← List.map_tail, enumD_map]
  · intro z hz
    obtain ⟨i, hi⟩ := List.mem_iff_getElem?.mp hz
    rw [enumN_get] at hi
    cases hx : (p.drop 1)[i]? with
    | none => rw [hx] at hi; cases hi
    | some x =>
      rw [hx] at hi
      have hi : (0 + i, x) = z := Option.some.inj hi
      subst hi
      have hm : x ∈ p := List.mem_of_mem_drop (List.mem_of_getElem? hx)
      have hlt := (List.getElem?_eq_some_iff.mp hx).1
      rw [List.length_drop] at hlt
      have hsz : (2 : Nat) ^ 20 = 1048576 := by decide
      generalize hk : 0 + i = k at *
      have o1 : Ok ((((k : Int) + 1 : Int)) : Rat) := Ok.of (Bd.int (b := 20) (by omega)) (by decide)
      have e2 := hb x _ (h1 x hm) o1
      rw [fr_int] at e2
      have e3 : x * ((((k : Int) + 1 : Int)) : Rat) = ((((k + 1 : Nat) : Int)) : Rat) * x := by
        rw [Rat.mul_comm]; rfl
      rw [e3] at e2
      simp only [bindT_tpt, bindTs_cons, bindT_nm, bindTs_nil, R.bind_ok]
      simp [val, wipe, c2, e2]
/-- the law's pieces -/
def SpPcs (c : Nat → List Sl → R (D × Bool)) (j : Nat) : Prop := ∀ x : Int, ∃ L : List (List Rat), L.length ≤ 4 ∧ L.Nodup ∧ (∀ p ∈ L, p ∈ pcs) ∧ c j [.va (.int x), .va (.int 6)] = .ok (.list (L.map fun p => .list (p.map fr)), true)
theorem eqv_lfr (p q : List Rat) : (PyData.list (p.map fr)).eqv (.list (q.map fr)) = decide (p = q) := eqvAll_map eqv_fr p q
theorem pieces_ok {jm : Nat} (hm : SpMix c jm) (x : Int) : ∃ L : List (List Rat), L.length ≤ 4 ∧ L.Nodup ∧ (∀ p ∈ L, p ∈ pcs) ∧ bo G c T (b_law_pieces jm) [.va (.int x), .va (.int 6)] 5 = .ok (.list (L.map fun p => .list (p.map fr)), true) := by
  have p60 : (2 : Nat) ^ 60 = 1152921504606846976 := by decide
  have c0 : (0 : Nat) ≤ line := Nat.zero_le _
  have c2 : (2 : Nat) ≤ line := by unfold line; omega
  have c3 : (3 : Nat) ≤ line := by unfold line; omega
  have c5 : (5 : Nat) ≤ line := by unfold line; omega
  have c8 : (8 : Nat) ≤ line := by unfold line; omega
  have hr : rngR 0 4 = .ok ((List.range 4).map fun (k : Nat) => .int (k : Int)) := rngR_nat 4 (by omega)
  obtain ⟨tab, htab⟩ : ∃ tab : List D, tab = pcs.map fun p => .list (p.map fr) := ⟨_, rfl⟩
  have etab : tab = [.list [.tuple [.int 0, .int 1], .tuple [.int 1, .int 1]], .list [.tuple [.int (-1), .int 1], .tuple [.int 1, .int 1]], .list [.tuple [.int 1, .int 1], .tuple [.int 1, .int 1]], .list [.tuple [.int (-1), .int 2], .tuple [.int 1, .int 1]], .list [.tuple [.int 3, .int 1], .tuple [.int 1, .int 1]],
      .list [.tuple [.int 1, .int 1], .tuple [.int 0, .int 1], .tuple [.int 1, .int 1]], .list [.tuple [.int (-2), .int 1], .tuple [.int 0, .int 1], .tuple [.int 1, .int 1]], .list [.tuple [.int 1, .int 1], .tuple [.int 1, .int 1], .tuple [.int 1, .int 1]]] := by rw [htab]; rfl
  obtain ⟨P, hP⟩ : ∃ P : R (D × Bool) → Prop, P = (fun r => ∃ L : List (List Rat), L.length ≤ 4 ∧ L.Nodup ∧ (∀ p ∈ L, p ∈ pcs) ∧ r = .ok (.list (L.map fun p => .list (p.map fr)), true)) := ⟨_, rfl⟩
  have key : P (bo G c T (b_law_pieces jm) [.va (.int x), .va (.int 6)] 5) := by
    unfold bo b_law_pieces
    simp [val, es_for, c0, c2, c3, c5, c8, hr]
    rw [← etab]
    refine forR_then (P := fun r => P (outF (r.bind _))) (I := fun i en => ∃ (L : List (List Rat)) (t : Int) (z5 z6 : Sl), en = [.va (.int x), .va (.int 6), .va (.list tab), .ow (L.map fun p => .list (p.map fr)), .va (.int t), z5, z6] ∧ L.length ≤ i ∧ L.Nodup ∧ ∀ p ∈ L, p ∈ pcs) ?_ ⟨[], 6, _, _, rfl, by simp, List.nodup_nil, fun p hp => by cases hp⟩ ?_
    · rintro i en dd hi ⟨L, t, z5, z6, rfl, i1, i2, i3⟩
      rw [List.getElem?_map] at hi
      cases hk : (List.range 4)[i]? with
      | none => rw [hk] at hi; cases hi
      | some k =>
        rw [hk] at hi
        cases Option.some.inj hi
        have hi4 : i < 4 := by have := (List.getElem?_eq_some_iff.mp hk).1; simpa using this
        have hk4 : k < 4 := List.mem_range.mp (List.mem_of_getElem? hk)
        have e2 := hm x (10 + (k : Int)) (by omega)
        have n2 := (mixV_nn x (10 + (k : Int))).1
        generalize mixV x (10 + (k : Int)) = w at *
        have u8 := fmd (x := w) 8 (by decide)
        obtain ⟨d, hd, ed⟩ := atD_mem (xs := tab) (i := w % 8) (by omega) (by rw [htab, List.length_map]; show w % 8 < 8; omega)
        rw [htab] at hd
        obtain ⟨p, hp, rfl⟩ := List.mem_map.mp hd
        have shL : Shp 3 (.list (L.map fun p => PyData.list (p.map fr))) := Shp.lst fun d hd => by
          obtain ⟨q, _, rfl⟩ := List.mem_map.mp hd
          exact shp_row q
        have enin : sem2 .nin (.list (p.map fr)) (.list (L.map fun p => PyData.list (p.map fr))) = v1 (.bool (!decide (p ∈ L))) := by
          have e : sem2 .nin (.list (p.map fr)) (.list (L.map fun p => PyData.list (p.map fr))) = v1 (.bool (!(L.map fun p => PyData.list (p.map fr)).any fun z => z.eqv (.list (p.map fr)))) := if_pos ⟨(shp_row p).ok (by decide), shL.ok (by decide)⟩
          rw [e, List.any_map]
          congr 3
          rw [Bool.eq_iff_iff, List.any_eq_true, decide_eq_true_iff]
          constructor
          · rintro ⟨q, hq, h⟩
            have h : (PyData.list (q.map fr)).eqv (.list (p.map fr)) = true := h
            rw [eqv_lfr] at h
            rw [← of_decide_eq_true h]
            exact hq
          · intro h
            exact ⟨p, h, by show (PyData.list (p.map fr)).eqv (.list (p.map fr)) = true; rw [eqv_lfr]; simp⟩
        have lp : sem1 .len (.list (p.map fr)) = v1 (.int (p.length : Int)) := by simp
        have hlt : (L.map fun p => PyData.list (p.map fr)).length < line := by rw [List.length_map]; unfold line; omega
        have eapp : ((L ++ [p]).map fun p => PyData.list (p.map fr)) = (L.map fun p => PyData.list (p.map fr)) ++ [.list (p.map fr)] := by rw [List.map_append]; rfl
        by_cases hin : p ∈ L
        · refine ⟨[.va (.int x), .va (.int 6), .va (.list tab), .ow (L.map fun p => .list (p.map fr)), .va (.int t), .va (.int (k : Nat)), .va (.list (p.map fr))], .inl ?_, L, t, _, _, rfl, by omega, i2, i3⟩
          generalize (L.map fun p => PyData.list (p.map fr)) = LL at *
          generalize p.map fr = PP at *
          simp [val, e2, u8, ed, enin, hin]
        · by_cases hle : (p.length : Int) - 1 ≤ t
          · refine ⟨[.va (.int x), .va (.int 6), .va (.list tab), .ow ((L ++ [p]).map fun p => .list (p.map fr)), .va (.int (t - (p.length : Int) + 1)), .va (.int (k : Nat)), .va (.list (p.map fr))], .inl ?_, L ++ [p], _, _, _, rfl, by rw [List.length_append]; simp; omega, ?_, fun q hq => ?_⟩
            · rw [eapp]
              generalize (L.map fun p => PyData.list (p.map fr)) = LL at *
              generalize p.map fr = PP at *
              simp [val, e2, u8, ed, enin, hin, lp, hle, hlt]
            · rw [List.nodup_append]
              exact ⟨i2, by simp, fun a ha b hb => by
                rcases List.mem_cons.mp hb with rfl | hb
                · intro z; rw [z] at ha; exact hin ha
                · cases hb⟩
            · rcases List.mem_append.mp hq with hq | hq
              · exact i3 q hq
              · rcases List.mem_cons.mp hq with rfl | hq
                · exact hp
                · cases hq
          · refine ⟨[.va (.int x), .va (.int 6), .va (.list tab), .ow (L.map fun p => .list (p.map fr)), .va (.int t), .va (.int (k : Nat)), .va (.list (p.map fr))], .inl ?_, L, t, _, _, rfl, by omega, i2, i3⟩
            generalize (L.map fun p => PyData.list (p.map fr)) = LL at *
            generalize p.map fr = PP at *
            simp [val, e2, u8, ed, enin, hin, lp, hle]
    · rintro en ⟨L, t, z5, z6, rfl, i1, i2, i3⟩
      rw [hP]
      rw [List.length_map, List.length_range] at i1
      exact ⟨L, i1, i2, i3, by simp [val]⟩
  rw [hP] at key
  exact key
end
end AW

/-! AwK62d: the law of slopes of logarithms. -/
namespace AW
open PySem PySem.Spec PyProof.Rows
theorem pol_full {F : List Rat} {m : Nat} (h : Dg (ser F) m) (hl : F.length = m + 1) : pol F = po (ser F) := by
  unfold po
  rw [toL_dg h]
  congr 1
  apply List.ext_getElem (by simp [hl])
  intro i h1 h2
  simp
  rw [ser_f]
  simp [List.getD, h1]
theorem tm_tuple (ts : List (Rat × List Rat)) : sem1 .tuple (.list (ts.map tm)) = v1 (.tuple (ts.map tm)) := by simp
section
variable {G : Nat → D} {c : Nat → List Sl → R (D × Bool)} {T : List Fn} {nm : Nm}
theorem k62_pairs {jm js jl jt : Nat} (hm : SpMix c jm) (hs : SpPlus c js) (hl : SpFrac c jl) (ht : SpLProd c jt) {x : Int} (x0 : 0 ≤ x) {L : List (List Rat)} (hL : L.length ≤ 3) (hn : L.Nodup) (hp : ∀ p ∈ L, p ∈ pcs) {NS k : D} {y0 : Rat} (hy0 : Bd 40 y0) (z6 z7 z8 z9 z10 z11 z12 z13 : Sl) :
    ∃ (ts : List (Rat × List Rat)) (F : List Rat) (m : Nat) (z5 z8' z9' z10' : Sl), Tm ts ∧ ser F = ser (ts.foldl lst ([], [1])).2 ∧ Dg (ser F) m ∧ F.length = m + 1 ∧
    forR (bindT (.tp (.cons (.nm 8) (.cons (.nm 9) .nil)))) (evSs G c (dflT T) (.cons (.asg (.nm 10) (.op2 .mod (.op2 .mul (.call jm (.cons (.var 2) (.cons (.op2 .add (.con (.int 30)) (.var 8)) .nil)) 0) (.con (.int 499))) (.op2 .idx (.lst (.cons (.op2 .pow (.con (.int 10)) (.con (.int 3))) (.cons (.op2 .pow (.con (.int 10)) (.con (.int 12))) .nil))) (.op2 .mod (.op2 .fdiv (.var 2) (.con (.int 3))) (.con (.int 2)))))) (.cons (.asg (.nm 5) (.call js (.cons (.var 5) (.cons (.call jl (.cons (.op2 .add (.con (.int 1)) (.var 10)) (.cons (.op2 .add (.con (.int 1)) (.op2 .mod (.call jm (.cons (.var 2) (.cons (.op2 .add (.con (.int 40)) (.var 8)) .nil)) 0) (.op2 .pow (.con (.int 10)) (.con (.int 6))))) .nil)) 0) .nil)) 0)) (.cons (.ite (.op2 .eq (.var 5) (.tup (.cons (.con (.int 0)) (.cons (.con (.int 1)) .nil)))) (.cons (.asg (.nm 5) (.tup (.cons (.con (.int 1)) (.cons (.con (.int 1)) .nil)))) .nil) (.nil)) (.cons (.app 3 (.tup (.cons (.var 5) (.cons (.op1 .tuple (.var 9)) .nil)))) (.cons (.asg (.nm 4) (.call jt (.cons (.var 4) (.cons (.var 9) .nil)) 0)) .nil)))))) (enumD (L.map fun p => PyData.list (p.map fr))) [.va NS, .va k, .va (.int x), .ow [], .va (.list ([(1 : Rat)].map fr)), .va (fr y0), z6, z7, z8, z9, z10, z11, z12, z13]
      = .ok (.nx [.va NS, .va k, .va (.int x), .ow (ts.map tm), .va (.list (F.map fr)), z5, z6, z7, z8', z9', z10', z11, z12, z13]) := by
  have p60 : (2 : Nat) ^ 60 = 1152921504606846976 := by decide
  have p40 : (2 : Nat) ^ 40 = 1099511627776 := by decide
  have c2 : (2 : Nat) ≤ line := by unfold line; omega
  rw [enumD_map]
  refine forR_then (P := fun r => ∃ (ts : List (Rat × List Rat)) (F : List Rat) (m : Nat) (z5 z8' z9' z10' : Sl), Tm ts ∧ ser F = ser (ts.foldl lst ([], [1])).2 ∧ Dg (ser F) m ∧ F.length = m + 1 ∧ r = .ok (.nx [.va NS, .va k, .va (.int x), .ow (ts.map tm), .va (.list (F.map fr)), z5, z6, z7, z8', z9', z10', z11, z12, z13]))
    (I := fun i en => ∃ (ts : List (Rat × List Rat)) (F : List Rat) (m : Nat) (y : Rat) (z8' z9' z10' : Sl), en = [.va NS, .va k, .va (.int x), .ow (ts.map tm), .va (.list (F.map fr)), .va (fr y), z6, z7, z8', z9', z10', z11, z12, z13] ∧ ts.map (·.2) = L.take i ∧ (∀ t ∈ ts, t.1 ≠ 0 ∧ Bd 200 t.1) ∧ ser F = ser (ts.foldl lst ([], [1])).2 ∧ Mn (ser F) m ∧ F.length = m + 1 ∧ m ≤ 2 * i ∧ Hb (14 * i) (ser F) ∧ Bd (40 + 42 * i) y) ?_
    ⟨[], [1], 0, y0, _, _, _, rfl, by simp, (fun t ht => by cases ht), rfl, by rw [ser_one1]; exact Mn.one, rfl, by omega, by rw [ser_one1]; exact Hb.one _, hy0⟩ ?_
  · rintro i en dd hi ⟨ts, F, m, y, y8, y9, y10, rfl, i1, i2, i3, i4, i5, i6, i7, i8⟩
    rw [List.getElem?_map, enumN_get] at hi
    cases hx : L[i]? with
    | none => rw [hx] at hi; cases hi
    | some p =>
      rw [hx] at hi
      cases Option.some.inj hi
      have hil := (List.getElem?_eq_some_iff.mp hx).1
      have hpp := hp p (List.mem_of_getElem? hx)
      have zp := pc_z hpp
      have mp := pc_mn hpp
      have lp := pc_len hpp
      have e30 := hm x (30 + (i : Int)) (by omega)
      have n30 := mixV_nn x (30 + (i : Int))
      have e40 := hm x (40 + (i : Int)) (by omega)
      have n40 := mixV_nn x (40 + (i : Int))
      generalize mixV x (30 + (i : Int)) = w3 at *
      generalize mixV x (40 + (i : Int)) = w4 at *
      have mo : mulOk w3 499 = true := mulOk_small_r (by decide)
      have u2 := fdm x0 3 2 (by decide) (by decide)
      obtain ⟨d, hd, ed⟩ := atD_mem (xs := [PyData.int 1000, .int 1000000000000]) (i := x / 3 % 2) (by omega) (by show x / 3 % 2 < 2; omega)
      obtain ⟨M, rfl, M1, M2⟩ : ∃ M : Int, d = .int M ∧ 1 ≤ M ∧ M ≤ 1000000000000 := by
        simp only [List.mem_cons, List.not_mem_nil, or_false] at hd
        rcases hd with rfl | rfl <;> exact ⟨_, rfl, by decide, by decide⟩
      have M0 : ¬ (M = 0) := by omega
      have um : (w3 * 499).fmod M = w3 * 499 % M := fmd M (by omega)
      have r1 := Int.emod_nonneg (w3 * 499) M0
      have r2 := Int.emod_lt_of_pos (w3 * 499) (show 0 < M by omega)
      have u4 := fmd (x := w4) 1000000 (by decide)
      have efr := hl (1 + w3 * 499 % M) (1 + w4 % 1000000) (by omega)
      obtain ⟨d1, d2⟩ := divInt_le (a := 1 + w3 * 499 % M) (b := 1 + w4 % 1000000) (by omega)
      have bdi : Bd 41 (Rat.divInt (1 + w3 * 499 % M) (1 + w4 % 1000000)) := by
        have p41 : (2 : Nat) ^ 41 = 2199023255552 := by decide
        exact ⟨by omega, by omega⟩
      generalize Rat.divInt (1 + w3 * 499 % M) (1 + w4 % 1000000) = q at *
      generalize w3 * 499 % M = more at *
      have es := hs y q (Ok.of i8 (by omega)) (Ok.of bdi (by decide))
      have bs : Bd (40 + 42 * (i + 1)) (y + q) := (i8.add bdi).mono (by omega)
      obtain ⟨y', hy', by', ite_⟩ : ∃ y' : Rat, y' ≠ 0 ∧ Bd (40 + 42 * (i + 1)) y' ∧ (if y + q = 0 then (1 : Rat) else y + q) = y' := by
        by_cases h : y + q = 0
        · exact ⟨1, by decide, Bd.one _, if_pos h⟩
        · exact ⟨y + q, h, bs, if_neg h⟩
      obtain ⟨F2, g1, g2, g3⟩ := ht F p _ _ 3 i7 zp.hb (by omega)
      have hT : ((ts ++ [(y', p)]).map tm) = ts.map tm ++ [.tuple [fr y', .tuple (p.map fr)]] := by rw [List.map_append]; rfl
      have hlt : (ts.map tm).length < line := by
        have := congrArg List.length i1
        rw [List.length_map, List.length_take] at this
        rw [List.length_map]; unfold line; omega
      refine ⟨[.va NS, .va k, .va (.int x), .ow ((ts ++ [(y', p)]).map tm), .va (.list (F2.map fr)), .va (fr y'), z6, z7, .va (.int (i : Nat)), .va (.list (p.map fr)), .va (.int more), z11, z12, z13], .inl ?_, ts ++ [(y', p)], F2, m + (p.length - 1), y', _, _, _, rfl, ?_, ?_, ?_, ?_, by omega, by omega, ?_, by'⟩
      · rw [hT]
        have s1 : sem1 .tuple (.list (p.map fr)) = v1 (.tuple (p.map fr)) := by simp
        have o1 : PyData.tuple [.int 1, .int 1] = fr 1 := rfl
        simp only [Nat.zero_add, bindT_tpt, bindTs_cons, bindT_nm, bindTs_nil, R.bind_ok, List.set_cons_succ, List.set_cons_zero]
        generalize F2.map fr = FF2 at *
        generalize F.map fr = FF at *
        generalize p.map fr = PP at *
        generalize ts.map tm = TT at *
        by_cases h : y + q = 0
        · rw [if_pos h] at ite_
          subst ite_
          rw [h] at es
          simp [val, e30, e40, mo, u2, ed, M0, um, u4, efr, es, c2, z01, o1, hlt, g3]
        · rw [if_neg h] at ite_
          subst ite_
          simp [val, e30, e40, mo, u2, ed, M0, um, u4, efr, es, c2, z01, o1, hlt, g3, h]
      · rw [List.map_append, i1, List.take_succ, hx]; rfl
      · intro t ht'
        rcases List.mem_append.mp ht' with ht' | ht'
        · exact i2 t ht'
        · rcases List.mem_cons.mp ht' with rfl | ht'
          · exact ⟨hy', by'.mono (by omega)⟩
          · cases ht'
      · rw [List.foldl_append]
        show _ = ser (lst _ (y', p)).2
        rw [(lst_ser _ _).2, g2, i3]
      · rw [g2]; exact i4.mul mp
      · rw [g2]
        exact (i7.mul zp.hb (lt_ser F) (l := 3) (by omega)).mono (by omega)
  · rintro en ⟨ts, F, m, y, y8, y9, y10, rfl, i1, i2, i3, i4, i5, i6, i7, i8⟩
    rw [List.length_map, enumN_len, List.take_length] at i1
    refine ⟨ts, F, m, _, _, _, _, ⟨fun t ht => ⟨?_, i2 t ht⟩, by rw [i1]; exact hn, ?_⟩, i3, i4.dg, i5, rfl⟩
    · exact hp _ (by rw [← i1]; exact List.mem_map.mpr ⟨t, ht, rfl⟩)
    · have := congrArg List.length i1
      rw [List.length_map] at this
      omega
end
end AW

/-! AwK04: how often and the rest; by nought it is refused. -/
namespace AW
open PySem PySem.Spec PyProof.Rows
section
variable {G : Nat → D} {c : Nat → List Sl → R (D × Bool)} {T : List Fn} {nm : Nm}
def SpPart2 (c : Nat → List Sl → R (D × Bool)) (j : Nat) : Prop := ∀ x : Int, 0 ≤ x → x < 2147483629 → ∃ q : Rat, Bd 93 q ∧ c j [.va (.int x)] = va (fr q)
theorem part2_ok {jm jl : Nat} (hm : SpMix c jm) (hl : SpFrac c jl) {x : Int} (h0 : 0 ≤ x) (h1 : x < 2147483629) : ∃ q : Rat, Bd 93 q ∧ bo G c T (b_law_part jm jl) [.va (.int x)] 3 = va (fr q) := by
  obtain ⟨f, hf⟩ := part_ok (G := G) (T := T) hm hl
  exact ⟨f x, hf x h0 h1⟩
theorem SpPart2.sp {j : Nat} (h : SpPart2 c j) : SpPart c j := by
  have h : ∀ x : Int, ∃ q : Rat, 0 ≤ x → x < 2147483629 → Bd 93 q ∧ c j [.va (.int x)] = va (fr q) := fun x => by
    by_cases hx : 0 ≤ x ∧ x < 2147483629
    · obtain ⟨q, h1⟩ := h x hx.1 hx.2
      exact ⟨q, fun _ _ => h1⟩
    · exact ⟨0, fun a b => absurd ⟨a, b⟩ hx⟩
  exact ⟨fun x => Classical.choose (h x), fun x => Classical.choose_spec (h x)⟩
theorem drawn2_ok {jm js jp : Nat} (hm : SpMix c jm) (hs : SpTrim c js) (hp : SpPart2 c jp) (x : Int) (n : Nat) (hn : n ≤ 1000) : ∃ p, Dr (n + 1) p ∧ bo G c T (b_law_drawn jm js jp) [.va (.int x), .va (.int n)] 2 = va (pol p) := drawn_ok hm hs hp.sp x n hn
def SpDiv0 (c : Nat → List Sl → R (D × Bool)) (j : Nat) : Prop := ∀ d : D, c j [.va d, .va (.tuple [])] = .ex 1
theorem div0_ok {jt kN jb jp jn jr : Nat} (d : D) : bo G c T (b_poly_parted 1 jt kN jb jp jn jr) [.va d, .va (.tuple [])] 7 = .ex 1 := by
  have c0 : (0 : Nat) ≤ line := Nat.zero_le _
  have e : sem2 .eq (.tuple []) (.tuple []) = v1 (.bool true) := by rw [← po_zero]; exact eq_self 0
  unfold bo b_poly_parted
  simp [val, e, c0]
def SpRefd (c : Nat → List Sl → R (D × Bool)) (j : Nat) : Prop := ∀ d : D, c j [.va d] = va (.bool true)
theorem refd_ok {jp : Nat} (hp : SpDiv0 c jp) (d : D) : bo G c T (b_law_refused jp) [.va d] 3 = va (.bool true) := by
  have c0 : (0 : Nat) ≤ line := Nat.zero_le _
  have e := hp d
  unfold bo b_law_refused
  simp [val, e, c0, erTy]
theorem Dr.z {n : Nat} {p : List Rat} (h : Dr n p) : Z n (94 * n) (ser p) ∧ pol p = po (ser p) := by
  refine ⟨⟨(lt_ser p).mono h.len, (Hb.ser h.bd).mono ?_⟩, ?_⟩
  · rw [Nat.mul_comm]
    exact Nat.mul_le_mul (Nat.le_refl _) h.len
  · unfold po
    rw [toL_ser, h.tr]
theorem in_bools : sem2 .inn (.bool false) (.list [.bool true, .bool true]) = v1 (.bool false) := by
  have h1 : SeqAt.shaped (.bool false) = true := by decide +kernel
  have h2 : SeqAt.shaped (.list [.bool true, .bool true]) = true := by decide +kernel
  show (if SeqAt.shaped (.bool false) = true ∧ SeqAt.shaped (PyData.list [.bool true, .bool true]) = true then v1 (.bool (([.bool true, .bool true] : List D).any fun z => z.eqv (.bool false))) else .no) = _
  rw [if_pos ⟨h1, h2⟩]
  rfl
theorem law_k04 {jm jd jl jt jp ji ja jr : Nat} (hm : SpMix c jm) (hd : SpDrawn c jd) (hl : SpFrac c jl) (ht : SpProdZ c jt) (hp : SpDiv c jp) (hi : SpIsPo c ji) (ha : SpSum c ja) (hr : SpRefd c jr) (ns : List Int) (hn : ns.length ≤ 1000) :
    bo G c T (b_law_10 jm jd jl jt jp ji ja jr) [.va (.list (ns.map .int))] 10 = va (.bool true) := by
  have p60 : (2 : Nat) ^ 60 = 1152921504606846976 := by decide
  have c0 : (0 : Nat) ≤ line := Nat.zero_le _
  have c1 : (1 : Nat) ≤ line := by unfold line; omega
  have c2 : (2 : Nat) ≤ line := by unfold line; omega
  have es : semSl (.list (ns.map .int)) none (some 40) = .ok (.list ((ns.take 40).map .int), true) := by
    show R.ok (PyData.list (cutL (ns.map .int) none (some ((40 : Nat) : Int))), true) = _
    rw [cutL_to, List.map_take]
  have ea : sem2 .add (.list ((ns.take 40).map .int)) (.list [.int 0, .int 1]) = .ok (.list ((ns.take 40 ++ [0, 1]).map .int), true) := by
    show (if _ ≤ line then _ else _) = _
    rw [if_pos (by rw [List.length_map, List.length_take]; show _ + 2 ≤ _; unfold line; omega), List.map_append]
    rfl
  obtain ⟨ks, hks⟩ : ∃ ks, ks = ns.take 40 ++ [0, 1] := ⟨_, rfl⟩
  rw [← hks] at ea
  have lk : ks.length ≤ 42 := by rw [hks, List.length_append, List.length_take]; simp; omega
  have sq : seqR (.list (ks.map .int)) = .ok (ks.map .int) := rfl
  generalize (ns.take 40).map PyData.int = TK at *
  generalize ns.map PyData.int = NS at *
  unfold bo b_law_10
  simp [val, es_for, es, ea, sq, c2]
  rw [enumD_map]
  refine forR_then (P := fun r => outF (r.bind _) = _) (I := fun i en => ∃ z1 z2 z3 z4 z5 z6 z7 z8 z9 z10, en = [.va (.list NS), z1, z2, z3, z4, z5, z6, z7, z8, z9, z10]) ?_ ⟨_, _, _, _, _, _, _, _, _, _, rfl⟩ ?_
  · rintro i en d hi' ⟨z1, z2, z3, z4, z5, z6, z7, z8, z9, z10, rfl⟩
    rw [List.getElem?_map, enumN_get] at hi'
    cases hx : ks[i]? with
    | none => rw [hx] at hi'; cases hi'
    | some x =>
      rw [hx] at hi'
      cases Option.some.inj hi'
      have hil := (List.getElem?_eq_some_iff.mp hx).1
      rw [Nat.zero_add]
      have e1 := hm x (i : Int) (by omega)
      obtain ⟨m0, m1⟩ := mixV_nn x (i : Int)
      generalize mixV x (i : Int) = w at *
      have e2 := hm w 2 (by decide)
      have e3 := hm w 3 (by decide)
      have e4 := hm w 4 (by decide)
      obtain ⟨p1, d1, f1⟩ := hd (mixV w 2) 7 (by decide)
      obtain ⟨p2, d2, f2⟩ := hd (mixV w 3) 4 (by decide)
      obtain ⟨p3, d3, f3⟩ := hd (mixV w 4) 3 (by decide)
      have u9 := fmd (x := w) 9 (by decide)
      have v9 := fdv (x := w) 9 (by decide)
      have u4 := fmd (x := w / 9) 4 (by decide)
      have v36 := fdv (x := w) 36 (by decide)
      have u3 := fmd (x := w / 36) 3 (by decide)
      have b0 : (1 : Int) + w / 9 % 4 ≠ 0 := by omega
      have f4 := hl (1 + w % 9) (1 + w / 9 % 4) b0
      obtain ⟨r, hrr⟩ : ∃ r, r = Rat.divInt (1 + w % 9) (1 + w / 9 % 4) := ⟨_, rfl⟩
      have r0 : r ≠ 0 := by
        rw [hrr, Rat.divInt_eq_div]
        have a1 : ((1 + w % 9 : Int) : Rat) ≠ 0 := int_ne (by omega)
        have a2 : ((1 + w / 9 % 4 : Int) : Rat) ≠ 0 := int_ne b0
        intro z
        have : ((1 + w % 9 : Int) : Rat) = 0 := by
          have h1 : ((1 + w % 9 : Int) : Rat) / ((1 + w / 9 % 4 : Int) : Rat) * ((1 + w / 9 % 4 : Int) : Rat) = ((1 + w % 9 : Int) : Rat) := by grind
          rw [← h1, z, Rat.zero_mul]
        exact a1 this
      have br : Bd 93 r := by
        rw [hrr]
        have := divInt_le (a := 1 + w % 9) b0
        have e : (2 : Nat) ^ 93 = 9903520314283042199192993792 := by decide
        exact ⟨by omega, by omega⟩
      rw [← hrr] at f4
      have ead : sem2 .add (pol p2) (.tuple [fr r]) = v1 (pol (p2 ++ [r])) := by
        show (if (p2.map fr).length + 1 ≤ line then _ else _) = _
        have := d2.len
        rw [List.length_map, if_pos (by unfold line; omega)]
        unfold pol
        rw [List.map_append]
        rfl
      have bq : BdL 93 (p2 ++ [r]) := fun y hy => by
        rcases List.mem_append.mp hy with hy | hy
        · exact d2.bd y hy
        · rcases List.mem_cons.mp hy with rfl | hy
          · exact br
          · cases hy
      have dq : Dr 6 (p2 ++ [r]) := ⟨by rw [trim_snoc, if_neg r0], bq, by rw [List.length_append]; have := d2.len; simp; omega⟩
      obtain ⟨za0, g1⟩ := d1.z
      obtain ⟨zb, g2⟩ := dq.z
      obtain ⟨zc, g3⟩ := d3.z
      rw [g1] at f1
      rw [g2] at ead
      rw [g3] at f3
      have nb : ser (p2 ++ [r]) ≠ 0 := fun z => by
        have := toL_ser (p2 ++ [r])
        rw [dq.tr, z, toL_zero] at this
        cases p2 <;> cases this
      generalize ser p1 = a0 at *
      generalize hb' : ser (p2 ++ [r]) = b at *
      generalize ser p3 = s at *
      generalize pol p2 = P2 at *
      have em := ht b s _ _ _ _ 3 zb zc (by omega)
      obtain ⟨a, za, ha0⟩ : ∃ a, Z 10 1100 a ∧ a = if w / 36 % 3 = 1 then b * s else a0 := by
        by_cases h : w / 36 % 3 = 1
        · refine ⟨b * s, ?_, by rw [if_pos h]⟩
          exact (zb.mul zc (l := 3) (by omega)).mono (by omega) (by omega)
        · exact ⟨a0, za0.mono (by omega) (by omega), by rw [if_neg h]⟩
      have ep := hp a b _ _ _ _ za zb nb (by decide)
      obtain ⟨nB, dB⟩ := zb.pl.dg nb
      obtain ⟨q1, q2, q3⟩ := quo_rem dB za.lt
      have nB6 := dB.lt zb.lt
      obtain ⟨zq, zr⟩ := Z.div za (⟨dB.1, zb.hb⟩ : Z (nB + 1) _ b) dB
      have hmB : 10 * (94 * 6 + 1) = 5650 := rfl
      have zq' : Z 10 6750 (quo a b) := zq.mono (by omega) (by omega)
      have zr' : Z 6 6750 (rem a b) := zr.mono (by omega) (by omega)
      have i1 := hi (quo a b) 10 zq'.lt (by decide)
      have i2 := hi (rem a b) 6 zr'.lt (by decide)
      have lr : (toL (rem a b)).length ≤ nB := toL_le q2
      have lb : (toL b).length = nB + 1 := toL_len dB
      have em2 := ht (quo a b) b _ _ _ _ 4 zq' zb (by decide)
      have z1' : Z 20 8000 (quo a b * b) := (zq'.mul zb (l := 4) (by decide)).mono (by decide) (by decide)
      have es1 := ha.z (n := 20) (h := 8000) z1' (zr'.mono (by decide) (by decide)) (by decide)
      rw [← q1] at es1
      have nea := ne_self a
      have hr1 := hr (po a)
      have lq1 := len_po' (rem a b)
      have lq2 := len_po' b
      have hge : ¬ (((toL b).length : Int) ≤ ((toL (rem a b)).length : Int)) := by omega
      have shf : Shp 3 (.tuple [po (quo a b), po (rem a b)]) := Shp.tup fun d hd => by
        rcases List.mem_cons.mp hd with rfl | hd
        · exact Shp.po _
        · rcases List.mem_cons.mp hd with rfl | hd
          · exact Shp.po _
          · cases hd
      have nef := ne_same shf (by decide)
      have hfound : w / 36 % 3 = 1 → (.tuple [po (quo a b), po (rem a b)] : D) = .tuple [po s, .tuple []] := fun h => by
        rw [ha0, if_pos h, show b * s = s * b by grind]
        obtain ⟨e5, e6⟩ := quo_mul zb.pl nb zc.pl
        rw [e5, e6, po_zero]
      have ecmp : ∀ z10 : Sl, evF G c (dflT T) (.cmp (.call ji (.cons (.var 10) .nil) 0) (.nm 10) (.seq (.var 7)) .none [(Nm.n 10, 10)])
          [.va (.list NS), .va (.int (i : Nat)), .va (.int x), .va (.int w), .va (po a), .va (po b), .va (po s), .va (.tuple [po (quo a b), po (rem a b)]), z8, z9, z10] = .ok (.list [.bool true, .bool true], true) := fun z10 => by
        refine cmp_of (xs := [quo a b, rem a b]) (e := fun q => po q) (h := fun _ => .bool true) (by simp [val]) (by show (2 : Nat) ≤ line; exact c2) (fun q hq => ?_)
        rcases List.mem_cons.mp hq with rfl | hq
        · generalize po (quo a b) = Q1 at *
          simp [val, wipe, i1]
        · rcases List.mem_cons.mp hq with rfl | hq
          · generalize po (rem a b) = Q2 at *
            simp [val, wipe, i2]
          · cases hq
      have ecmp := ecmp z10
      have eib := in_bools
      have ety : ∀ xs : List D, isTy (.tuple xs) (.bi "tuple") = true := fun xs => rfl
      refine ⟨[.va (.list NS), .va (.int (i : Nat)), .va (.int x), .va (.int w), .va (po a), .va (po b), .va (po s), .va (.tuple [po (quo a b), po (rem a b)]), .va (po (quo a b)), .va (po (rem a b)), z10], .inl ?_, _, _, _, _, _, _, _, _, _, _, rfl⟩
      have f1' : c jd [.va (.int (mixV w 2)), .va (.int 7)] = va (po a0) := f1
      have f2' : c jd [.va (.int (mixV w 3)), .va (.int 4)] = va P2 := f2
      have f3' : c jd [.va (.int (mixV w 4)), .va (.int 3)] = va (po s) := f3
      by_cases h : w / 36 % 3 = 1
      · have hf := hfound h
        rw [ha0, if_pos h] at *
        rw [hf] at nef
        generalize po (quo (b * s) b) = Q1 at *
        generalize po (rem (b * s) b) = Q2 at *
        generalize po (b * s) = A at *
        generalize po b = B at *
        have nef2 : sem2 .ne (.tuple [Q1, Q2]) (.tuple [po s, .tuple []]) = v1 (.bool false) := by rw [hf]; exact nef
        have nef3 : sem2 .ne (.tuple [Q1, Q2]) (.tuple [Q1, Q2]) = v1 (.bool false) := by rw [hf]; exact nef
        generalize po s = S at *
        generalize fr r = FR at *
        simp [val, e1, e2, e3, e4, f1', f2', f3', u9, v9, u4, v36, u3, f4, c0, c1, c2, ead, em, h, ep, ety, ecmp, eib, lq1, lq2, hge, em2, es1, nea, nef2, nef3, hr1]
      · rw [ha0, if_neg h] at *
        generalize po (quo a0 b) = Q1 at *
        generalize po (rem a0 b) = Q2 at *
        generalize po a0 = A at *
        generalize po b = B at *
        generalize po s = S at *
        generalize fr r = FR at *
        simp [val, e1, e2, e3, e4, f1', f2', f3', u9, v9, u4, v36, u3, f4, c0, c1, c2, ead, em, h, ep, ety, ecmp, eib, lq1, lq2, hge, em2, es1, nea, nef, hr1]
  · rintro en ⟨z1, z2, z3, z4, z5, z6, z7, z8, z9, z10, rfl⟩
    simp [val]
end
end AW

namespace Law
open PySem PySem.Spec PyProof.Rows L2 AW
def top (i : Nat) : Stmt := PySem.Challenge.pw_areawright_k04_how_often_and_rest.main.body.getD i (.Pass ⟨0, 0, 0, 0⟩)
def f0 : Fn := ⟨"is_whole", ["thing"], ["thing"], [], (b_is_whole )⟩
def f1 : Fn := ⟨"common_number", ["one", "other"], ["one", "other"], [], (b_common_number )⟩
def f2 : Fn := ⟨"is_fraction", ["thing"], ["thing", "one"], [], (@b_is_fraction ⟨fun i => ["thing", "one"].getD i ""⟩ 0 1)⟩
def f3 : Fn := ⟨"is_poly", ["thing"], ["thing", "one"], [], (@b_is_poly ⟨fun i => ["thing", "one"].getD i ""⟩ 2 0)⟩
def f4 : Fn := ⟨"fraction", ["over", "under"], ["over", "under", "part"], [(.int 1)], (b_fraction 0 0 1)⟩
def f5 : Fn := ⟨"plus", ["one", "other"], ["one", "other"], [], (b_plus 4)⟩
def f6 : Fn := ⟨"negated", ["one"], ["one"], [], (b_negated )⟩
def f7 : Fn := ⟨"by", ["one", "other"], ["one", "other"], [], (b_by 4)⟩
def f8 : Fn := ⟨"turned", ["one"], ["one"], [], (b_turned 0 4)⟩
def f9 : Fn := ⟨"trimmed", ["row"], ["row", "size"], [], (b_trimmed 0)⟩
def f10 : Fn := ⟨"poly_parted", ["one", "other"], ["one", "other", "last", "rest", "often", "place", "number", "k", "part"], [], (b_poly_parted 1 8 0 7 5 6 9)⟩
def f11 : Fn := ⟨"_law_mixed", ["_law_cell", "_law_k"], ["_law_cell", "_law_k", "_law_number"], [], (b_law_mixed )⟩
def f12 : Fn := ⟨"_law_low", ["_law_over", "_law_under"], ["_law_over", "_law_under", "_law_one", "_law_other"], [], (b_law_low )⟩
def f13 : Fn := ⟨"_law_sum", ["_law_one", "_law_other"], ["_law_one", "_law_other"], [], (b_plus 12)⟩
def f14 : Fn := ⟨"_law_short", ["_law_row"], ["_law_row"], [], (b_law_short )⟩
def f15 : Fn := ⟨"_law_added", ["_law_one", "_law_other"], ["_law_one", "_law_other", "_law_size", "_law_left", "_law_right", "_law_a", "_law_b"], [], (@b_law_added ⟨fun i => ["_law_one", "_law_other", "_law_size", "_law_left", "_law_right", "_law_a", "_law_b"].getD i ""⟩ 14 13)⟩
def f16 : Fn := ⟨"_law_times", ["_law_one", "_law_other"], ["_law_one", "_law_other"], [], (b_by 12)⟩
def f17 : Fn := ⟨"_law_multiplied", ["_law_one", "_law_other"], ["_law_one", "_law_other", "_law_found", "_law_k", "_law_number", "_law_row", "_law_part_here"], [], (@b_law_multiplied ⟨fun i => ["_law_one", "_law_other", "_law_found", "_law_k", "_law_number", "_law_row", "_law_part_here"].getD i ""⟩ 16 15 14)⟩
def f18 : Fn := ⟨"_law_part", ["_law_cell"], ["_law_cell", "_law_far", "_law_over", "_law_under"], [], (b_law_part 11 12)⟩
def f19 : Fn := ⟨"_law_drawn", ["_law_cell", "_law_most"], ["_law_cell", "_law_most", "_law_size", "_law_k"], [], (@b_law_drawn ⟨fun i => ["_law_cell", "_law_most", "_law_size", "_law_k"].getD i ""⟩ 11 14 18)⟩
def f20 : Fn := ⟨"_law_refused", ["_law_one"], ["_law_one", "_law_e", "error", "_law_others"], [], (b_law_refused 10)⟩
def f21 : Fn := ⟨"law", ["_law_script"], ["_law_script", "_law_k", "_law_cell", "_law_draw", "_law_one", "_law_other", "_law_third", "_law_found", "_law_often", "_law_rest", "_law_thing"], [], (@b_law_10 ⟨fun i => ["_law_script", "_law_k", "_law_cell", "_law_draw", "_law_one", "_law_other", "_law_third", "_law_found", "_law_often", "_law_rest", "_law_thing"].getD i ""⟩ 11 19 12 17 10 3 15 20)⟩
def T : List Fn := [f0, f1, f2, f3, f4, f5, f6, f7, f8, f9, f10, f11, f12, f13, f14, f15, f16, f17, f18, f19, f20, f21]
def cons : List (Str × D) := [("NOUGHT", (.tuple [(.int 0), (.int 1)]))]
def clsN : List Str := ["NoFraction", "NoPoly", "NoQuotient", "NoForm", "NoPlace", "NoArea", "NoText", "NoRow", "TooMany", "AreaError"]
def d0 : He.DefD := ⟨("is_whole", none), "is_whole", "is_whole", defArgs (top 12), defBody (top 12), defScope (top 12), [], []⟩
def d1 : He.DefD := ⟨("common_number", none), "common_number", "common_number", defArgs (top 13), defBody (top 13), defScope (top 13), [], []⟩
def d2 : He.DefD := ⟨("is_fraction", none), "is_fraction", "is_fraction", defArgs (top 15), defBody (top 15), defScope (top 15), [], []⟩
def d3 : He.DefD := ⟨("is_poly", none), "is_poly", "is_poly", defArgs (top 23), defBody (top 23), defScope (top 23), [], []⟩
def d4 : He.DefD := ⟨("fraction", none), "fraction", "fraction", defArgs (top 14), defBody (top 14), defScope (top 14), [.int 1], []⟩
def d5 : He.DefD := ⟨("plus", none), "plus", "plus", defArgs (top 16), defBody (top 16), defScope (top 16), [], []⟩
def d6 : He.DefD := ⟨("negated", none), "negated", "negated", defArgs (top 17), defBody (top 17), defScope (top 17), [], []⟩
def d7 : He.DefD := ⟨("by", none), "by", "by", defArgs (top 18), defBody (top 18), defScope (top 18), [], []⟩
def d8 : He.DefD := ⟨("turned", none), "turned", "turned", defArgs (top 19), defBody (top 19), defScope (top 19), [], []⟩
def d9 : He.DefD := ⟨("trimmed", none), "trimmed", "trimmed", defArgs (top 22), defBody (top 22), defScope (top 22), [], []⟩
def d10 : He.DefD := ⟨("poly_parted", none), "poly_parted", "poly_parted", defArgs (top 24), defBody (top 24), defScope (top 24), [], []⟩
def d11 : He.DefD := ⟨("_law_mixed", none), "_law_mixed", "_law_mixed", defArgs (top 26), defBody (top 26), defScope (top 26), [], []⟩
def d12 : He.DefD := ⟨("_law_low", none), "_law_low", "_law_low", defArgs (top 27), defBody (top 27), defScope (top 27), [], []⟩
def d13 : He.DefD := ⟨("_law_sum", none), "_law_sum", "_law_sum", defArgs (top 28), defBody (top 28), defScope (top 28), [], []⟩
def d14 : He.DefD := ⟨("_law_short", none), "_law_short", "_law_short", defArgs (top 30), defBody (top 30), defScope (top 30), [], []⟩
def d15 : He.DefD := ⟨("_law_added", none), "_law_added", "_law_added", defArgs (top 31), defBody (top 31), defScope (top 31), [], []⟩
def d16 : He.DefD := ⟨("_law_times", none), "_law_times", "_law_times", defArgs (top 29), defBody (top 29), defScope (top 29), [], []⟩
def d17 : He.DefD := ⟨("_law_multiplied", none), "_law_multiplied", "_law_multiplied", defArgs (top 32), defBody (top 32), defScope (top 32), [], []⟩
def d18 : He.DefD := ⟨("_law_part", none), "_law_part", "_law_part", defArgs (top 33), defBody (top 33), defScope (top 33), [], []⟩
def d19 : He.DefD := ⟨("_law_drawn", none), "_law_drawn", "_law_drawn", defArgs (top 34), defBody (top 34), defScope (top 34), [], []⟩
def d20 : He.DefD := ⟨("_law_refused", none), "_law_refused", "_law_refused", defArgs (top 35), defBody (top 35), defScope (top 35), [], []⟩
def d21 : He.DefD := ⟨("law", none), "law", "law", defArgs (top 36), defBody (top 36), defScope (top 36), [], []⟩
def ds : List He.DefD := [d0, d1, d2, d3, d4, d5, d6, d7, d8, d9, d10, d11, d12, d13, d14, d15, d16, d17, d18, d19, d20, d21]
def t : Tb := ⟨T, cons, clsN, ds⟩
theorem b0 : BindF f0 d0 := ⟨fun _ _ _ _ _ _ _ us hl => match us, hl with | [_], _ => rfl, fun h => absurd rfl h⟩
theorem b1 : BindF f1 d1 := ⟨fun _ _ _ _ _ _ _ us hl => match us, hl with | [_, _], _ => rfl, fun h => absurd rfl h⟩
theorem b2 : BindF f2 d2 := ⟨fun _ _ _ _ _ _ _ us hl => match us, hl with | [_], _ => rfl, fun h => absurd rfl h⟩
theorem b3 : BindF f3 d3 := ⟨fun _ _ _ _ _ _ _ us hl => match us, hl with | [_], _ => rfl, fun h => absurd rfl h⟩
theorem b4 : BindF f4 d4 := by
  refine ⟨fun h => (nomatch h), fun _ m hm => ?_⟩
  have hm : m ≤ 1 := hm
  have hc : m = 0 ∨ m = 1 := by omega
  rcases hc with rfl | rfl
  · refine ⟨by decide, fun _ _ _ _ _ _ _ us its h1 h2 => ?_⟩
    match us, its, h1, h2 with
    | [_, _], [_], _, _ => exact ⟨_, rfl, rfl⟩
  · refine ⟨by decide, fun _ _ _ _ _ _ _ us its h1 h2 => ?_⟩
    match us, its, h1, h2 with
    | [_], [_], _, _ => exact ⟨_, rfl, rfl⟩
theorem b5 : BindF f5 d5 := ⟨fun _ _ _ _ _ _ _ us hl => match us, hl with | [_, _], _ => rfl, fun h => absurd rfl h⟩
theorem b6 : BindF f6 d6 := ⟨fun _ _ _ _ _ _ _ us hl => match us, hl with | [_], _ => rfl, fun h => absurd rfl h⟩
theorem b7 : BindF f7 d7 := ⟨fun _ _ _ _ _ _ _ us hl => match us, hl with | [_, _], _ => rfl, fun h => absurd rfl h⟩
theorem b8 : BindF f8 d8 := ⟨fun _ _ _ _ _ _ _ us hl => match us, hl with | [_], _ => rfl, fun h => absurd rfl h⟩
theorem b9 : BindF f9 d9 := ⟨fun _ _ _ _ _ _ _ us hl => match us, hl with | [_], _ => rfl, fun h => absurd rfl h⟩
theorem b10 : BindF f10 d10 := ⟨fun _ _ _ _ _ _ _ us hl => match us, hl with | [_, _], _ => rfl, fun h => absurd rfl h⟩
theorem b11 : BindF f11 d11 := ⟨fun _ _ _ _ _ _ _ us hl => match us, hl with | [_, _], _ => rfl, fun h => absurd rfl h⟩
theorem b12 : BindF f12 d12 := ⟨fun _ _ _ _ _ _ _ us hl => match us, hl with | [_, _], _ => rfl, fun h => absurd rfl h⟩
theorem b13 : BindF f13 d13 := ⟨fun _ _ _ _ _ _ _ us hl => match us, hl with | [_, _], _ => rfl, fun h => absurd rfl h⟩
theorem b14 : BindF f14 d14 := ⟨fun _ _ _ _ _ _ _ us hl => match us, hl with | [_], _ => rfl, fun h => absurd rfl h⟩
theorem b15 : BindF f15 d15 := ⟨fun _ _ _ _ _ _ _ us hl => match us, hl with | [_, _], _ => rfl, fun h => absurd rfl h⟩
theorem b16 : BindF f16 d16 := ⟨fun _ _ _ _ _ _ _ us hl => match us, hl with | [_, _], _ => rfl, fun h => absurd rfl h⟩
theorem b17 : BindF f17 d17 := ⟨fun _ _ _ _ _ _ _ us hl => match us, hl with | [_, _], _ => rfl, fun h => absurd rfl h⟩
theorem b18 : BindF f18 d18 := ⟨fun _ _ _ _ _ _ _ us hl => match us, hl with | [_], _ => rfl, fun h => absurd rfl h⟩
theorem b19 : BindF f19 d19 := ⟨fun _ _ _ _ _ _ _ us hl => match us, hl with | [_, _], _ => rfl, fun h => absurd rfl h⟩
theorem b20 : BindF f20 d20 := ⟨fun _ _ _ _ _ _ _ us hl => match us, hl with | [_], _ => rfl, fun h => absurd rfl h⟩
theorem b21 : BindF f21 d21 := ⟨fun _ _ _ _ _ _ _ us hl => match us, hl with | [_], _ => rfl, fun h => absurd rfl h⟩
theorem ck : ckAll T cons clsN T ds = true := by decide +kernel
theorem bd : BindAll T ds := ⟨b0, ⟨b1, ⟨b2, ⟨b3, ⟨b4, ⟨b5, ⟨b6, ⟨b7, ⟨b8, ⟨b9, ⟨b10, ⟨b11, ⟨b12, ⟨b13, ⟨b14, ⟨b15, ⟨b16, ⟨b17, ⟨b18, ⟨b19, ⟨b20, ⟨b21, trivial⟩⟩⟩⟩⟩⟩⟩⟩⟩⟩⟩⟩⟩⟩⟩⟩⟩⟩⟩⟩⟩⟩
theorem says : TbSays t := ⟨by decide +kernel, ck, bd⟩
end Law

namespace Law
open PySem PySem.Spec PyProof.Rows AW
abbrev G : Nat → D := fun x => ((t.cons[x]?).map (·.2)).getD .none
noncomputable abbrev C (k : Nat) : Nat → List Sl → R (D × Bool) := callN G t.T k
theorem h0_SpWhole (k : Nat) (hk : 0 < k) : SpWhole (callN G t.T k) 0 := by
  unfold SpWhole
  intros
  rw [callN_bo (ss := [_]) hk rfl rfl]
  apply whole_ok  <;> assumption
theorem h1_SpGcd (k : Nat) (hk : 1 < k) : SpGcd (callN G t.T k) 1 := by
  unfold SpGcd
  intros
  rw [callN_bo (ss := [_, _]) hk rfl rfl]
  apply gcd_ok  <;> assumption
theorem h2_SpIsFr (k : Nat) (hk : 2 < k) : SpIsFr (callN G t.T k) 2 := by
  unfold SpIsFr
  intros
  rw [callN_bo (ss := [_]) hk rfl rfl]
  apply is_fraction_ok (h0_SpWhole 2 (by decide)) (h1_SpGcd 2 (by decide)) <;> assumption
theorem h3_SpIsPo (k : Nat) (hk : 3 < k) : SpIsPo (callN G t.T k) 3 := by
  unfold SpIsPo
  intros
  rw [callN_bo (ss := [_]) hk rfl rfl]
  apply is_poly_ok rfl (h2_SpIsFr 3 (by decide)) <;> assumption
theorem h4_SpFrac (k : Nat) (hk : 4 < k) : SpFrac (callN G t.T k) 4 := by
  unfold SpFrac
  intros
  rw [callN_bo (ss := [_, _]) hk rfl rfl]
  apply frac_ok (h0_SpWhole 4 (by decide)) (h1_SpGcd 4 (by decide)) <;> assumption
theorem h5_SpPlus (k : Nat) (hk : 5 < k) : SpPlus (callN G t.T k) 5 := by
  unfold SpPlus
  intros
  rw [callN_bo (ss := [_, _]) hk rfl rfl]
  apply plus_ok (h4_SpFrac 5 (by decide)) <;> assumption
theorem h6_SpNeg (k : Nat) (hk : 6 < k) : SpNeg (callN G t.T k) 6 := by
  unfold SpNeg
  intros
  rw [callN_bo (ss := [_]) hk rfl rfl]
  apply negated_ok  <;> assumption
theorem h7_SpBy (k : Nat) (hk : 7 < k) : SpBy (callN G t.T k) 7 := by
  unfold SpBy
  intros
  rw [callN_bo (ss := [_, _]) hk rfl rfl]
  apply by_ok (h4_SpFrac 7 (by decide)) <;> assumption
theorem h7_SpByT (k : Nat) (hk : 7 < k) : SpByT (callN G t.T k) 7 := by
  unfold SpByT
  intros
  rw [callN_bo (ss := [_, _]) hk rfl rfl]
  apply by_t_ok (h4_SpFrac 7 (by decide)) <;> assumption
theorem h8_SpTurn (k : Nat) (hk : 8 < k) : SpTurn (callN G t.T k) 8 := by
  unfold SpTurn
  intros
  rw [callN_bo (ss := [_]) hk rfl rfl]
  apply turned_ok (h4_SpFrac 8 (by decide)) <;> assumption
theorem h9_SpTrim (k : Nat) (hk : 9 < k) : SpTrim (callN G t.T k) 9 := ⟨fun p => (callN_bo (ss := [_]) hk rfl rfl).trans (trimmed_ok rfl p), fun p => (callN_bo (ss := [_]) hk rfl rfl).trans (trimmed_ok' rfl p)⟩
theorem h10_SpDiv (k : Nat) (hk : 10 < k) : SpDiv (callN G t.T k) 10 := by
  unfold SpDiv
  intros
  rw [callN_bo (ss := [_, _]) hk rfl rfl]
  apply parted_ok rfl (h8_SpTurn 10 (by decide)) (h7_SpBy 10 (by decide)) (h5_SpPlus 10 (by decide)) (h6_SpNeg 10 (by decide)) (h9_SpTrim 10 (by decide)) <;> assumption
theorem h10_SpDiv0 (k : Nat) (hk : 10 < k) : SpDiv0 (callN G t.T k) 10 := by
  unfold SpDiv0
  intros
  rw [callN_bo (ss := [_, _]) hk rfl rfl]
  apply div0_ok  <;> assumption
theorem h11_SpMix (k : Nat) (hk : 11 < k) : SpMix (callN G t.T k) 11 := by
  unfold SpMix
  intros
  rw [callN_bo (ss := [_, _]) hk rfl rfl]
  apply mixed_ok  <;> assumption
theorem h12_SpFrac (k : Nat) (hk : 12 < k) : SpFrac (callN G t.T k) 12 := by
  unfold SpFrac
  intros
  rw [callN_bo (ss := [_, _]) hk rfl rfl]
  apply low_ok  <;> assumption
theorem h13_SpPlus (k : Nat) (hk : 13 < k) : SpPlus (callN G t.T k) 13 := by
  unfold SpPlus
  intros
  rw [callN_bo (ss := [_, _]) hk rfl rfl]
  apply plus_ok (h12_SpFrac 13 (by decide)) <;> assumption
theorem h14_SpTrim (k : Nat) (hk : 14 < k) : SpTrim (callN G t.T k) 14 := ⟨fun p => (callN_bo (ss := [_]) hk rfl rfl).trans (short_ok  p), fun p => (callN_bo (ss := [_]) hk rfl rfl).trans (short_ok'  p)⟩
theorem h15_SpSum (k : Nat) (hk : 15 < k) : SpSum (callN G t.T k) 15 := by
  unfold SpSum
  intros
  rw [callN_bo (ss := [_, _]) hk rfl rfl]
  apply added_ok (h14_SpTrim 15 (by decide)) (h13_SpPlus 15 (by decide)) <;> assumption
theorem h16_SpBy (k : Nat) (hk : 16 < k) : SpBy (callN G t.T k) 16 := by
  unfold SpBy
  intros
  rw [callN_bo (ss := [_, _]) hk rfl rfl]
  apply by_ok (h12_SpFrac 16 (by decide)) <;> assumption
theorem h16_SpByT (k : Nat) (hk : 16 < k) : SpByT (callN G t.T k) 16 := by
  unfold SpByT
  intros
  rw [callN_bo (ss := [_, _]) hk rfl rfl]
  apply by_t_ok (h12_SpFrac 16 (by decide)) <;> assumption
theorem h17_SpProdZ (k : Nat) (hk : 17 < k) : SpProdZ (callN G t.T k) 17 := by
  unfold SpProdZ
  intros
  rw [callN_bo (ss := [_, _]) hk rfl rfl]
  apply lmulZ_ok (h16_SpBy 17 (by decide)) (h15_SpSum 17 (by decide)) (h14_SpTrim 17 (by decide)) <;> assumption
theorem h18_SpPart2 (k : Nat) (hk : 18 < k) : SpPart2 (callN G t.T k) 18 := by
  unfold SpPart2
  intros
  rw [callN_bo (ss := [_]) hk rfl rfl]
  apply part2_ok (h11_SpMix 18 (by decide)) (h12_SpFrac 18 (by decide)) <;> assumption
theorem h19_SpDrawn (k : Nat) (hk : 19 < k) : SpDrawn (callN G t.T k) 19 := by
  unfold SpDrawn
  intros
  rw [callN_bo (ss := [_, _]) hk rfl rfl]
  apply drawn2_ok (h11_SpMix 19 (by decide)) (h14_SpTrim 19 (by decide)) (h18_SpPart2 19 (by decide)) <;> assumption
theorem h20_SpRefd (k : Nat) (hk : 20 < k) : SpRefd (callN G t.T k) 20 := by
  unfold SpRefd
  intros
  rw [callN_bo (ss := [_]) hk rfl rfl]
  apply refd_ok (h10_SpDiv0 20 (by decide)) <;> assumption
theorem hlaw (ns : List Int) (hl : ns.length ≤ 63) : callN G t.T 22 21 [.va (.list (ns.map .int))] = .ok (.bool true, false) :=
  (callN_bo (ss := [_]) (by decide) rfl rfl).trans (law_k04 (h11_SpMix 21 (by decide)) (h19_SpDrawn 21 (by decide)) (h12_SpFrac 21 (by decide)) (h17_SpProdZ 21 (by decide)) (h10_SpDiv 21 (by decide)) (h3_SpIsPo 21 (by decide)) (h15_SpSum 21 (by decide)) (h20_SpRefd 21 (by decide)) ns (by omega))
end Law
namespace Law
open PySem PySem.Spec PyProof.Rows L2 AW
def nm0 : List Str := ["__name__", "AreaError", "NoFraction", "NoPoly", "NoQuotient", "NoForm", "NoPlace", "NoArea", "NoText", "NoRow", "TooMany", "is_whole", "common_number", "fraction", "is_fraction", "plus", "negated", "by", "turned", "NOUGHT", "trimmed", "is_poly", "poly_parted", "_law_mixed", "_law_low", "_law_sum", "_law_times", "_law_short", "_law_added", "_law_multiplied"]
def nm1 : List Str := ["_law_part", "_law_drawn", "_law_refused"]
def names : List Str := nm0 ++ nm1
abbrev R : PySem.W.OpenRow := PySem.W.OpenLaw.row PySem.Challenge.rw_areawright_k04_how_often_and_rest
abbrev hk : PySem.W.Hook := hookA 5 t.fx
def ob (s : PySem.W.SharedT) : He.AlD := obsAG 5 t.fx (HandSHeadRun.getT s)
theorem ob_eq (s : PySem.W.SharedT) : ob s = hk.obs s.abs := obsAG_eq (HandSHeadRun.getT_eq s)
theorem run (w : World) : HandSHeadRun.RunEq R (PySem.W.view R.prog [36]) hk ob 4000 names w := by
  intro os
  kernel_rfl
end Law
open PySem PySem.W PySem.Calls PyProof.Rows
theorem holds_of (run : ∀ ns : List Int, ns.length ≤ 63 → AW.callN (fun x => ((Law.t.cons[x]?).map (·.2)).getD .none) Law.t.T 22 21 [.va (.list (ns.map .int))] = .ok (.bool true, false)) : PySem.Challenge.rw_areawright_k04_how_often_and_rest.Holds := by
  w_on; o_law
  refine HandSHeadRun.head_any (r := OpenLaw.row PySem.Challenge.rw_areawright_k04_how_often_and_rest) (q := view (OpenLaw.row PySem.Challenge.rw_areawright_k04_how_often_and_rest).prog [36]) (H := Law.hk) (ob := Law.ob) (M := 4000) (loose := Law.names) (d := HandSHeadRun.topDef (OpenLaw.row PySem.Challenge.rw_areawright_k04_how_often_and_rest).prog 36) (kwd := []) Law.ob_eq
    (by kernel_rfl) (fun s => by kernel_rfl) Law.run (by kernel_rfl) (by kernel_rfl) (by kernel_rfl) (by rfl) (by first | assumption | decide +kernel) (by decide +kernel) ⟨rfl, rfl, rfl, rfl, rfl, by decide +kernel⟩ ?hw ?hc
  case hw => w_witness2
  case hc =>
    refine L2.walk_ofE (l := PySem.Challenge.rw_areawright_k04_how_often_and_rest) (n := 63) (k := 54) (x := "_law_script") (CX := AW.cxA (PySem.Challenge.rw_areawright_k04_how_often_and_rest).prog) rfl (by decide) (by kernel_rfl) ⟨rfl, by decide, by decide⟩ ?F ?nocx
    case F =>
      intro w mg fa h Y G hmg0
      obtain ⟨K, KX, c⟩ := Y
      have hmg : mg ("law" : PySem.Str) = some (.ref fa) := by
        have e : (HandSHeadRun.topDef (OpenLaw.row PySem.Challenge.rw_areawright_k04_how_often_and_rest).prog 36).name = ("law" : PySem.Str) := by kernel_rfl
        rw [← e]
        exact hmg0
      obtain ⟨fd, sp, h1, h2, h3⟩ := AW.law_ok (P := (PySem.Challenge.rw_areawright_k04_how_often_and_rest).prog) (w := w) (j := 21) (g := Law.f21) (d := Law.d21) (x := "_law_script") (by kernel_rfl) Law.says rfl rfl rfl rfl KX G c hmg (lim := 63) run
      exact ⟨K, fd, sp, KX, h1, h2, fun base kb gb => AW.fn_cxA (h3 base kb gb)⟩
    case nocx => exact fun H s e s' z => AW.cxA_none z


theorem PySem.Challenge.cw_areawright_k04_how_often_and_rest_holds : PySem.Challenge.rw_areawright_k04_how_often_and_rest.Holds :=
  holds_of fun ns hl => Law.hlaw ns hl
