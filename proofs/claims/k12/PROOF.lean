import PyProof.Rows.All
import Wide.All
import OpenK.AllK
import Wide.FinOn
import HandS.ForMost
import HandS.Walk
import HandS.Wide
import HandS.Conv
import HandS.TupAny
import HandS.TupMul
import HandS.Style
import HandS.IsInst
import HandS.Star
import HandS.Zip
import HandS.Deep
import HandS.Defaults
import HandS.Head0
import HandS.Head1
import HandS.Head2
import HandS.HeadEnd
import HandS.HeadHook1
import HandS.HeadHook2
import KE.KStateDown
import KE.GoesMore
import KE.GoesEnum
import HandS.SetFor
import HandS.SortInts
import HandS.SortOrd
import PySem.Challenge.RW_editstacks_k12_whole_sources
set_option Elab.async false
set_option linter.all false
set_option maxRecDepth 100000
set_option maxHeartbeats 0
namespace L2.Px
/-! Px0: rules that the layer lacks: tuple * int whole, slices by steps, sum of a tuple, in a tuple of data, list.count, range by steps. -/
open PySem PySem.Spec PyProof.Rows

/-! ### tuple * int -/
theorem tuple_mul1 (l : Addr) (items : Array Value) (n : Nat) (dd : Option Addr) (sl : Array (Option Value)) (x : Int) (u : Tok) (c0 : (decide (x < -(2 ^ 63)) || decide (x ≥ 2 ^ 63)) = false) (c1 : (items.isEmpty || x == 1) = true) :
    Meets (Builtin.«tuple.__mul__» ⟨[.ref l, .int x u], []⟩) (fun _ R s => s.heap.get? l = some { cls := .type "tuple", dict := dd, data := .seq items n, slots := sl } ∧
      R (.ok (.ret (Value.ref l))) s) :=
  .of_wp fun prog w A R s h => by
    obtain ⟨hp, g, d, tk, os⟩ := s
    obtain ⟨hl, h⟩ := h
    have f1 := AutoSeq1.idx_int
    wp_walk using wpAny_loadPart' hl
    repeat (first
      | (refine wpAny_ite_false (decide_eq_false (by rw [c0]; exact Bool.false_ne_true)) ?_; wp_walk using wpAny_loadPart' hl)
      | (refine wpAny_ite_true (decide_eq_true (by rw [c1])) ?_; wp_walk using wpAny_loadPart' hl))
    exact ⟨_, rfl, h⟩
theorem tuple_mul0 (l : Addr) (items : Array Value) (n : Nat) (dd : Option Addr) (sl : Array (Option Value)) (x : Int) (u : Tok) (c0 : (decide (x < -(2 ^ 63)) || decide (x ≥ 2 ^ 63)) = false) (c1 : (items.isEmpty || x == 1) = false) (c2 : (decide (x ≤ 0) || items.isEmpty) = true) :
    Meets (Builtin.«tuple.__mul__» ⟨[.ref l, .int x u], []⟩) (fun _ R s => s.heap.get? l = some { cls := .type "tuple", dict := dd, data := .seq items n, slots := sl } ∧
      R (.ok (.ret (Value.ref s.heap.objs.size))) { s with heap := s.heap.push { cls := Value.type "tuple", data := Data.seq #[] }, toks := s.toks }) :=
  .of_wp fun prog w A R s h => by
    obtain ⟨hp, g, d, tk, os⟩ := s
    obtain ⟨hl, h⟩ := h
    have f1 := AutoSeq1.idx_int
    wp_walk using wpAny_loadPart' hl
    repeat (first
      | (refine wpAny_ite_false (decide_eq_false (by rw [c0]; exact Bool.false_ne_true)) ?_; wp_walk using wpAny_loadPart' hl)
      | (refine wpAny_ite_false (decide_eq_false (by rw [c1]; exact Bool.false_ne_true)) ?_; wp_walk using wpAny_loadPart' hl)
      | (refine wpAny_ite_true (decide_eq_true (by rw [c2])) ?_; wp_walk using wpAny_loadPart' hl))
    exact ⟨_, rfl, h⟩
section
variable {X : Cx}
def rRepTA (K : PySem.W.Frag) : R2 := fun x y H Q => ∃ l k xs, x = .ref l ∧ y = .int k ∧ SqT K H l xs ∧ -(2 ^ 63) ≤ k ∧ k < 2 ^ 63 ∧ xs.length * k.toNat ≤ sizeLine ∧
  ((xs = [] ∨ k = 1) → Q (.ref l) H) ∧ (xs ≠ [] → k ≠ 1 → ∀ p, H p = none → Q (.ref p) (upd H p (.tup (List.replicate k.toNat xs).flatten)))
theorem op_repTA : OpR X (binaryOp .Mult) (rRepTA X.K) := by
  intro pins s σ H x y v u Q I rx ry h
  obtain ⟨l, k, xs, rfl, rfl, hT, h1, h2, hz, qa, qb⟩ := h
  cases rx
  obtain ⟨t, rfl⟩ := ry
  obtain ⟨its, r, ⟨⟨cls, dd, data, sl⟩, ho, hc, n, hd⟩, hs⟩ := I.tuple hT
  simp only at hc hd
  subst hc hd
  have hle : its.length = xs.length := r.length.symm
  have c0 : (decide (k < -(2 ^ 63)) || decide (k ≥ 2 ^ 63)) = false := by
    rw [decide_eq_false (by omega), decide_eq_false (by omega)] <;> rfl
  have road : ∀ {Qv : Value → Shared → Prop}, (wpAny (model X.prog X.w) X.A (call (.builtin "tuple.__mul__") [.ref l, .int k t]) Qv X.xe s) → wpAny (model X.prog X.w) X.A (binaryOp .Mult (.ref l) (.int k t)) Qv X.xe s := fun {Qv} hq =>
    wpAny_binaryOp_repeat_ref (T := "tuple") (U := "int") (by decide) ⟨_, ho, rfl⟩ (fun s' => typeIs_int s' k t) noFill_tuple_mul F.fills_int_mul F.slot_int_rmul repeat_tuple F.slot_int_index.lookup
    (call_meets F.slot_int_rmul (typeIs_int s k t) F.entry_int_rmul (F.args_int_rmul_2 _ _) (int_rmul_tuple k t l its.toArray n dd sl)
      ⟨ho, rfl, ⟨_, ho, rfl⟩, hq⟩)
  by_cases he : its.toArray.isEmpty = true ∨ k = 1
  · have c1 : (its.toArray.isEmpty || k == 1) = true := by
      rw [Bool.or_eq_true]
      exact he.imp id fun e => by rw [e]; rfl
    have hq : xs = [] ∨ k = 1 := he.imp (fun e => by
      have e' : its = [] := by simpa using e
      rw [e'] at hle
      exact List.eq_nil_of_length_eq_zero hle.symm) id
    exact road (call_meets F.slot_tuple_mul ⟨_, ho, rfl⟩ F.entry_tuple_mul (F.args_tuple_mul_2 _ _) (tuple_mul1 l its.toArray n dd sl k t c0 c1) ⟨ho, ⟨.ref l, H, I, rfl, qa hq⟩⟩)
  · rw [not_or] at he
    have hi : its.toArray.isEmpty = false := by simpa using he.1
    have hne : xs ≠ [] := fun e => by
      subst e
      have : its = [] := List.eq_nil_of_length_eq_zero hle
      subst this
      cases hi
    have c1 : (its.toArray.isEmpty || k == 1) = false := by
      rw [hi, Bool.false_or]
      exact beq_eq_false_iff_ne.mpr he.2
    by_cases hk : k ≤ 0
    · have c2 : (decide (k ≤ 0) || its.toArray.isEmpty) = true := by rw [decide_eq_true hk]; rfl
      refine road (call_meets F.slot_tuple_mul ⟨_, ho, rfl⟩ F.entry_tuple_mul (F.args_tuple_mul_2 _ _) (tuple_mul0 l its.toArray n dd sl k t c0 c1 c2) ⟨ho, ?_⟩)
      have e0 : k.toNat = 0 := by omega
      have q := qb hne he.2
      rw [e0] at q
      refine ⟨.ref s.heap.objs.size, _, I.laid (t' := s.toks) (o := .tup []) (fun b ob q => Heap.get?_push_of_some _ q) (Nat.le_refl _) ?_, rfl, q _ (I.hok.fresh (Nat.le_refl _))⟩
      exact ⟨Nat.zero_le _, [], .nil, IsTup.new _ _⟩
    · have hz' := sizeLine_eq
      have flen : (List.replicate k.toNat its).flatten.length ≤ sizeLine := by
        rw [PyProof.Rows.lm_len_rep_flat, hle, Nat.mul_comm]
        exact hz
      have hm : ((its.toArray.size : Nat) : Int) * k ≤ (sizeLine : Nat) := by
        have e1 : ((its.toArray.size : Nat) : Int) * k = ((xs.length * k.toNat : Nat) : Int) := by
          rw [List.size_toArray, hle]
          have e2 : ((k.toNat : Nat) : Int) = k := by omega
          rw [Int.natCast_mul, e2]
        rw [e1]
        exact Int.ofNat_le.mpr hz
      have c2 : (decide (k ≤ 0) || its.toArray.isEmpty) = false := by
        rw [hi, Bool.or_false]
        exact decide_eq_false hk
      have c4 : Builtin.Tuple.tupleTooMany (((its.toArray.size : Nat) : Int) * k) = false := by
        unfold Builtin.Tuple.tupleTooMany
        exact decide_eq_false (by omega)
      refine road (call_meets F.slot_tuple_mul ⟨_, ho, rfl⟩ F.entry_tuple_mul (F.args_tuple_mul_2 _ _) (tuple_mulW l its.toArray n dd sl k t c0 c1 c2 (by omega) c4 (by rw [size_rep, List.size_toArray]; exact flen)) ⟨ho, ?_⟩)
      rw [size_rep]
      refine ⟨.ref s.heap.objs.size, _, I.laid (t' := s.toks) (o := .tup (List.replicate k.toNat xs).flatten) (fun b ob q => Heap.get?_push_of_some _ q) (Nat.le_refl _) ?_, rfl, qb hne he.2 _ (I.hok.fresh (Nat.le_refl _))⟩
      exact ⟨by rw [PyProof.Rows.lm_len_rep_flat, Nat.mul_comm]; exact hz, _, r.rep k.toNat, IsTup.new _ _⟩
end

/-! ### every k-th; backward -/
theorem fm_congr {α β : Type} {f g : α → Option β} : ∀ {l : List α}, (∀ x, x ∈ l → f x = g x) → l.filterMap f = l.filterMap g
  | [], _ => rfl
  | x :: l, h => by rw [List.filterMap_cons, List.filterMap_cons, h x List.mem_cons_self, fm_congr fun y hy => h y (List.mem_cons_of_mem _ hy)]
/-- every k-th, from the first -/
def stepL {α : Type} (k : Nat) (xs : List α) : List α := (List.range ((xs.length + k - 1) / k)).filterMap fun m => xs[m * k]?
theorem Vals.filt : ∀ {xs : List V} {us : List Value} (ix : List Nat), Vals xs us → Vals (ix.filterMap fun m => xs[m]?) (ix.filterMap fun m => us[m]?)
  | _, _, [], _ => .nil
  | xs, us, i :: ix, r => by
    rw [List.filterMap_cons, List.filterMap_cons]
    cases e : xs[i]? with
    | none =>
      rw [r.none_of e]
      exact Vals.filt ix r
    | some x =>
      obtain ⟨u, h1, h2⟩ := r.get e
      rw [h1]
      exact .cons h2 (Vals.filt ix r)
theorem stepL_ix {α : Type} (k : Nat) (xs : List α) : stepL k xs = ((List.range ((xs.length + k - 1) / k)).map (· * k)).filterMap fun m => xs[m]? := by
  unfold stepL
  rw [List.filterMap_map]
  rfl
theorem Vals.step {xs : List V} {us : List Value} (k : Nat) (r : Vals xs us) : Vals (stepL k xs) (stepL k us) := by
  rw [stepL_ix, stepL_ix, r.length]
  exact Vals.filt _ r
theorem stepL_len {α : Type} (k : Nat) (hk : 0 < k) (xs : List α) : (stepL k xs).length ≤ xs.length := by
  unfold stepL
  refine Nat.le_trans (List.length_filterMap_le _ _) ?_
  rw [List.length_range]
  by_cases h : xs.length = 0
  · rw [h]
    exact Nat.le_of_eq (Nat.div_eq_of_lt (by omega))
  · apply Nat.div_le_of_le_mul
    have : xs.length + k - 1 ≤ k * xs.length := by
      have h1 : 1 ≤ xs.length := by omega
      have h2 : (xs.length - 1) * 1 ≤ (xs.length - 1) * k := Nat.mul_le_mul_left _ hk
      have h3 : k * xs.length = (xs.length - 1) * k + k := by
        rw [Nat.mul_comm]
        have : xs.length = (xs.length - 1) + 1 := by omega
        rw [this, Nat.add_mul, Nat.one_mul]
        simp
      omega
    exact this
theorem pick_step (items : Array Value) (k : Int) (hk : 0 < k) : slicePick items none none (some k) = (stepL k.toNat items.toList).toArray := by
  unfold slicePick sliceBounds
  simp only [Option.getD_some]
  have h1 : k > 0 := hk
  simp only [h1, if_true]
  unfold sliceRange stepL
  rw [if_pos h1]
  by_cases h0 : (0 : Int) < (items.size : Int)
  · rw [if_pos h0]
    have e1 : ((items.size : Int) - 0 + k - 1) / k = (((items.toList.length + k.toNat - 1) / k.toNat : Nat) : Int) := by
      rw [Array.length_toList]
      obtain ⟨m, rfl⟩ : ∃ m : Nat, k = (m : Int) := ⟨k.toNat, by omega⟩
      rw [Int.toNat_natCast]
      have hm : 0 < m := by omega
      have e2 : ((items.size : Int) - 0 + (m : Int) - 1) = ((items.size + m - 1 : Nat) : Int) := by omega
      rw [e2, ← Int.natCast_ediv]
    rw [e1]
    simp only [Int.toNat_natCast, List.filterMap_map]
    congr 1
    apply fm_congr
    intro m _
    have e3 : (0 + k * (m : Int)).toNat = m * k.toNat := by
      obtain ⟨j, rfl⟩ : ∃ j : Nat, k = (j : Int) := ⟨k.toNat, by omega⟩
      rw [Int.toNat_natCast, Int.zero_add, ← Int.natCast_mul, Int.toNat_natCast, Nat.mul_comm]
    show items[(0 + k * (m : Int)).toNat]? = items.toList[m * k.toNat]?
    rw [e3, Array.getElem?_toList]
  · rw [if_neg h0]
    have hz : items.size = 0 := by omega
    have e2 : (items.toList.length + k.toNat - 1) / k.toNat = 0 := Nat.div_eq_of_lt (by rw [Array.length_toList]; omega)
    rw [e2]
    rfl
section
variable {prog : Program} {w : World} {A : Around} {E : Value → Shared → Prop} {s : Shared}
theorem sliceApplied_step {sl : Addr} {vs : Value} {st : Int} {n : Nat} {Q : Int × Int × Nat → Shared → Prop} (hs : s.heap.IsSliceOf sl .none .none vs) (ps : IsPart vs (some st)) (h0 : st ≠ 0)
    (h : Q ((Builtin.Slice.sliceAdjust none none st n).1, st, Builtin.Slice.slicePlaces (Builtin.Slice.sliceAdjust none none st n).1 (Builtin.Slice.sliceAdjust none none st n).2 st) s) : wpAny (model prog w) A (Builtin.Slice.sliceApplied (.ref sl) (pure (n : Int))) Q E s := by
  obtain ⟨os, hos, hcs, hds⟩ := id hs
  unfold Builtin.Slice.sliceApplied Builtin.Slice.sliceFields
  refine wpAny_bind (wpAny_bind (wpAny_field hos hds (x := .none) rfl (wpAny_bind (wpAny_field hos hds (x := .none) rfl (wpAny_bind (wpAny_field hos hds (x := vs) rfl (wpAny_pure ?_)))))))
  refine wpAny_bind (HT.slicePart_ ps ?_)
  show wpAny _ _ (if ((st : Int) == 0) = true then _ else _) _ _ s
  rw [if_neg (by simpa using h0)]
  refine wpAny_bind (PyProof.Rows.slicePart_none (wpAny_bind (PyProof.Rows.slicePart_none (wpAny_bind (wpAny_pure ?_)))))
  show wpAny _ _ (match Builtin.Slice.sliceAdjust none none st (n : Int) with | (lo, hi) => pure (lo, st, Builtin.Slice.slicePlaces lo hi st)) _ _ s
  exact wpAny_pure h
theorem getItem_tuple_step {t sl : Addr} {items : Array Value} {vs : Value} {st : Int} {Q : Value → Shared → Prop} (ht : IsTup s.heap t items) (hs : s.heap.IsSliceOf sl .none .none vs) (ps : IsPart vs (some st)) (h0 : st ≠ 0) {lo : Int} {m : Nat} (hlo : (Builtin.Slice.sliceAdjust none none st (items.size : Int)).1 = lo)
    (hm : Builtin.Slice.slicePlaces (Builtin.Slice.sliceAdjust none none st (items.size : Int)).1 (Builtin.Slice.sliceAdjust none none st (items.size : Int)).2 st = m) {ys : List Value} (hy : ((List.range m).filterMap fun (k : Nat) => items[(lo + (k : Int) * st).toNat]?) = ys)
    (hw : (lo == 0 && st == 1 && m == items.size) = true → Q (.ref t) s) (h : (lo == 0 && st == 1 && m == items.size) = false → Q (.ref s.heap.objs.size) { s with heap := s.heap.push { cls := .type "tuple", data := .seq ys.toArray } })
    (hsz : ys.length ≤ sizeLine) : wpAny (model prog w) A (getItem (.ref t) (.ref sl)) Q E s := by
  have htake : sizeOk (.seq ys.toArray) := by
    show ys.toArray.size ≤ sizeLine
    rw [List.size_toArray]; exact hsz
  obtain ⟨os, hos, hcs, hds⟩ := id hs
  have hTs : s.TypeIs (.ref sl) "slice" := ⟨os, hos, hcs⟩
  unfold getItem
  try with_reducible refine wpAny_holding ?_
  first | refine wpAny_bind (wpAny_pure ?_) | skip
  refine wpAny_bind (wpAny_sequenceKey ht.typeIs (by decide) ?_)
  refine wpAny_bind (wpAny_callSpecial?_slot (name := Str.ofString "__getitem__") ht.typeIs PyProof.Rows.slot_tuple_getitem
    (wpAny_call_entry PyProof.Rows.slot_tuple_getitem ht.typeIs entry_tuple_getitem ?_ (args_tuple_getitem _ _)))
  show wpAny _ _ (Builtin.Tuple.tupleItemsOf (.ref t) >>= _) _ _ s
  refine wpAny_bind (tupleItemsOf_ ht ?_)
  refine wpAny_bind (wpAny_typeOf hTs ?_)
  rw [if_pos (by decide)]
  refine wpAny_bind (sliceApplied_step hs ps h0 ?_)
  rw [hlo] at hm ⊢
  rw [hm]
  show wpAny _ _ (if (lo == 0 && st == 1 && m == items.size) = true then _ else _) _ _ s
  by_cases hc : (lo == 0 && st == 1 && m == items.size) = true
  · rw [if_pos hc]
    refine wpAny_bind (m := Builtin.Tuple.tupleIsExact _) ?_
    unfold Builtin.Tuple.tupleIsExact
    refine wpAny_bind (wpAny_typeOf ht.typeIs (wpAny_pure ?_))
    rw [if_pos (by decide)]
    exact wpAny_bind (wpAny_rule (wpAny_bind (wpAny_pure (wpAny_pure ⟨_, rfl, wpAny_pure (hw hc)⟩))))
  · rw [if_neg hc]
    have hc' := eq_false_of_ne_true hc
    rw [hy]
    first
      | exact wpAny_bind (m := Builtin.Tuple.tupleExact _) (wpAny_newObj_type (wpAny_pure ⟨_, rfl, wpAny_pure (h hc')⟩) htake)
      | exact wpAny_bind (m := Builtin.Tuple.tupleExact _) (wpAny_newObj_type (wpAny_bind (wpAny_pure (wpAny_pure ⟨_, rfl, wpAny_pure (h hc')⟩))) htake)
      | exact wpAny_bind (wpAny_bind (m := Builtin.Tuple.tupleExact _) (wpAny_newObj_type (wpAny_pure (wpAny_pure ⟨_, rfl, wpAny_pure (h hc')⟩)) htake))
      | exact wpAny_bind (wpAny_bind (m := Builtin.Tuple.tupleExact _) (wpAny_newObj_type (wpAny_pure ⟨_, rfl, wpAny_pure (h hc')⟩) htake))
end
theorem adjust_pos {st : Int} (h : 0 < st) (n : Nat) : Builtin.Slice.sliceAdjust none none st (n : Int) = (0, (n : Int)) := by
  unfold Builtin.Slice.sliceAdjust
  have h1 : ¬ (st < 0) := by omega
  simp only [h1, if_false]
theorem adjust_neg (n : Nat) : Builtin.Slice.sliceAdjust none none (-1) (n : Int) = ((n : Int) - 1, -1) := by
  unfold Builtin.Slice.sliceAdjust
  have h1 : ((-1 : Int) < 0) := by omega
  simp only [h1, if_true]
theorem places_neg (n : Nat) : Builtin.Slice.slicePlaces ((n : Int) - 1) (-1) (-1) = n := by
  unfold Builtin.Slice.slicePlaces
  have h1 : ¬ ((-1 : Int) > 0) := by omega
  simp only [h1, if_false]
  rw [show (- -1 : Int) = 1 by decide, Int.ediv_one]
  split <;> omega
theorem places_pos {k : Int} (hk : 0 < k) (n : Nat) : Builtin.Slice.slicePlaces 0 (n : Int) k = (n + k.toNat - 1) / k.toNat := by
  obtain ⟨j, rfl⟩ : ∃ j : Nat, k = (j : Int) := ⟨k.toNat, by omega⟩
  have hj : 0 < j := by omega
  unfold Builtin.Slice.slicePlaces
  have h1 : ((j : Int) > 0) := hk
  simp only [h1, if_true, Int.toNat_natCast]
  by_cases h : (0 : Int) < (n : Int)
  · rw [if_pos h]
    have e1 : ((n : Int) - 0 - 1) = ((n - 1 : Nat) : Int) := by omega
    have e4 : ((n - 1 : Nat) : Int) / (j : Int) = (((n - 1) / j : Nat) : Int) := (Int.natCast_ediv _ _).symm
    rw [e1, e4]
    have e2 : (n + j - 1) / j = (n - 1) / j + 1 := by
      rw [show n + j - 1 = (n - 1) + j by omega, Nat.add_div_right _ hj]
    rw [e2]
    clear e2 e4 e1
    generalize (n - 1) / j = q
    omega
  · rw [if_neg h]
    have : n = 0 := by omega
    subst this
    rw [Nat.div_eq_of_lt (by omega)]
    rfl
theorem filt_rev (items : List Value) : ((List.range items.length).filterMap fun (k : Nat) => items.toArray[(((items.length : Nat) : Int) - 1 + (k : Int) * (-1)).toNat]?) = items.reverse := by
  apply List.ext_getElem?
  intro i
  have e : ((List.range items.length).filterMap fun (k : Nat) => items.toArray[(((items.length : Nat) : Int) - 1 + (k : Int) * (-1)).toNat]?) = (List.range items.length).map fun k => items.reverse[k]?.getD Value.none := by
    rw [← List.filterMap_eq_map]
    apply fm_congr
    intro k hk
    rw [List.mem_range] at hk
    have e1 : (((items.length : Nat) : Int) - 1 + (k : Int) * (-1)).toNat = items.length - 1 - k := by omega
    rw [e1]
    show items.toArray[items.length - 1 - k]? = some (items.reverse[k]?.getD Value.none)
    rw [List.getElem?_toArray, List.getElem?_reverse hk, List.getElem?_eq_getElem (by omega)]
    rfl
  rw [e, List.getElem?_map]
  by_cases hi : i < items.length
  · rw [List.getElem?_range hi]
    show some (items.reverse[i]?.getD Value.none) = _
    rw [List.getElem?_eq_getElem (by rw [List.length_reverse]; exact hi)]
    rfl
  · rw [List.getElem?_eq_none (by rw [List.length_range]; omega), List.getElem?_eq_none (by rw [List.length_reverse]; omega)]
    rfl
theorem filt_step (items : List Value) {k : Int} (hk : 0 < k) : ((List.range ((items.length + k.toNat - 1) / k.toNat)).filterMap fun (m : Nat) => items.toArray[((0 : Int) + (m : Int) * k).toNat]?) = stepL k.toNat items := by
  unfold stepL
  apply fm_congr
  intro m _
  obtain ⟨j, rfl⟩ : ∃ j : Nat, k = (j : Int) := ⟨k.toNat, by omega⟩
  have e3 : ((0 : Int) + (m : Int) * (j : Int)).toNat = m * (j : Int).toNat := by
    rw [Int.zero_add, ← Int.natCast_mul, Int.toNat_natCast, Int.toNat_natCast]
  rw [e3, List.getElem?_toArray]
section
variable {X : Cx}
/-- x[::st] by values: a new list, a new tuple (or the tuple itself) -/
def rStp (K : PySem.W.Frag) (st : Int) (g : List V → List V) : V → Hp → VK → Prop := fun x H Q => (∃ a xs, x = .ref a ∧ SqL K H a xs ∧ ∀ p, H p = none → Q (.ref p) (upd H p (.lst (g xs)))) ∨
  (∃ a xs, x = .ref a ∧ SqT K H a xs ∧ (g xs = xs → Q (.ref a) H) ∧ ∀ p, H p = none → Q (.ref p) (upd H p (.tup (g xs))))
structure StepOk (st : Int) (g : List V → List V) (gv : List Value → List Value) : Prop where
  h0 : st ≠ 0
  hg : ∀ xs us, Vals xs us → Vals (g xs) (gv us)
  hgl : ∀ us : List Value, (gv us).length ≤ us.length
  hlist : ∀ us : List Value, slicePick us.toArray none none (some st) = (gv us).toArray
  htup : ∀ us : List Value, ∃ (lo : Int) (m : Nat), (Builtin.Slice.sliceAdjust none none st (us.length : Int)).1 = lo ∧ Builtin.Slice.slicePlaces (Builtin.Slice.sliceAdjust none none st (us.length : Int)).1 (Builtin.Slice.sliceAdjust none none st (us.length : Int)).2 st = m ∧
      ((List.range m).filterMap fun (k : Nat) => us.toArray[(lo + (k : Int) * st).toNat]?) = gv us
  hsame : ∀ (us : List Value) (lo : Int) (m : Nat), (lo == 0 && st == 1 && m == us.length) = true → ∀ xs : List V, g xs = xs
theorem pe_stp {ex : Expr} {te : TE} {sx : Expr} {ts : TO} {p3 pos : Pos} (he : PE X ex te) (hst : PO X (some sx) ts) :
    PE X (.Subscript ex (.Slice none none (some sx) p3) pos) (fun σ H Q => te σ H fun x H1 => ts σ H1 fun o H2 => ∃ st g gv, o = some st ∧ StepOk st g gv ∧ rStp X.K st g x H2 Q) := by
  refine ⟨fun pins s σ H Q I h => ?_⟩
  refine Subscript_ (thn (he.run pins s σ H _ I h) fun v s1 ⟨x, H1, I1, r1, q1⟩ => ?_)
  refine wpAny_Slice (thn (po_none.run pins s1 σ H1 (fun o H2 => o = none ∧ H2 = H1) I1 ⟨rfl, rfl⟩) fun vl s2 ⟨l, H2, I2, pl, el, e2⟩ => ?_)
  subst el e2
  refine thn (po_none.run pins s2 σ H2 (fun o H3 => o = none ∧ H3 = H2) I2 ⟨rfl, rfl⟩) fun vu s3 ⟨u, H3, I3, pu, eu, e3⟩ => ?_
  subst eu e3
  refine thn (hst.run pins s3 σ H3 _ I3 q1) fun vs s4 ⟨o, H4, I4, ps, st, g, gv, eo, ok, q1⟩ => ?_
  subst eo
  obtain ⟨h0, hg, hgl, hlist, htup, hsame⟩ := ok
  have I5 : Inv X pins σ H4 { s4 with heap := s4.heap.push { cls := .type "slice", data := .fields #[vl, vu, vs] } } := I4.kept (t' := s4.toks) fun b ob q => Heap.get?_push_of_some _ q
  cases pl
  cases pu
  rcases q1 with ⟨a, xs, rfl, hx, q⟩ | ⟨a, xs, rfl, hx, qs, q⟩
  · cases r1
    obtain ⟨its, r, ht, hz⟩ := I5.list hx
    have hlen := r.length
    show wpAny (model X.prog X.w) X.A (subscriptTail ex (.Slice none none (some sx) p3) (.ref a) (.ref s4.heap.objs.size)) (EP X pins σ Q) X.xe { s4 with heap := s4.heap.push { cls := .type "slice", data := .fields #[.none, .none, vs] } }
    refine tail_any (ops := [.ref a, .ref s4.heap.objs.size]) ht.isList.typeIs (PySem.slot_list_getitem.lookup) ?_ (by with_unfolding_all rfl)
    refine wpAny_getItem_list_slice ht.isList (Heap.IsSliceOf.new _ .none .none vs) .none .none ps (by simpa using h0) ?_ (by rw [List.size_toArray]; omega)
    rw [hlist]
    have hl2 := hgl its
    refine ⟨.ref _, _, I5.laid (t' := s4.toks) (o := .lst (g xs)) (fun b ob q => Heap.get?_push_of_some _ q) (Nat.le_refl _) ?_, rfl, q _ (I5.hok.fresh (Nat.le_refl _))⟩
    exact ⟨by rw [(hg _ _ r).length]; omega, _, 0, hg _ _ r, Heap.get?_push_size _ rfl⟩
  · cases r1
    obtain ⟨its, r, ht, hz⟩ := I5.tuple hx
    have hlen := r.length
    obtain ⟨lo, m, h1, h2, h3⟩ := htup its
    show wpAny (model X.prog X.w) X.A (subscriptTail ex (.Slice none none (some sx) p3) (.ref a) (.ref s4.heap.objs.size)) (EP X pins σ Q) X.xe { s4 with heap := s4.heap.push { cls := .type "slice", data := .fields #[.none, .none, vs] } }
    refine tail_any (ops := [.ref a, .ref s4.heap.objs.size]) ht.typeIs PyProof.Rows.slot_tuple_getitem.lookup ?_ (by with_unfolding_all rfl)
    have hl2 := hgl its
    refine getItem_tuple_step ht (Heap.IsSliceOf.new _ .none .none vs) ps h0 (lo := lo) (m := m) (by rw [List.size_toArray]; exact h1) (by rw [List.size_toArray]; exact h2) h3 (fun hc => ?_) (fun _ => ?_) (by omega)
    · rw [List.size_toArray] at hc
      exact ⟨.ref a, H4, I5, rfl, qs (hsame its lo m hc xs)⟩
    · refine ⟨.ref _, _, I5.laid (t' := s4.toks) (o := .tup (g xs)) (fun b ob q => Heap.get?_push_of_some _ q) (Nat.le_refl _) ?_, rfl, q _ (I5.hok.fresh (Nat.le_refl _))⟩
      exact ⟨by rw [(hg _ _ r).length]; omega, _, hg _ _ r, IsTup.new _ _⟩
theorem Vals.rev : ∀ {xs : List V} {us : List Value}, Vals xs us → Vals xs.reverse us.reverse
  | _, _, .nil => .nil
  | _, _, .cons r t => by
    rw [List.reverse_cons, List.reverse_cons]
    exact (Vals.rev t).append (.cons r .nil)
theorem stepOk_rev : StepOk (-1) List.reverse List.reverse :=
  ⟨by decide, fun xs us r => Vals.rev r, fun us => by simp, fun us => by rw [PySem.W.krv_pick], fun us => ⟨(us.length : Int) - 1, us.length, by rw [adjust_neg], by rw [adjust_neg]; exact places_neg _, filt_rev us⟩,
    fun us lo m h xs => by
      rw [Bool.and_eq_true, Bool.and_eq_true] at h
      cases h.1.2⟩
theorem stepL_one {α : Type} (xs : List α) : stepL 1 xs = xs := by
  unfold stepL
  apply List.ext_getElem?
  intro i
  have e : ((List.range ((xs.length + 1 - 1) / 1)).filterMap fun m => xs[m * 1]?) = (List.range xs.length).filterMap fun m => xs[m]? := by
    rw [Nat.div_one, Nat.add_sub_cancel]
    apply fm_congr
    intro m _
    rw [Nat.mul_one]
  rw [e]
  have : ∀ xs : List α, (List.range xs.length).filterMap (fun m => xs[m]?) = xs := fun xs => by
    induction xs with
    | nil => rfl
    | cons x xs ih =>
      rw [List.length_cons, List.range_succ_eq_map, List.filterMap_cons, List.filterMap_map]
      show x :: _ = _
      congr 1
  rw [this]
theorem stepOk_pos {st : Int} (h0 : 0 < st) : StepOk st (stepL st.toNat) (stepL st.toNat) :=
  ⟨by omega, fun xs us r => Vals.step _ r, fun us => stepL_len _ (by omega) us, fun us => pick_step _ _ h0, fun us => ⟨0, (us.length + st.toNat - 1) / st.toNat, by rw [adjust_pos h0], by rw [adjust_pos h0]; exact places_pos h0 _, filt_step us h0⟩,
    fun us lo m h xs => by
      rw [Bool.and_eq_true, Bool.and_eq_true] at h
      have : st = 1 := by simpa using h.1.2
      subst this
      exact stepL_one xs⟩
end

/-! Px0b: sum of a tuple, in a tuple of data, list.count, range by steps. -/
open PySem PySem.Spec PyProof.Rows
section
variable {prog : Program} {w : World} {A : Around} {E : Value → Shared → Prop} {s : Shared} {l : Addr} {its : List Value} {ns : List Int} {Q : Value → Shared → Prop}
theorem sum_tup (hh : A.handled = none) (hl : s.heap.IsTuple l its.toArray) (hi : IntsAre its ns)
    (h : ∀ h' tk t', (∀ b o, s.heap.get? b = some o → h'.get? b = some o) → Q (.int ns.sum t') { s with heap := h', toks := tk }) : wpAny (model prog w) A (call (.builtin "sum") [.ref l]) Q E s := by
  obtain ⟨xs, e⟩ := hi.allInts.items
  have hn : numsOf (intItems xs).toList = ns := by rw [← e]; exact hi.numsOf
  rw [nums_intItems] at hn
  rw [e] at hl
  have hlt : l < s.heap.objs.size := by obtain ⟨_, e, _⟩ := hl; exact Heap.lt_size e
  refine call_sum_walkG (wpAny_pyIter_tuple hl ?_)
  refine ⟨_, [_, l], [_], _, _, _, numAt xs, rfl, Walks.tuple (A := A.in1) hh _ l (Nat.ne_of_lt hlt) (intItems xs), ⟨⟨_, Heap.get?_push_size _ rfl, rfl, rfl⟩, hl.push _⟩, fun b hb => ?_, (fun _ _ => intItems_at), fun h' tk t' hk => ?_⟩
  · show b < (s.heap.push _).objs.size
    rw [Heap.size_push]
    rcases List.mem_cons.mp hb with rfl | hb
    · exact Nat.lt_succ_self _
    · rcases List.mem_cons.mp hb with rfl | hb
      · exact Nat.lt_succ_of_lt hlt
      · cases hb
  · have := h h' tk t' fun b o q => hk b o (fun z => by
      have z' : b = s.heap.objs.size := by simpa using z
      exact absurd (Heap.lt_size q) (by rw [z']; exact Nat.lt_irrefl _)) (Heap.get?_push_of_some _ q)
    have e2 : preSum (numAt xs) (intItems xs).size = ns.sum := by
      rw [preSum_eq, List.take_of_length_le (by simp [intItems]), hn]
    rw [e2]; exact this
end
section
variable {X : Cx}
def rSumTL (K : PySem.W.Frag) : V → Hp → VK → Prop := fun x H Q => ∃ (a : Addr) (ns : List Int), x = V.ref a ∧ (SqL K H a (ns.map V.int) ∨ SqT K H a (ns.map V.int)) ∧ Q (.int ns.sum) H
theorem cr_sumTL (hc : X.calm = true) : CallR X (.builtin "sum") (fun vs H Q => ∃ v, vs = [v] ∧ rSumTL X.K v H Q) := by
  intro pins s σ H vs us Q I r h
  obtain ⟨v, rfl, a, ns, rfl, hs, q⟩ := h
  rcases hs with hs | hs
  · exact cr_sum hc pins s σ H _ us Q I r ⟨a, ns, rfl, hs, q⟩
  · obtain ⟨its, rv, hl, _⟩ := I.tuple hs
    rw [Vals.ref1 r]
    exact sum_tup (I.ok.hd hc) (show s.heap.IsTuple a its.toArray from hl) rv.ints fun h' tk t' hk => ⟨.int _, H, I.kept hk, ⟨_, rfl⟩, q⟩
/-- x in a list or tuple of data -/
def rInTL (K : PySem.W.Frag) (neg : Bool) : R2 := fun x y H Q => ∃ d ds, Dp K H x d ∧ (Dp K H y (.list ds) ∨ Dp K H y (.tuple ds)) ∧ SeqAt.shaped d = true ∧ PyData.canLayAll0 ds = true ∧ Q (.bl (if neg then !ds.any fun z => PyData.eqv z d else ds.any fun z => PyData.eqv z d)) H
theorem room_in' {A : Around} {da : PyData} {n : Nat} (h : SeqAt.shaped da = true) (hu : A.units + 65 < cLine) : A.units + 1 + min n da.depth < cLine := by
  have h1 := SeqAt.depth_of_shaped h
  have h2 : min n da.depth ≤ da.depth := Nat.min_le_right _ _
  omega
theorem op_inTL (hu : X.A.units + 65 < cLine) : OpR X (compareOp .In) (rInTL X.K false) := by
  intro pins s σ H x y v u Q I rx ry h
  obtain ⟨d, ds, hd, he, sd, cl, q⟩ := h
  obtain ⟨as, r1⟩ := Dp.reads I d x v hd rx
  rcases he with he | he
  · obtain ⟨bs, r2⟩ := Dp.reads I (.list ds) y u he ry
    exact SeqAt.in_list_reads r2 r1 cl (SeqAt.canLay_of_shaped sd) (room_in' sd hu) ⟨.bl _, H, I, rfl, q⟩
  · obtain ⟨bs, r2⟩ := Dp.reads I (.tuple ds) y u he ry
    exact SeqAt.in_tuple_reads r2 r1 cl (SeqAt.canLay_of_shaped sd) (room_in' sd hu) ⟨.bl _, H, I, rfl, q⟩
theorem op_notInTL (hu : X.A.units + 65 < cLine) : OpR X (compareOp .NotIn) (rInTL X.K true) := by
  intro pins s σ H x y v u Q I rx ry h
  obtain ⟨d, ds, hd, he, sd, cl, q⟩ := h
  obtain ⟨as, r1⟩ := Dp.reads I d x v hd rx
  rcases he with he | he
  · obtain ⟨bs, r2⟩ := Dp.reads I (.list ds) y u he ry
    exact SeqAt.notIn_list_reads r2 r1 cl (SeqAt.canLay_of_shaped sd) (room_in' sd hu) ⟨.bl _, H, I, rfl, q⟩
  · obtain ⟨bs, r2⟩ := Dp.reads I (.tuple ds) y u he ry
    exact SeqAt.notIn_tuple_reads r2 r1 cl (SeqAt.canLay_of_shaped sd) (room_in' sd hu) ⟨.bl _, H, I, rfl, q⟩
/-- l.count(x) -/
def rCountD (K : PySem.W.Frag) : V → List V → Hp → VK → Prop := fun x xs H Q => ∃ (a : Addr) (y : V) (d : PyData) (ds : List PyData), x = V.ref a ∧ xs = [y] ∧ Dp K H (V.ref a) (.list ds) ∧ Dp K H y d ∧
  PyData.canLayAll0 ds = true ∧ SeqAt.shaped d = true ∧ Q (.int (ds.countP fun z => PyData.eqv z d : Nat)) H
theorem mt_countD (hu : X.A.units + 65 < cLine) : MtR X "list.count" (rCountD X.K) := by
  intro pins s σ H x xs v us Q I rx rxs h
  obtain ⟨a, y, d, ds, rfl, rfl, hl, hy, hxs, sd, q⟩ := h
  cases rx
  cases rxs with
  | cons ry rt =>
    rename_i uy ut
    cases rt
    obtain ⟨bs, r1⟩ := Dp.reads I d y uy hy ry
    have hroom : X.A.units + 1 + min (PyData.depthAll ds) d.depth < cLine := room_in' sd hu
    cases hl with
    | lst hs ha =>
      obtain ⟨its, rv, ⟨⟨cls, dd, data, sls⟩, n, ho, hc, hdn, hdt⟩, hlen⟩ := I.list hs
      simp only at hc hdt
      subst hc hdt
      obtain ⟨as, h4⟩ := Dp.readsAll I ds _ its ha rv
      have hmap : its.map (SeqAt.readOf s.heap) = ds := SeqAt.readsAll_map ds its as hxs h4
      refine call_meets PySem.F.slot_list_count ⟨_, ho, rfl⟩ PySem.F.entry_list_count (PySem.F.args_list_count_2 _ _)
        (SeqAt.list_countAt a its.toArray n dd sls uy (fun u => PyData.eqv (SeqAt.readOf s.heap u) d)) ⟨ho, SeqAt.items_eqAt (vs := its.toArray) (show ReadsAll s.heap its.toArray.toList ds as from h4) r1 hxs (SeqAt.canLay_of_shaped sd) hroom, ?_⟩
      refine ⟨.int _, H, I.tok _, ⟨_, rfl⟩, ?_⟩
      have e : (its.toArray.toList.countP fun u => PyData.eqv (SeqAt.readOf s.heap u) d) = ds.countP fun z => PyData.eqv z d := by
        rw [← hmap, List.countP_map]
        rfl
      rw [e]; exact q
end
theorem RgC.pos {i j c : Int} (ha : -(2 ^ 62) ≤ i) (ha' : i < 2 ^ 62) (hb : -(2 ^ 62) ≤ j) (hb' : j < 2 ^ 62) (hc : 0 < c) (hc' : c < 2 ^ 29) : RgC i j c ((j - i + c - 1) / c).toNat := by
  have hsz : Builtin.Range.rangeSize i j c = (((j - i + c - 1) / c).toNat : Nat) := by
    unfold Builtin.Range.rangeSize
    rw [if_pos hc]
    by_cases h : i < j
    · rw [if_pos h]
      have e : (j - i + c - 1) / c = (j - i - 1) / c + 1 := by
        rw [show j - i + c - 1 = (j - i - 1) + 1 * c by omega, Int.add_mul_ediv_right _ _ (by omega)]
      have h0 : 0 ≤ (j - i - 1) / c := Int.ediv_nonneg (by omega) (by omega)
      rw [e]
      omega
    · rw [if_neg h]
      have : (j - i + c - 1) / c ≤ 0 := by
        have : (j - i + c - 1) / c < 1 := Int.ediv_lt_of_lt_mul hc (by omega)
        omega
      omega
  refine ⟨by omega, by omega, ?_, hsz⟩
  unfold Builtin.Range.small
  rw [hsz]
  have hq : ((j - i + c - 1) / c) * c ≤ j - i + c - 1 := Int.ediv_mul_le _ (by omega)
  have hle : i < j → (j - i + c - 1) / c ≤ j - i := fun h => Int.ediv_le_of_le_mul hc (by
    have : 0 ≤ (j - i - 1) * (c - 1) := Int.mul_nonneg (by omega) (by omega)
    rw [Int.sub_mul, Int.mul_sub, Int.mul_one, Int.one_mul] at this
    omega)
  have h1 : (((j - i + c - 1) / c).toNat : Int) < 2 ^ 63 := by
    by_cases h : i < j
    · have := hle h; omega
    · have : (j - i + c - 1) / c < 1 := Int.ediv_lt_of_lt_mul hc (by omega)
      omega
  rw [if_pos hc]
  simp only [Builtin.Range.rangeFitsLong, Bool.and_eq_true, Bool.or_eq_true, decide_eq_true_eq]
  exact ⟨⟨⟨⟨⟨by omega, by omega⟩, by omega, by omega⟩, by omega, by omega⟩, by omega, h1⟩, .inr ⟨by omega, by omega⟩⟩

/-! Px1: data held by frozen objects, slots that own a list, frames. -/
open PySem PySem.Spec PyProof.Rows

abbrev D := PyData

mutual
/-- the value v is the data d, by objects of G (which stay as they are) -/
inductive R (K : PySem.W.Frag) (G : Hp) : V → D → Prop
  | non : R K G .non .none
  | bl (b : Bool) : R K G (.bl b) (.bool b)
  | int (i : Int) : R K G (.int i) (.int i)
  | str (x : Str) : R K G (.str x) (.str x)
  | lst {a : Addr} {xs : List V} {ds : List D} : G a = some (.lst xs) → RA K G xs ds → R K G (.ref a) (.list ds)
  | tup {a : Addr} {xs : List V} {ds : List D} : SqT K G a xs → RA K G xs ds → R K G (.ref a) (.tuple ds)
inductive RA (K : PySem.W.Frag) (G : Hp) : List V → List D → Prop
  | nil : RA K G [] []
  | cons {v : V} {vs : List V} {d : D} {ds : List D} : R K G v d → RA K G vs ds → RA K G (v :: vs) (d :: ds)
end

section
variable {K : PySem.W.Frag} {G G' H H' : Hp} {v : V} {d : D} {vs : List V} {ds : List D} {a : Addr}
theorem sqT_mono (h : Same G G') {xs : List V} (q : SqT K G a xs) : SqT K G' a xs := by
  rcases q with (q | ⟨o, q⟩) | q
  · exact .inl (.inl (h _ _ q))
  · exact .inl (.inr ⟨o, h _ _ q⟩)
  · exact .inr q
mutual
theorem R.mono (h : Same G G') : ∀ (d : D) (v : V), R K G v d → R K G' v d
  | .none, _, r => by cases r; exact .non
  | .bool _, _, r => by cases r; exact .bl _
  | .int _, _, r => by cases r; exact .int _
  | .str _, _, r => by cases r; exact .str _
  | .list ds, _, r => by
    cases r with
    | lst e q => exact .lst (h _ _ e) (RA.mono h ds _ q)
  | .tuple ds, _, r => by
    cases r with
    | tup e q => exact .tup (sqT_mono h e) (RA.mono h ds _ q)
  | .dict _, _, r => by cases r
theorem RA.mono (h : Same G G') : ∀ (ds : List D) (vs : List V), RA K G vs ds → RA K G' vs ds
  | [], _, r => by cases r; exact .nil
  | d :: ds, _, r => by
    cases r with
    | cons q t => exact .cons (R.mono h d _ q) (RA.mono h ds _ t)
end
theorem R.up (r : R K G v d) (h : Same G G') : R K G' v d := R.mono h d v r
theorem RA.up (r : RA K G vs ds) (h : Same G G') : RA K G' vs ds := RA.mono h ds vs r
mutual
theorem R.dp' : ∀ (d : D) (v : V), R K G v d → Dp K G v d
  | .none, _, r => by cases r; exact .non
  | .bool _, _, r => by cases r; exact .bl _
  | .int _, _, r => by cases r; exact .int _
  | .str _, _, r => by cases r; exact .str _
  | .list ds, _, r => by
    cases r with
    | lst e q => exact .lst (.inl (.inl e)) (RA.dp' ds _ q)
  | .tuple ds, _, r => by
    cases r with
    | tup e q => exact .tup e (RA.dp' ds _ q)
  | .dict _, _, r => by cases r
theorem RA.dp' : ∀ (ds : List D) (vs : List V), RA K G vs ds → DpAll K G vs ds
  | [], _, r => by cases r; exact .nil
  | d :: ds, _, r => by
    cases r with
    | cons q t => exact .cons (R.dp' d _ q) (RA.dp' ds _ t)
end
theorem R.dp (r : R K G v d) (h : Same G H) : Dp K H v d := R.dp' d v (r.up h)
theorem RA.length : ∀ {vs : List V} {ds : List D}, RA K G vs ds → vs.length = ds.length
  | _, _, .nil => rfl
  | _, _, .cons _ t => congrArg (· + 1) (RA.length t)
theorem RA.get : ∀ {vs : List V} {ds : List D} {i : Nat} {d : D}, RA K G vs ds → ds[i]? = some d → ∃ v, vs[i]? = some v ∧ R K G v d
  | _, _, _, _, .nil, e => by simp at e
  | _, _, 0, _, .cons r _, e => by simp at e; subst e; exact ⟨_, rfl, r⟩
  | _, _, i + 1, d, .cons _ t, e => by
    obtain ⟨u, h1, h2⟩ := RA.get (i := i) (d := d) t (by simpa using e)
    exact ⟨u, by simpa using h1, h2⟩
theorem RA.get' : ∀ {vs : List V} {ds : List D} {i : Nat} {v : V}, RA K G vs ds → vs[i]? = some v → ∃ d, ds[i]? = some d ∧ R K G v d
  | _, _, _, _, .nil, e => by simp at e
  | _, _, 0, _, .cons r _, e => by simp at e; subst e; exact ⟨_, rfl, r⟩
  | _, _, i + 1, d, .cons _ t, e => by
    obtain ⟨u, h1, h2⟩ := RA.get' (i := i) (v := d) t (by simpa using e)
    exact ⟨u, by simpa using h1, h2⟩
theorem RA.append : ∀ {xs ys : List V} {us ws : List D}, RA K G xs us → RA K G ys ws → RA K G (xs ++ ys) (us ++ ws)
  | _, _, _, _, .nil, s => s
  | _, _, _, _, .cons r t, s => .cons r (RA.append t s)
theorem RA.take : ∀ {xs : List V} {us : List D} (n : Nat), RA K G xs us → RA K G (xs.take n) (us.take n)
  | _, _, 0, _ => .nil
  | _, _, _ + 1, .nil => .nil
  | _, _, n + 1, .cons r t => .cons r (RA.take n t)
theorem RA.drop : ∀ {xs : List V} {us : List D} (n : Nat), RA K G xs us → RA K G (xs.drop n) (us.drop n)
  | _, _, 0, r => r
  | _, _, _ + 1, .nil => .nil
  | _, _, n + 1, .cons _ t => RA.drop n t
theorem RA.set {x : V} {u : D} (r : R K G x u) : ∀ {xs : List V} {us : List D} (i : Nat), RA K G xs us → RA K G (xs.set i x) (us.set i u)
  | _, _, _, .nil => .nil
  | _, _, 0, .cons _ t => .cons r t
  | _, _, i + 1, .cons q t => .cons q (RA.set r i t)
theorem RA.reverse : ∀ {xs : List V} {us : List D}, RA K G xs us → RA K G xs.reverse us.reverse
  | _, _, .nil => .nil
  | _, _, .cons r t => by
    rw [List.reverse_cons, List.reverse_cons]
    exact (RA.reverse t).append (.cons r .nil)
theorem RA.erase : ∀ {xs : List V} {us : List D} (n : Nat), RA K G xs us → RA K G (xs.eraseIdx n) (us.eraseIdx n)
  | _, _, _, .nil => .nil
  | _, _, 0, .cons _ t => t
  | _, _, n + 1, .cons r t => .cons r (RA.erase n t)
theorem RA.flat : ∀ {xs : List V} {us : List D} (n : Nat), RA K G xs us → RA K G (List.replicate n xs).flatten (List.replicate n us).flatten
  | _, _, 0, _ => .nil
  | _, _, n + 1, r => by
    rw [List.replicate_succ, List.replicate_succ, List.flatten_cons, List.flatten_cons]
    exact r.append (RA.flat n r)
theorem RA.one (r : R K G v d) : RA K G [v] [d] := .cons r .nil
theorem R.int_inv {i : Int} (r : R K G v (.int i)) : v = .int i := by cases r; rfl
theorem R.bl_inv {b : Bool} (r : R K G v (.bool b)) : v = .bl b := by cases r; rfl
theorem R.str_inv {b : Str} (r : R K G v (.str b)) : v = .str b := by cases r; rfl
theorem R.non_inv (r : R K G v .none) : v = .non := by cases r; rfl
theorem R.lst_inv (r : R K G v (.list ds)) : ∃ a xs, v = .ref a ∧ G a = some (.lst xs) ∧ RA K G xs ds := by
  cases r with
  | lst e q => exact ⟨_, _, rfl, e, q⟩
theorem R.tup_inv (r : R K G v (.tuple ds)) : ∃ a xs, v = .ref a ∧ SqT K G a xs ∧ RA K G xs ds := by
  cases r with
  | tup e q => exact ⟨_, _, rfl, e, q⟩
theorem RA.ints : ∀ {vs : List V} {ns : List Int}, RA K G vs (ns.map PyData.int) → vs = ns.map V.int
  | _, [], r => by cases r; rfl
  | _, n :: ns, r => by
    cases r with
    | cons q t => rw [q.int_inv, RA.ints t]; rfl
end

/-! ### slots -/
inductive Sl where
  | non
  /-- data -/
  | val (d : D)
  /-- a list of this def's own making, which nothing else refers to -/
  | own (xs : List D)
  /-- a list that the caller handed to be changed -/
  | par (xs : List D)
  /-- the law's script -/
  | scr (ns : List Int)
abbrev Env := List Sl

def Held (ρ : Env) (i : Nat) (xs : List D) : Prop := ρ[i]? = some (.own xs) ∨ ρ[i]? = some (.par xs)
/-- the object at a is a list held by a slot -/
def Owned (σ : St) (ρ : Env) (a : Addr) : Prop := ∃ i xs, Held ρ i xs ∧ σ[i]? = some (some (.ref a))

/-- where a def was entered -/
structure Ent where
  G : Hp
  H : Hp
  σ : St
  ρ : Env

structure Rel (K : PySem.W.Frag) (G H : Hp) (σ : St) (ρ : Env) : Prop where
  sg : Same G H
  len : σ.length = ρ.length
  sl : ∀ (i : Nat) (d : D), ρ[i]? = some (.val d) → ∃ v, σ[i]? = some (some v) ∧ R K G v d
  ow : ∀ (i : Nat) (xs : List D), Held ρ i xs → ∃ a vs, σ[i]? = some (some (.ref a)) ∧ H a = some (.lst vs) ∧ G a = none ∧ RA K G vs xs
  ds : ∀ (i j : Nat) (a : Addr) (xs ys : List D), Held ρ i xs → Held ρ j ys → σ[i]? = some (some (.ref a)) → σ[j]? = some (some (.ref a)) → i = j
  sc : ∀ (i : Nat) (ns : List Int), ρ[i]? = some (.scr ns) → ∃ a, σ[i]? = some (some (.ref a)) ∧ SqL K G a (ns.map V.int)

structure Fr (K : PySem.W.Frag) (e : Ent) (G H : Hp) (σ : St) (ρ : Env) : Prop extends Rel K G H σ ρ where
  g0 : Same e.G G
  un : ∀ b, e.H b ≠ none → e.G b = none → G b = none
  kp : ∀ b o, e.H b = some o → ¬ Owned e.σ e.ρ b → H b = some o
  al : ∀ b, e.H b ≠ none → H b ≠ none
  fr : ∀ (i : Nat) (xs : List D) (a : Addr), ρ[i]? = some (.own xs) → σ[i]? = some (some (.ref a)) → e.H a = none
  pa : ∀ (i : Nat) (xs : List D), ρ[i]? = some (.par xs) → σ[i]? = e.σ[i]? ∧ ∃ ys, e.ρ[i]? = some (.par ys)

/-- what an expression may change: from ρ, G, H to ρ', G', H' -/
structure Gr (σ : St) (ρ ρ' : Env) (G H G' H' : Hp) : Prop where
  sg : Same G G'
  un : ∀ b, H b ≠ none → G b = none → ¬ Owned σ ρ b → G' b = none
  kp : ∀ b o, H b = some o → ¬ Owned σ ρ b → H' b = some o
  al : ∀ b, H b ≠ none → H' b ≠ none
  ow : ∀ b, Owned σ ρ' b → Owned σ ρ b
theorem Gr.refl {σ : St} {ρ : Env} {G H : Hp} : Gr σ ρ ρ G H G H := ⟨Same.refl _, fun _ _ h _ => h, fun _ _ h _ => h, fun _ h => h, fun _ h => h⟩
theorem Gr.trans {σ : St} {ρ ρ1 ρ2 : Env} {G H G1 H1 G2 H2 : Hp} (a : Gr σ ρ ρ1 G H G1 H1) (b : Gr σ ρ1 ρ2 G1 H1 G2 H2) : Gr σ ρ ρ2 G H G2 H2 :=
  ⟨a.sg.trans b.sg, fun c h1 h2 h3 => b.un c (a.al c h1) (a.un c h1 h2 h3) fun q => h3 (a.ow c q), fun c o h1 h2 => b.kp c o (a.kp c o h1 h2) fun q => h2 (a.ow c q), fun c h => b.al c (a.al c h), fun c h => a.ow c (b.ow c h)⟩

/-- new immutable things: what stood stands -/
structure Ext (G H G' H' : Hp) : Prop where
  sg : Same G G'
  sh : Same H H'
  gh : Same G' H'
  un : ∀ b, H b ≠ none → G' b = G b
theorem Ext.refl {G H : Hp} (h : Same G H) : Ext G H G H := ⟨Same.refl _, Same.refl _, h, fun _ _ => rfl⟩
theorem Ext.trans {G H G1 H1 G2 H2 : Hp} (a : Ext G H G1 H1) (b : Ext G1 H1 G2 H2) : Ext G H G2 H2 :=
  ⟨a.sg.trans b.sg, a.sh.trans b.sh, b.gh, fun c h => (b.un c (by
    cases q : H c with
    | none => exact absurd q h
    | some o => rw [a.sh c o q]; simp)).trans (a.un c h)⟩
theorem same_new {H : Hp} {p : Addr} {o : HO} (h : H p = none) : Same H (upd H p o) := fun b x e => by
  rw [upd_ne (ne_of_none e h)]; exact e
/-- a new object at p, known to stay -/
theorem Ext.new {G H : Hp} {p : Addr} {o : HO} (h : Same G H) (n : H p = none) : Ext G H (upd G p o) (upd H p o) := by
  have ng : G p = none := by
    cases q : G p with
    | none => rfl
    | some u => rw [h p u q] at n; cases n
  refine ⟨same_new ng, same_new n, fun b x e => ?_, fun b hb => ?_⟩
  · by_cases hbp : b = p
    · subst hbp; rw [upd_same] at e ⊢; exact e
    · rw [upd_ne hbp] at e ⊢; exact h b x e
  · have : b ≠ p := fun e => hb (by rw [e]; exact n)
    rw [upd_ne this]
/-- .. not yet known to stay -/
theorem Ext.hid {G H : Hp} {p : Addr} {o : HO} (h : Same G H) (n : H p = none) : Ext G H G (upd H p o) :=
  ⟨Same.refl _, same_new n, h.trans (same_new n), fun _ _ => rfl⟩

section
variable {K : PySem.W.Frag} {e : Ent} {G H G' H' : Hp} {σ : St} {ρ ρ' : Env}
theorem Fr.ext (F : Fr K e G H σ ρ) (x : Ext G H G' H') : Fr K e G' H' σ ρ := by
  have alH : ∀ b, H b ≠ none → H' b ≠ none := fun b h => by
    cases q : H b with
    | none => exact absurd q h
    | some o => rw [x.sh b o q]; simp
  refine ⟨⟨x.gh, F.len, fun i d h => ?_, fun i xs h => ?_, F.ds, fun i ns h => ?_⟩, F.g0.trans x.sg, fun b h1 h2 => ?_, fun b o h1 h2 => x.sh b o (F.kp b o h1 h2), fun b h => alH b (F.al b h), F.fr, F.pa⟩
  · obtain ⟨v, h1, h2⟩ := F.sl i d h
    exact ⟨v, h1, h2.up x.sg⟩
  · obtain ⟨a, vs, h1, h2, h3, h4⟩ := F.ow i xs h
    exact ⟨a, vs, h1, x.sh _ _ h2, by rw [x.un a (by rw [h2]; simp)]; exact h3, h4.up x.sg⟩
  · obtain ⟨a, h1, h2⟩ := F.sc i ns h
    exact ⟨a, h1, x.sg.seq h2⟩
  · rw [x.un b (F.al b h1)]; exact F.un b h1 h2
theorem Ext.gr (x : Ext G H G' H') : Gr σ ρ ρ G H G' H' :=
  ⟨x.sg, fun b h1 h2 _ => by rw [x.un b h1]; exact h2, fun b o h1 _ => x.sh b o h1, fun b h => by
    cases q : H b with
    | none => exact absurd q h
    | some o => rw [x.sh b o q]; simp, fun _ h => h⟩
theorem Fr.fresh (F : Fr K e G H σ ρ) {p : Addr} (n : H p = none) : e.H p = none := by
  cases q : e.H p with
  | none => rfl
  | some o => exact absurd n (F.al p (by rw [q]; simp))
end

/-! Px2: the small language: expressions E, statements S, what they compute. -/
open PySem PySem.Spec PyProof.Rows

/-- targets: a name, or several of a tuple -/
inductive Tg where
  | one (i : Nat) | many (is : List Nat)
  deriving DecidableEq

/-- what stands in an argument list -/
inductive Ar where
  | d (d : D) | o (i : Nat)

/-! ### operations on data -/
def okL {α : Type} (xs : List α) : Bool := decide (xs.length ≤ sizeLine)
def mulOk (i j : Int) : Bool := decide (i.natAbs < 2 ^ 64) || decide (j.natAbs < 2 ^ 64)
def opD : Operator → D → D → Option D
  | .Add, .int i, .int j => some (.int (i + j))
  | .Add, .str s, .str t => if s.length + t.length ≤ sizeLine then some (.str (s ++ t)) else none
  | .Add, .list xs, .list ys => if xs.length + ys.length ≤ sizeLine then some (.list (xs ++ ys)) else none
  | .Add, .tuple xs, .tuple ys => if xs.length + ys.length ≤ sizeLine then some (.tuple (xs ++ ys)) else none
  | .Sub, .int i, .int j => some (.int (i - j))
  | .Mult, .int i, .int j => if mulOk i j then some (.int (i * j)) else none
  | .Mult, .list xs, .int j => if -(2 ^ 63) ≤ j ∧ j < 2 ^ 63 ∧ xs.length * j.toNat ≤ sizeLine then some (.list (List.replicate j.toNat xs).flatten) else none
  | .Mult, .tuple xs, .int j => if -(2 ^ 63) ≤ j ∧ j < 2 ^ 63 ∧ xs.length * j.toNat ≤ sizeLine then some (.tuple (List.replicate j.toNat xs).flatten) else none
  | .FloorDiv, .int i, .int j => if 0 < j ∧ j.natAbs < 2 ^ 9000 then some (.int (i / j)) else none
  | .Mod, .int i, .int j => if 0 < j then some (.int (i % j)) else none
  | .Pow, .int i, .int j => if 0 ≤ j ∧ j ≤ 1000000 ∧ i.natAbs < 2 ^ 64 then some (.int (i ^ j.toNat)) else none
  | _, _, _ => none
def isNon : D → Bool
  | .none => true
  | _ => false
def sh (d : D) : Bool := SeqAt.shaped d
def cmpD : CmpOp → D → D → Option Bool
  | .Eq, a, b => if sh a && sh b then some (PyData.eqv a b) else none
  | .NotEq, a, b => if sh a && sh b then some (!PyData.eqv a b) else none
  | .Lt, .int i, .int j => some (decide (i < j))
  | .LtE, .int i, .int j => some (decide (i ≤ j))
  | .Gt, .int i, .int j => some (decide (j < i))
  | .GtE, .int i, .int j => some (decide (j ≤ i))
  | .Is, a, .none => some (isNon a)
  | .IsNot, a, .none => some (!isNon a)
  | .Is, .bool a, .bool b => some (decide (a = b))
  | .IsNot, .bool a, .bool b => some (!decide (a = b))
  | .In, a, .list ds => if sh a && PyData.canLayAll0 ds then some (ds.any fun z => PyData.eqv z a) else none
  | .NotIn, a, .list ds => if sh a && PyData.canLayAll0 ds then some (!ds.any fun z => PyData.eqv z a) else none
  | .In, a, .tuple ds => if sh a && PyData.canLayAll0 ds then some (ds.any fun z => PyData.eqv z a) else none
  | .NotIn, a, .tuple ds => if sh a && PyData.canLayAll0 ds then some (!ds.any fun z => PyData.eqv z a) else none
  | .In, .str i, .str j => some (!(Builtin.Str.occurrences j i 0 j.length 1).isEmpty)
  | _, _, _ => none
def idxD : D → D → Option D
  | .list xs, .int i => atI xs i
  | .tuple xs, .int i => atI xs i
  | .str z, .int i => if z.length ≤ sizeLine then (atI z.cps.toList i).map fun c => .str ⟨#[c]⟩ else none
  | _, _ => none
def cutL {α : Type} (xs : List α) (lo hi : Option Int) : List α := (xs.drop (HT.sIx xs.length 0 lo)).take (HT.sIx xs.length xs.length hi - HT.sIx xs.length 0 lo)
def sliceD : D → Option Int → Option Int → Option D
  | .list xs, lo, hi => some (.list (cutL xs lo hi))
  | .tuple xs, lo, hi => some (.tuple (cutL xs lo hi))
  | .str z, lo, hi => if z.length ≤ sizeLine then some (.str (cutS z lo hi)) else none
  | _, _, _ => none
def revD : D → Option D
  | .list xs => some (.list xs.reverse)
  | .tuple xs => some (.tuple xs.reverse)
  | _ => none
def stepD : D → D → Option D
  | .list xs, .int k => if 0 < k ∧ k < 2 ^ 30 then some (.list (stepL k.toNat xs)) else none
  | .tuple xs, .int k => if 0 < k ∧ k < 2 ^ 30 then some (.tuple (stepL k.toNat xs)) else none
  | _, _ => none
def intsOf : List D → Option (List Int)
  | [] => some []
  | .int i :: ds => (intsOf ds).map (i :: ·)
  | _ => none
def boolsOf : List D → Option (List Bool)
  | [] => some []
  | .bool i :: ds => (boolsOf ds).map (i :: ·)
  | _ => none
def truthD : D → Option Bool
  | .bool b => some b
  | _ => none
def lenD : D → Option D
  | .list xs => some (.int xs.length)
  | .tuple xs => some (.int xs.length)
  | .str z => if z.length ≤ sizeLine then some (.int z.length) else none
  | _ => none
def listD : D → Option D
  | .list xs => some (.list xs)
  | .tuple xs => some (.list xs)
  | _ => none
def tupleD : D → Option D
  | .list xs => some (.tuple xs)
  | .tuple xs => some (.tuple xs)
  | _ => none
def intD : D → Option D
  | .int i => some (.int i)
  | .bool b => some (.int (if b then 1 else 0))
  | _ => none
def boolD : D → Option D
  | .int i => some (.bool (i != 0))
  | .bool b => some (.bool b)
  | _ => none
def sumD : D → Option D
  | .list xs => (intsOf xs).map fun ns => .int ns.sum
  | .tuple xs => (intsOf xs).map fun ns => .int ns.sum
  | _ => none
def anyD : D → Option D
  | .list xs => (boolsOf xs).map fun bs => .bool (bs.any id)
  | _ => none
def allD : D → Option D
  | .list xs => (boolsOf xs).map fun bs => .bool (bs.all id)
  | _ => none
/-- ints in order, each once -/
def insU (k : Int) : List Int → List Int
  | [] => [k]
  | x :: xs => if k < x then k :: x :: xs else if k = x then x :: xs else x :: insU k xs
def sortU : List Int → List Int
  | [] => []
  | k :: ks => insU k (sortU ks)
def ssetD : D → Option D
  | .list xs => (intsOf xs).bind fun ns => if ns.length ≤ 4000 then some (.list ((sortU ns).map PyData.int)) else none
  | _ => none
inductive B1 where
  | len | list | tuple | int | bool | sum | any | all | sset
  deriving DecidableEq
def b1D : B1 → D → Option D
  | .len => lenD | .list => listD | .tuple => tupleD | .int => intD | .bool => boolD | .sum => sumD | .any => anyD | .all => allD | .sset => ssetD
def mxD : D → D → Option D
  | .int i, .int j => some (.int (if j > i then j else i))
  | _, _ => none
def mnD : D → D → Option D
  | .int i, .int j => some (.int (if j < i then j else i))
  | _, _ => none
inductive B2 where
  | max | min
  deriving DecidableEq
def b2D : B2 → D → D → Option D
  | .max => mxD | .min => mnD
inductive M1 where
  | count
  deriving DecidableEq
def countD : D → D → Option D
  | .list xs, a => if sh a && PyData.canLayAll0 xs then some (.int (xs.countP fun z => PyData.eqv z a : Nat)) else none
  | _, _ => none
def m1D : M1 → D → D → Option D
  | .count => countD
/-- the built-in class of data -/
def tyD : D → String
  | .none => "NoneType"
  | .bool _ => "bool"
  | .int _ => "int"
  | .str _ => "str"
  | .list _ => "list"
  | .tuple _ => "tuple"
  | .dict _ => "dict"
def isi1 : D → String → Bool
  | .bool _, t => t == "bool" || t == "int"
  | d, t => t == tyD d
def isiD (d : D) (ts : List String) : Bool := ts.any (isi1 d)
def rangeD (lo : Int) (n : Nat) (c : Int) : List D := (List.range n).map fun (i : Nat) => PyData.int (lo + (i : Int) * c)
/-- how many turns range(i, j, c) has, c > 0 -/
def rangeN (i j c : Int) : Nat := ((j - i + c - 1) / c).toNat
def zipD : List D → List D → List D
  | a :: as, b :: bs => .tuple [a, b] :: zipD as bs
  | _, _ => []
def zip3D : List D → List D → List D → List D
  | a :: as, b :: bs, c :: cs => .tuple [a, b, c] :: zip3D as bs cs
  | _, _, _ => []
def enumD : Nat → List D → List D
  | _, [] => []
  | n, a :: as => .tuple [.int n, a] :: enumD (n + 1) as
def r62 (i : Int) : Bool := decide (-(2 ^ 62) ≤ i) && decide (i < 2 ^ 62)

/-! ### expressions -/
inductive E where
  | var (i : Nat) | ownIdx (i : Nat) (a : E) | ownLen (i : Nat) | scr (i : Nat) | glob (x : Str)
  | kN | kB (b : Bool) | kI (i : Int) | kS (s : Str)
  | nil | cons (a es : E) | star (a es : E) | ref (i : Nat) (es : E)
  | tup (es : E) | lst (es : E)
  | bin (op : Operator) (a b : E) | neg (a : E) | not (a : E) | and (a b : E) | or (a b : E) | truth (a : E)
  | cmp (op : CmpOp) (a b : E) | chain (op op' : CmpOp) (a b c : E) | ite (c a b : E)
  | idx (a b : E) | slice (a : E) (lo hi : E) | pN | pE (a : E) | rev (a : E) | step (a k : E)
  | b1 (f : B1) (a : E) | b2 (f : B2) (a b : E) | m1 (f : M1) (o a : E)
  | isi (a : E) (ts : List String)
  | listOf (it : E)
  | call (f : Str) (es : E)
  | comp (vs : List Nat) (tg : Tg) (it : E) (c : E) (a : E)
  | comp2 (vs vs1 : List Nat) (tg : Tg) (it : E) (c : E) (tg1 : Tg) (it1 : E) (c1 : E) (a : E)
  | range1 (a : E) | range2 (a b : E) | range3 (a b c : E) | zip (a b : E) | zip3 (a b c : E) | enum (a : E) | seq (a : E)
  deriving DecidableEq

/-! ### slots stored -/
def setV (i : Nat) (d : D) (ρ : Env) : Option Env :=
  match ρ[i]? with
  | some .non => some (ρ.set i (.val d))
  | some (.val _) => some (ρ.set i (.val d))
  | some (.own _) => some (ρ.set i (.val d))
  | _ => none
def setO (i : Nat) (ds : List D) (ρ : Env) : Option Env :=
  match ρ[i]? with
  | some .non => some (ρ.set i (.own ds))
  | some (.val _) => some (ρ.set i (.own ds))
  | some (.own _) => some (ρ.set i (.own ds))
  | _ => none
def setVs : List Nat → List D → Env → Option Env
  | [], [], ρ => some ρ
  | i :: is, d :: ds, ρ => (setV i d ρ).bind (setVs is ds)
  | _, _, _ => none
def bindT : Tg → D → Env → Option Env
  | .one i, d, ρ => setV i d ρ
  | .many is, .tuple ds, ρ => setVs is ds ρ
  | _, _, _ => none
/-- what a held list is -/
def heldD (i : Nat) (ρ : Env) : Option (List D) :=
  match ρ[i]? with
  | some (.own xs) => some xs
  | some (.par xs) => some xs
  | _ => none
/-- a held list is changed -/
def putHeld (i : Nat) (xs : List D) (ρ : Env) : Env :=
  match ρ[i]? with
  | some (.own _) => ρ.set i (.own xs)
  | some (.par _) => ρ.set i (.par xs)
  | _ => ρ
def varD (i : Nat) (ρ : Env) : Option (D × Env) :=
  match ρ[i]? with
  | some (.val d) => some (d, ρ)
  | some (.own xs) => some (.list xs, ρ.set i (.val (.list xs)))
  | _ => none
/-- the comprehension's own names hidden; none where one of them holds a list -/
def wipeE : List Nat → Env → Env
  | [], ρ => ρ
  | i :: is, ρ => (wipeE is ρ).set i .non
def noHeld (is : List Nat) (ρ : Env) : Bool := is.all fun i => match ρ[i]? with
  | some .non => true
  | some (.val _) => true
  | _ => false
/-- .. as they were -/
def backE : List Nat → Env → Env → Env
  | [], _, ρ => ρ
  | i :: is, ρ0, ρ => (backE is ρ0 ρ).set i (ρ0[i]?.getD .non)

/-! ### a def's promise, as a function: its arguments' slots to its value and them behind -/
abbrev FSem := List Sl → Option (D × List Sl)
abbrev Phi := Str → Option FSem
def argSl (ρ : Env) : List Ar → Option (List Sl)
  | [] => some []
  | .d d :: r => (argSl ρ r).map (.val d :: ·)
  | .o i :: r => (heldD i ρ).bind fun xs => (argSl ρ r).map (.par xs :: ·)
/-- the held lists behind a call -/
def argBack : List Ar → List Sl → Env → Option Env
  | [], [], ρ => some ρ
  | .d _ :: r, .val _ :: s, ρ => argBack r s ρ
  | .o i :: r, .par xs :: s, ρ => argBack r s (putHeld i xs ρ)
  | _, _, _ => none
def arIx : List Ar → List Nat
  | [] => []
  | .d _ :: r => arIx r
  | .o i :: r => i :: arIx r

abbrev Ev (α : Type) := Env → Option (α × Env)
def eB {α β : Type} (f : Ev α) (g : α → Ev β) : Ev β := fun ρ => match f ρ with
  | none => none
  | some (a, ρ1) => g a ρ1
def eP {α : Type} (a : α) : Ev α := fun ρ => some (a, ρ)
def eO {α : Type} (a : Option α) : Ev α := fun ρ => match a with
  | none => none
  | some a => some (a, ρ)
def hasHeld (i : Nat) : Ev Unit := fun ρ => match heldD i ρ with
  | some _ => some ((), ρ)
  | none => none
def atHeld (i : Nat) (k : D) : Ev D := fun ρ => match k with
  | .int n => (match (heldD i ρ).bind fun xs => atI xs n with
    | some d => some (d, ρ)
    | none => none)
  | _ => none
def seqD : D → Option (List D)
  | .list xs => some xs
  | .tuple xs => some xs
  | _ => none

def vNeg (f : Ev D) : Ev D := eB f fun x => match x with
    | .int i => eP (.int (-i))
    | _ => fun _ => none
def vNot (f : Ev D) : Ev D := eB f fun x => match x with
    | .bool b => eP (.bool (!b))
    | _ => fun _ => none
def vAnd (f1 f2 : Ev D) : Ev D := eB f1 fun x => match x with
    | .bool true => eB f2 fun y => match y with
      | .bool c => eP (.bool c)
      | _ => fun _ => none
    | .bool false => eP (.bool false)
    | _ => fun _ => none
def vOr (f1 f2 : Ev D) : Ev D := eB f1 fun x => match x with
    | .bool false => eB f2 fun y => match y with
      | .bool c => eP (.bool c)
      | _ => fun _ => none
    | .bool true => eP (.bool true)
    | _ => fun _ => none
def vIte (c f1 f2 : Ev D) : Ev D := eB c fun x => match x with
    | .bool true => f1
    | .bool false => f2
    | _ => fun _ => none
def vTruth (f : Ev D) : Ev D := eB f fun x => match truthD x with
    | some b => eP (.bool b)
    | none => fun _ => none
def vCmp (op : CmpOp) (f1 f2 : Ev D) : Ev D := eB f1 fun x => eB f2 fun y => match cmpD op x y with
    | some c => eP (.bool c)
    | none => fun _ => none
def vChain (op op' : CmpOp) (f1 f2 f3 : Ev D) : Ev D := eB f1 fun x => eB f2 fun y => match cmpD op x y with
    | some true => eB f3 fun z => match cmpD op' y z with
      | some k => eP (.bool k)
      | none => fun _ => none
    | some false => eP (.bool false)
    | none => fun _ => none
def vTup (fs : Ev (List D)) : Ev D := eB fs fun ds => if okL ds then eP (.tuple ds) else fun _ => none
def vLst (fs : Ev (List D)) : Ev D := eB fs fun ds => if okL ds then eP (.list ds) else fun _ => none
def vOwnLen (i : Nat) : Ev D := fun ρ => match heldD i ρ with
    | some xs => some (.int xs.length, ρ)
    | none => none
def vScr (i : Nat) : Ev D := fun ρ => match ρ[i]? with
    | some (.scr ns) => some (.list (ns.map .int), ρ)
    | _ => none
def vStar (f : Ev D) (fs : Ev (List D)) : Ev (List D) := eB f fun x => match seqD x with
    | some ys => eB fs fun xs => eP (ys ++ xs)
    | none => fun _ => none
def vPartI (f : Ev D) : Ev (Option Int) := eB f fun x => match x with
  | .int i => eP (some i)
  | _ => fun _ => none
def vSlice (f : Ev D) (l h : Ev (Option Int)) : Ev D := eB f fun x => eB l fun lo => eB h fun hi => eO (sliceD x lo hi)
def v2 (g : D → D → Option D) (f1 f2 : Ev D) : Ev D := eB f1 fun x => eB f2 fun y => eO (g x y)
def v1 (g : D → Option D) (f1 : Ev D) : Ev D := eB f1 fun x => eO (g x)
def vRange1 (f : Ev D) : Ev (List D) := eB f fun x => match x with
    | .int j => if r62 j then eP (rangeD 0 j.toNat 1) else fun _ => none
    | _ => fun _ => none
def vRange2 (f1 f2 : Ev D) : Ev (List D) := eB f1 fun x => eB f2 fun y => match x, y with
    | .int i, .int j => if r62 i && r62 j then eP (rangeD i (j - i).toNat 1) else fun _ => none
    | _, _ => fun _ => none
def vRange3 (f1 f2 f3 : Ev D) : Ev (List D) := eB f1 fun x => eB f2 fun y => eB f3 fun z => match x, y, z with
    | .int i, .int j, .int c => if r62 i && r62 j && decide (0 < c) && decide (c < 2 ^ 29) then eP (rangeD i (rangeN i j c) c) else fun _ => none
    | _, _, _ => fun _ => none
def vZip (f1 f2 : Ev D) : Ev (List D) := eB f1 fun x => eB f2 fun y => match x, y with
    | .list xs, .list ys => eP (zipD xs ys)
    | .tuple xs, .tuple ys => eP (zipD xs ys)
    | _, _ => fun _ => none
def vZip3 (f1 f2 f3 : Ev D) : Ev (List D) := eB f1 fun x => eB f2 fun y => eB f3 fun z => match seqD x, seqD y, seqD z with
    | some xs, some ys, some zs => eP (zip3D xs ys zs)
    | _, _, _ => fun _ => none
def vEnum (f : Ev D) : Ev (List D) := eB f fun x => match seqD x with
    | some xs => eP (enumD 0 xs)
    | none => fun _ => none
def vSeq (f : Ev D) : Ev (List D) := eB f fun x => match seqD x with
    | some xs => eP xs
    | none => fun _ => none
/-- a comprehension's turns -/
def lcLoop (vs : List Nat) (tg : Tg) (c : Ev D) (a : Ev D) : List D → Ev (List D)
  | [], ρ => some ([], ρ)
  | d :: ds, ρ => match bindT tg d ρ with
    | none => none
    | some ρ1 => match c ρ1 with
      | some (.bool true, ρ2) => match a ρ2 with
        | none => none
        | some (y, ρ3) => match lcLoop vs tg c a ds (wipeE vs ρ3) with
          | none => none
          | some (ys, ρ4) => some (y :: ys, ρ4)
      | some (.bool false, ρ2) => lcLoop vs tg c a ds (wipeE vs ρ2)
      | _ => none
def lcRun (vs : List Nat) (tg : Tg) (it : Ev (List D)) (c : Ev D) (a : Ev D) : Ev (List D) := fun ρ => match it ρ with
  | none => none
  | some (ds, ρ1) => if noHeld vs ρ1 && okL ds then (match lcLoop vs tg c a ds (wipeE vs ρ1) with
      | none => none
      | some (ys, ρ2) => some (ys, backE vs ρ1 ρ2))
    else none
/-- two clauses: the inner turns of one outer one -/
def lcLoop2 (vs vs1 : List Nat) (tg : Tg) (c : Ev D) (tg1 : Tg) (it1 : Ev (List D)) (c1 : Ev D) (a : Ev D) : List D → Ev (List D)
  | [], ρ => some ([], ρ)
  | d :: ds, ρ => match bindT tg d ρ with
    | none => none
    | some ρ1 => match c ρ1 with
      | some (.bool true, ρ2) => match it1 ρ2 with
        | none => none
        | some (es, ρ3) => match lcLoop vs1 tg1 c1 a es (wipeE vs1 ρ3) with
          | none => none
          | some (ys, ρ4) => match lcLoop2 vs vs1 tg c tg1 it1 c1 a ds (wipeE vs ρ4) with
            | none => none
            | some (zs, ρ5) => if okL (ys ++ zs) then some (ys ++ zs, ρ5) else none
      | some (.bool false, ρ2) => lcLoop2 vs vs1 tg c tg1 it1 c1 a ds (wipeE vs ρ2)
      | _ => none
def lcRun2 (vs vs1 : List Nat) (tg : Tg) (it : Ev (List D)) (c : Ev D) (tg1 : Tg) (it1 : Ev (List D)) (c1 : Ev D) (a : Ev D) : Ev (List D) := fun ρ => match it ρ with
  | none => none
  | some (ds, ρ1) => if noHeld vs ρ1 && okL ds then (match lcLoop2 vs vs1 tg c tg1 it1 c1 a ds (wipeE vs ρ1) with
      | none => none
      | some (ys, ρ2) => some (ys, backE vs ρ1 ρ2))
    else none
def callD (Φ : Phi) (f : Str) (as : List Ar) : Ev D := fun ρ => match Φ f with
  | none => none
  | some F => match argSl ρ as with
    | none => none
    | some sl => if (arIx as).Nodup then (match F sl with
        | none => none
        | some (d, sl') => match argBack as sl' ρ with
          | none => none
          | some ρ1 => some (d, ρ1))
      else none

section
variable (Φ : Phi) (Γ : Str → Option D)
mutual
/-- an expression's value -/
def ev : E → Ev D
  | .var i => varD i
  | .ownIdx i a => eB (hasHeld i) fun _ => eB (ev a) fun k => atHeld i k
  | .ownLen i => vOwnLen i
  | .scr i => vScr i
  | .glob x => eO (Γ x)
  | .kN => eP .none
  | .kB b => eP (.bool b)
  | .kI i => eP (.int i)
  | .kS s => eP (.str s)
  | .tup es => vTup (evL es)
  | .lst es => vLst (evL es)
  | .bin op a b => v2 (opD op) (ev a) (ev b)
  | .neg a => vNeg (ev a)
  | .not a => vNot (ev a)
  | .and a b => vAnd (ev a) (ev b)
  | .or a b => vOr (ev a) (ev b)
  | .truth a => vTruth (ev a)
  | .cmp op a b => vCmp op (ev a) (ev b)
  | .chain op op' a b c => vChain op op' (ev a) (ev b) (ev c)
  | .ite c a b => vIte (ev c) (ev a) (ev b)
  | .idx a b => v2 idxD (ev a) (ev b)
  | .slice a lo hi => vSlice (ev a) (evP lo) (evP hi)
  | .rev a => v1 revD (ev a)
  | .step a k => v2 stepD (ev a) (ev k)
  | .b1 f a => v1 (b1D f) (ev a)
  | .b2 f a b => v2 (b2D f) (ev a) (ev b)
  | .m1 f o a => v2 (m1D f) (ev o) (ev a)
  | .isi a ts => eB (ev a) fun x => eP (.bool (isiD x ts))
  | .listOf it => vLst (evI it)
  | .call f es => eB (evA es) fun as => callD Φ f as
  | .comp vs tg it c a => eB (lcRun vs tg (evI it) (ev c) (ev a)) fun ds => eP (.list ds)
  | .comp2 vs vs1 tg it c tg1 it1 c1 a => eB (lcRun2 vs vs1 tg (evI it) (ev c) tg1 (evI it1) (ev c1) (ev a)) fun ds => eP (.list ds)
  | _ => fun _ => none
/-- a list of items -/
def evL : E → Ev (List D)
  | .nil => eP []
  | .cons a es => eB (ev a) fun x => eB (evL es) fun xs => eP (x :: xs)
  | .star a es => vStar (ev a) (evL es)
  | _ => fun _ => none
/-- arguments -/
def evA : E → Ev (List Ar)
  | .nil => eP []
  | .cons a es => eB (ev a) fun x => eB (evA es) fun xs => eP (.d x :: xs)
  | .ref i es => eB (hasHeld i) fun _ => eB (evA es) fun xs => eP (.o i :: xs)
  | _ => fun _ => none
/-- an end of a slice -/
def evP : E → Ev (Option Int)
  | .pN => eP none
  | .pE a => vPartI (ev a)
  | _ => fun _ => none
/-- what is walked -/
def evI : E → Ev (List D)
  | .range1 a => vRange1 (ev a)
  | .range2 a b => vRange2 (ev a) (ev b)
  | .range3 a b c => vRange3 (ev a) (ev b) (ev c)
  | .zip a b => vZip (ev a) (ev b)
  | .zip3 a b c => vZip3 (ev a) (ev b) (ev c)
  | .enum a => vEnum (ev a)
  | .seq a => vSeq (ev a)
  | _ => fun _ => none
end
end

/-! ### a held list changed -/
def putX (n v : D) (xs : List D) : Option (List D) := match n with
  | .int m => (match ixN xs.length m with
    | some j => some (xs.set j v)
    | none => none)
  | _ => none
def appX (v : D) (xs : List D) : Option (List D) := if xs.length < sizeLine then some (xs ++ [v]) else none
def popX (n : D) (xs : List D) : Option (List D) := match n with
  | .int m => if okL xs then (match ixN xs.length m with
    | some j => some (xs.eraseIdx j)
    | none => none) else none
  | _ => none
def insX (n v : D) (xs : List D) : Option (List D) := match n with
  | .int m => if 0 ≤ m ∧ m < 2 ^ 63 ∧ xs.length < sizeLine then some (xs.take m.toNat ++ [v] ++ xs.drop m.toNat) else none
  | _ => none

/-! ### statements -/
inductive S where
  | skip | seq (s t : S) | set (i : Nat) (a : E) | setO (i : Nat) (a : E) | setT (tg : Tg) (a : E)
  | par (is : List Nat) (es : E) | parO (i : Nat) (a : E) (j : Nat) (b : E) | parO2 (i : Nat) (a : E) (j : Nat) (b : E)
  | put (i : Nat) (k a : E) | app (i : Nat) (a : E) | popAt (i : Nat) (k : E) | ins (i : Nat) (k a : E) | expr (a : E)
  | ite (c : E) (s t : S) | ret (a : E) | for_ (tg : Tg) (it : E) (body : S)
  deriving DecidableEq
inductive Out where
  | nx | ret (d : D)
def sB {α : Type} (f : Ev α) (g : α → Env → Option (Out × Env)) : Env → Option (Out × Env) := fun ρ => match f ρ with
  | none => none
  | some (a, ρ1) => g a ρ1
def chHeld (i : Nat) (g : List D → Option (List D)) : Env → Option (Out × Env) := fun ρ => match (heldD i ρ).bind g with
  | some xs => some (.nx, putHeld i xs ρ)
  | none => none
def nxO (ρ : Option Env) : Option (Out × Env) := match ρ with
  | some ρ => some (.nx, ρ)
  | none => none
def forLoop (tg : Tg) (body : Env → Option (Out × Env)) : List D → Env → Option (Out × Env)
  | [], ρ => some (.nx, ρ)
  | d :: ds, ρ => match bindT tg d ρ with
    | none => none
    | some ρ1 => match body ρ1 with
      | some (.nx, ρ2) => forLoop tg body ds ρ2
      | some (.ret v, ρ2) => some (.ret v, ρ2)
      | none => none
section
variable (Φ : Phi) (Γ : Str → Option D)
def evS : S → Env → Option (Out × Env)
  | .skip => fun ρ => some (.nx, ρ)
  | .seq s t => fun ρ => match evS s ρ with
    | some (.nx, ρ1) => evS t ρ1
    | some (.ret v, ρ1) => some (.ret v, ρ1)
    | none => none
  | .set i a => sB (ev Φ Γ a) fun d ρ => nxO (setV i d ρ)
  | .setO i a => sB (ev Φ Γ a) fun d ρ => match d with
    | .list ds => nxO (setO i ds ρ)
    | _ => none
  | .setT tg a => sB (ev Φ Γ a) fun d ρ => nxO (bindT tg d ρ)
  | .par is es => sB (evL Φ Γ es) fun ds ρ => nxO (setVs is ds ρ)
  | .parO i a j b => sB (ev Φ Γ a) fun x => sB (ev Φ Γ b) fun y ρ => match x with
    | .list ds => (match setV j y ρ with
      | some ρ1 => nxO (setO i ds ρ1)
      | none => none)
    | _ => none
  | .parO2 i a j b => sB (ev Φ Γ a) fun x => sB (ev Φ Γ b) fun y ρ => match y with
    | .list ds => (match setO j ds ρ with
      | some ρ1 => nxO (setV i x ρ1)
      | none => none)
    | _ => none
  | .put i k a => sB (ev Φ Γ a) fun v => sB (hasHeld i) fun _ => sB (ev Φ Γ k) fun n => chHeld i (putX n v)
  | .app i a => sB (hasHeld i) fun _ => sB (ev Φ Γ a) fun v => chHeld i (appX v)
  | .popAt i k => sB (hasHeld i) fun _ => sB (ev Φ Γ k) fun n => chHeld i (popX n)
  | .ins i k a => sB (hasHeld i) fun _ => sB (ev Φ Γ k) fun n => sB (ev Φ Γ a) fun v => chHeld i (insX n v)
  | .expr a => sB (ev Φ Γ a) fun _ ρ => some (.nx, ρ)
  | .ite c s t => sB (ev Φ Γ c) fun x => match x with
    | .bool true => evS s
    | .bool false => evS t
    | _ => fun _ => none
  | .ret a => sB (ev Φ Γ a) fun d ρ => some (.ret d, ρ)
  | .for_ tg it body => sB (evI Φ Γ it) fun ds => forLoop tg (evS body) ds
end
/-- the arguments behind a call: what was handed to be changed, as it is then -/
def outs : List Sl → Env → Option (List Sl)
  | [], _ => some []
  | .par _ :: r, .par ys :: ρ => (outs r ρ).map (.par ys :: ·)
  | .val d :: r, _ :: ρ => (outs r ρ).map (.val d :: ·)
  | .scr d :: r, _ :: ρ => (outs r ρ).map (.scr d :: ·)
  | _, _ => none
/-- a def of n names and m parameters -/
def runS (m n : Nat) (body : Env → Option (Out × Env)) : FSem := fun args => if args.length = m then (match body (args ++ List.replicate (n - m) .non) with
  | some (o, ρ) => (match outs args ρ with
    | some a' => some (match o with | .ret d => d | .nx => .none, a')
    | none => none)
  | none => none) else none
def runF (Φ : Phi) (Γ : Str → Option D) (m n : Nat) (body : S) : FSem := runS m n (evS Φ Γ body)

/-! Px3: the readings by such functions. -/
open PySem PySem.Spec PyProof.Rows

theorem eB_some {α β : Type} {f : Ev α} {g : α → Ev β} {ρ : Env} {r : β × Env} (h : eB f g ρ = some r) : ∃ a ρ1, f ρ = some (a, ρ1) ∧ g a ρ1 = some r := by
  unfold eB at h
  cases e : f ρ with
  | none => rw [e] at h; cases h
  | some p => rw [e] at h; exact ⟨p.1, p.2, rfl, h⟩
theorem eO_some {α : Type} {a : Option α} {ρ ρ' : Env} {b : α} (h : eO a ρ = some (b, ρ')) : a = some b ∧ ρ = ρ' := by
  unfold eO at h
  cases a with
  | none => cases h
  | some a => cases h; exact ⟨rfl, rfl⟩

section
variable {X : Cx} {K : PySem.W.Frag} {e : Ent}
theorem pe_imp {ex : Expr} {t t' : TE} (h : PE X ex t) (i : ∀ σ H Q, t' σ H Q → t σ H Q) : PE X ex t' := ⟨fun pins s σ H Q I q => h.run pins s σ H Q I (i σ H Q q)⟩
theorem pt_imp {ex : Expr} {t t' : TT} (h : PT X ex t) (i : ∀ σ H Q, t' σ H Q → t σ H Q) : PT X ex t' := ⟨fun pins s σ H Q I q => h.run pins s σ H Q I (i σ H Q q)⟩
theorem pa_imp {es : List Expr} {t t' : TA} (h : PA X es t) (i : ∀ σ H Q, t' σ H Q → t σ H Q) : PA X es t' := ⟨fun pos pins s σ H Q I q => h.run pos pins s σ H Q I (i σ H Q q)⟩
theorem pi_imp {tg ex : Expr} {t t' : TI} (h : PI X tg ex t) (i : ∀ σ H Q, t' σ H Q → t σ H Q) : PI X tg ex t' := ⟨fun pins s σ H Q I q => h.run pins s σ H Q I (i σ H Q q)⟩
theorem ps_imp {st : Stmt} {t t' : TS} (h : PS X st t) (i : ∀ D σ H, t' D σ H → t D σ H) : PS X st t' := ⟨fun pins s σ H D I q => h.run pins s σ H D I (i D σ H q)⟩
theorem pss_imp {st : List Stmt} {t t' : TS} (h : PSs X st t) (i : ∀ D σ H, t' D σ H → t D σ H) : PSs X st t' := ⟨fun pins s σ H D I q => h.run pins s σ H D I (i D σ H q)⟩
end

/-! ### the readings -/
def dE (K : PySem.W.Frag) (e : Ent) (f : Ev D) : TE := fun σ H Q => ∃ G ρ d ρ', Fr K e G H σ ρ ∧ f ρ = some (d, ρ') ∧ ∀ G' H' v, Fr K e G' H' σ ρ' → Gr σ ρ ρ' G H G' H' → R K G' v d → Q v H'
/-- a new list, which nothing else refers to -/
def dF (K : PySem.W.Frag) (e : Ent) (f : Ev D) : TE := fun σ H Q => ∃ G ρ ds ρ', Fr K e G H σ ρ ∧ f ρ = some (.list ds, ρ') ∧
  ∀ G' H' p vs, Fr K e G' H' σ ρ' → Gr σ ρ ρ' G H G' H' → H p = none → H' p = some (.lst vs) → G' p = none → RA K G' vs ds → Q (.ref p) H'
def dT (K : PySem.W.Frag) (e : Ent) (f : Ev D) : TT := fun σ H Q => ∃ G ρ b ρ', Fr K e G H σ ρ ∧ f ρ = some (.bool b, ρ') ∧ ∀ G' H', Fr K e G' H' σ ρ' → Gr σ ρ ρ' G H G' H' → Q b H'
def dL (K : PySem.W.Frag) (e : Ent) (f : Ev (List D)) : TA := fun σ H Q => ∃ G ρ d ρ', Fr K e G H σ ρ ∧ f ρ = some (d, ρ') ∧ ∀ G' H' vs, Fr K e G' H' σ ρ' → Gr σ ρ ρ' G H G' H' → RA K G' vs d → Q vs H'
inductive ArR (K : PySem.W.Frag) (G : Hp) (σ : St) : V → Ar → Prop where
  | d {v : V} {d : D} : R K G v d → ArR K G σ v (.d d)
  | o {v : V} {i : Nat} : σ[i]? = some (some v) → ArR K G σ v (.o i)
def dA (K : PySem.W.Frag) (e : Ent) (f : Ev (List Ar)) : TA := fun σ H Q => ∃ G ρ d ρ', Fr K e G H σ ρ ∧ f ρ = some (d, ρ') ∧ ∀ G' H' vs, Fr K e G' H' σ ρ' → Gr σ ρ ρ' G H G' H' → Paired (ArR K G' σ) vs d → Q vs H'
/-- a walk over ds while G stands -/
def WalkD (K : PySem.W.Frag) (G : Hp) (J : It) (ds : List D) : Prop := ∃ (P : Hp → Prop) (Y : Nat → Hp → V → Hp → Prop), Walk J ds.length P Y ∧ (∀ H, Same G H → P H) ∧
  ∀ i H x H', i < ds.length → Same G H → Y i H x H' → ∃ d, ds[i]? = some d ∧ ∀ G1, Same G G1 → Same G1 H → ∃ G2, Ext G1 H G2 H' ∧ R K G2 x d
def dI (K : PySem.W.Frag) (e : Ent) (f : Ev (List D)) : TI := fun σ H Q => ∃ G ρ ds ρ', Fr K e G H σ ρ ∧ f ρ = some (ds, ρ') ∧ ∀ G' H' J, Fr K e G' H' σ ρ' → Gr σ ρ ρ' G H G' H' → WalkD K G' J ds → Q J H'

/-- Q is reached by any value that is d, in any heap where nothing that stood is changed -/
def Fin (K : PySem.W.Frag) (G H : Hp) (d : D) (Q : VK) : Prop := ∀ G' H' v, Ext G H G' H' → R K G' v d → Q v H'
def FinL (K : PySem.W.Frag) (G H : Hp) (ds : List D) (Q : VK) : Prop := ∀ H' p vs, Ext G H G H' → H p = none → H' p = some (.lst vs) → G p = none → RA K G vs ds → Q (.ref p) H'

section
variable {X : Cx} {K : PySem.W.Frag} {e : Ent} {G H : Hp} {Q : VK} {d : D} {ds : List D}
theorem none_of_same (h : Same G H) {p : Addr} (n : H p = none) : G p = none := by
  cases q : G p with
  | none => rfl
  | some u => rw [h p u q] at n; cases n
theorem freezeExt {G H : Hp} {p : Addr} {vs : List V} (h : Same G H) (hp : H p = some (.lst vs)) (n : G p = none) : Same G (upd G p (.lst vs)) ∧ Same (upd G p (.lst vs)) H := by
  refine ⟨fun b x q => by rw [upd_ne (ne_of_none q n)]; exact q, fun b x q => ?_⟩
  by_cases hb : b = p
  · subst hb; rw [upd_same] at q; cases q; exact hp
  · rw [upd_ne hb] at q; exact h b x q
theorem Fin.toL (f : Fin K G H (.list ds) Q) : FinL K G H ds Q := fun H' p vs x n hp ng r => by
  obtain ⟨h1, h2⟩ := freezeExt x.gh hp ng
  refine f (upd G p (.lst vs)) H' (.ref p) ⟨h1, x.sh, h2, fun b hb => ?_⟩ (.lst upd_same (r.up h1))
  have : b ≠ p := fun q => hb (by rw [q]; exact n)
  rw [upd_ne this]
theorem Fin.new_lst {p : Addr} {vs : List V} (f : Fin K G H (.list ds) Q) (h : Same G H) (n : H p = none) (r : RA K G vs ds) : Q (.ref p) (upd H p (.lst vs)) :=
  f.toL _ p vs (Ext.hid h n) n upd_same (none_of_same h n) r
theorem Fin.new_tup {p : Addr} {vs : List V} (f : Fin K G H (.tuple ds) Q) (h : Same G H) (n : H p = none) (r : RA K G vs ds) : Q (.ref p) (upd H p (.tup vs)) :=
  f _ _ _ (Ext.new h n) (.tup (.inl (.inl upd_same)) (r.up (same_new (none_of_same h n))))
theorem FinL.new {p : Addr} {vs : List V} (f : FinL K G H ds Q) (h : Same G H) (n : H p = none) (r : RA K G vs ds) : Q (.ref p) (upd H p (.lst vs)) :=
  f _ p vs (Ext.hid h n) n upd_same (none_of_same h n) r
theorem Fin.same {v : V} (f : Fin K G H d Q) (h : Same G H) (r : R K G v d) : Q v H := f G H v (Ext.refl h) r

/-- dE's end, at the last heap -/
theorem fin_of {σ : St} {ρ ρ1 : Env} {G1 H1 : Hp} (F1 : Fr K e G1 H1 σ ρ1) (g1 : Gr σ ρ ρ1 G H G1 H1) (q : ∀ G' H' v, Fr K e G' H' σ ρ1 → Gr σ ρ ρ1 G H G' H' → R K G' v d → Q v H') : Fin K G1 H1 d Q :=
  fun G' H' v x r => q G' H' v (F1.ext x) (g1.trans x.gr) r
theorem finL_of {σ : St} {ρ ρ1 : Env} {G1 H1 : Hp} (F1 : Fr K e G1 H1 σ ρ1) (g1 : Gr σ ρ ρ1 G H G1 H1)
    (q : ∀ G' H' p vs, Fr K e G' H' σ ρ1 → Gr σ ρ ρ1 G H G' H' → H p = none → H' p = some (.lst vs) → G' p = none → RA K G' vs ds → Q (.ref p) H') : FinL K G1 H1 ds Q :=
  fun H' p vs x n hp ng r => q G1 H' p vs (F1.ext x) (g1.trans x.gr) (by
    cases z : H p with
    | none => rfl
    | some o => exact absurd n (g1.al p (by rw [z]; simp))) hp ng r

/-- freezing -/
theorem Fr.freeze {σ : St} {ρ : Env} {p : Addr} {vs : List V} (F : Fr K e G H σ ρ) (hp : H p = some (.lst vs)) (n : G p = none) (h0 : e.H p = none) (no : ¬ Owned σ ρ p) : Fr K e (upd G p (.lst vs)) H σ ρ := by
  obtain ⟨h1, h2⟩ := freezeExt F.sg hp n
  refine ⟨⟨h2, F.len, fun i d h => ?_, fun i xs h => ?_, F.ds, fun i ns h => ?_⟩, F.g0.trans h1, fun b q1 q2 => ?_, F.kp, F.al, F.fr, F.pa⟩
  · obtain ⟨v, a1, a2⟩ := F.sl i d h
    exact ⟨v, a1, a2.up h1⟩
  · obtain ⟨a, ws, a1, a2, a3, a4⟩ := F.ow i xs h
    refine ⟨a, ws, a1, a2, ?_, a4.up h1⟩
    rw [upd_ne fun z => no ⟨i, xs, h, by rw [← z]; exact a1⟩]; exact a3
  · obtain ⟨a, a1, a2⟩ := F.sc i ns h
    exact ⟨a, a1, h1.seq a2⟩
  · rw [upd_ne fun z => q1 (by rw [z]; exact h0)]; exact F.un b q1 q2
theorem dE_of_dF {f : Ev D} {σ : St} (h : dE K e f σ H Q) (hl : ∀ ρ d ρ', f ρ = some (d, ρ') → ∃ ds, d = .list ds) : dF K e f σ H Q := by
  obtain ⟨G, ρ, d, ρ', F, hf, q⟩ := h
  obtain ⟨ds, rfl⟩ := hl _ _ _ hf
  refine ⟨G, ρ, ds, ρ', F, hf, fun G' H' p vs F' g' n hp ng r => ?_⟩
  obtain ⟨h1, h2⟩ := freezeExt F'.sg hp ng
  have no : ¬ Owned σ ρ' p := fun o => by
    obtain ⟨i, xs, ho, hs⟩ := g'.ow p o
    obtain ⟨a, ws, a1, a2, _⟩ := F.ow i xs ho
    rw [hs] at a1; cases a1; rw [n] at a2; cases a2
  refine q (upd G' p (.lst vs)) H' (.ref p) (F'.freeze hp ng (F.fresh n) no) ⟨g'.sg.trans h1, fun b q1 q2 q3 => ?_, g'.kp, g'.al, g'.ow⟩ (.lst upd_same (r.up h1))
  rw [upd_ne fun z => q1 (by rw [z]; exact n)]
  exact g'.un b q1 q2 q3
theorem pe_of_fresh {ex : Expr} {f : Ev D} (h : PE X ex (dF K e f)) (hl : ∀ ρ d ρ', f ρ = some (d, ρ') → ∃ ds, d = .list ds) : PE X ex (dE K e f) := pe_imp h fun _ _ _ q => dE_of_dF q hl
theorem dT_of_dE {f : Ev D} {σ : St} {Q : Bool → Hp → Prop} (h : dT K e f σ H Q) : dE K e f σ H (fun x H1 => ∃ c, x = .bl c ∧ Q c H1) := by
  obtain ⟨G, ρ, b, ρ', F, hf, q⟩ := h
  exact ⟨G, ρ, _, ρ', F, hf, fun G' H' v F' g' r => ⟨b, r.bl_inv, q G' H' F' g'⟩⟩
end

/-! ### one, two, three parts -/
section
variable {X : Cx} {K : PySem.W.Frag} {e : Ent} {f f1 f2 f3 : Ev D} {σ : St} {H : Hp} {Q : VK}
theorem d1 {h : D → Ev D} (q : dE K e (eB f1 h) σ H Q) : dE K e f1 σ H fun x H1 => ∃ G ρ d1 d ρ', Fr K e G H1 σ ρ ∧ R K G x d1 ∧ h d1 ρ = some (d, ρ') ∧ ∀ G' H' v, Fr K e G' H' σ ρ' → Gr σ ρ ρ' G H1 G' H' → R K G' v d → Q v H' := by
  obtain ⟨G, ρ, d, ρ', F, hf, q⟩ := q
  obtain ⟨a, ρ1, e1, e2⟩ := eB_some hf
  exact ⟨G, ρ, a, ρ1, F, e1, fun G1 H1 v F1 g1 r1 => ⟨G1, ρ1, a, d, ρ', F1, r1, e2, fun G' H' v F' g' r => q G' H' v F' (g1.trans g') r⟩⟩
theorem d1L {h : D → Ev D} (q : dF K e (eB f1 h) σ H Q) : dE K e f1 σ H fun x H1 => ∃ G ρ d1 ds ρ', Fr K e G H1 σ ρ ∧ R K G x d1 ∧ h d1 ρ = some (.list ds, ρ') ∧
    ∀ G' H' p vs, Fr K e G' H' σ ρ' → Gr σ ρ ρ' G H1 G' H' → H1 p = none → H' p = some (.lst vs) → G' p = none → RA K G' vs ds → Q (.ref p) H' := by
  obtain ⟨G, ρ, d, ρ', F, hf, q⟩ := q
  obtain ⟨a, ρ1, e1, e2⟩ := eB_some hf
  refine ⟨G, ρ, a, ρ1, F, e1, fun G1 H1 v F1 g1 r1 => ⟨G1, ρ1, a, d, ρ', F1, r1, e2, fun G' H' p vs F' g' n hp ng r => q G' H' p vs F' (g1.trans g') ?_ hp ng r⟩⟩
  cases z : H p with
  | none => rfl
  | some o => exact absurd n (g1.al p (by rw [z]; simp))
/-- a function of one value -/
def Op1 (K : PySem.W.Frag) (r : V → Hp → VK → Prop) (g : D → Option D) : Prop := ∀ G H x d1 d Q, Same G H → R K G x d1 → g d1 = some d → Fin K G H d Q → r x H Q
def Op1L (K : PySem.W.Frag) (r : V → Hp → VK → Prop) (g : D → Option D) : Prop := ∀ G H x d1 ds Q, Same G H → R K G x d1 → g d1 = some (.list ds) → FinL K G H ds Q → r x H Q
def Op2 (K : PySem.W.Frag) (r : R2) (g : D → D → Option D) : Prop := ∀ G H x y d1 d2 d Q, Same G H → R K G x d1 → R K G y d2 → g d1 d2 = some d → Fin K G H d Q → r x y H Q
def Op2L (K : PySem.W.Frag) (r : R2) (g : D → D → Option D) : Prop := ∀ G H x y d1 d2 ds Q, Same G H → R K G x d1 → R K G y d2 → g d1 d2 = some (.list ds) → FinL K G H ds Q → r x y H Q
theorem op1 {r : V → Hp → VK → Prop} {g : D → Option D} (o : Op1 K r g) (q : dE K e (eB f1 fun x => eO (g x)) σ H Q) : dE K e f1 σ H fun x H1 => r x H1 Q := by
  obtain ⟨G, ρ, d, ρ', F, hf, q⟩ := d1 q
  refine ⟨G, ρ, d, ρ', F, hf, fun G1 H1 v F1 g1 r1 => ?_⟩
  obtain ⟨G2, ρ2, d2, d3, ρ3, F2, r2, e2, q2⟩ := q G1 H1 v F1 g1 r1
  obtain ⟨e3, e4⟩ := eO_some e2
  cases e4
  exact o G2 H1 v d2 d3 Q F2.sg r2 e3 (fin_of F2 .refl q2)
theorem op1L {r : V → Hp → VK → Prop} {g : D → Option D} (o : Op1L K r g) (q : dF K e (eB f1 fun x => eO (g x)) σ H Q) : dE K e f1 σ H fun x H1 => r x H1 Q := by
  obtain ⟨G, ρ, d, ρ', F, hf, q⟩ := d1L q
  refine ⟨G, ρ, d, ρ', F, hf, fun G1 H1 v F1 g1 r1 => ?_⟩
  obtain ⟨G2, ρ2, d2, ds, ρ3, F2, r2, e2, q2⟩ := q G1 H1 v F1 g1 r1
  obtain ⟨e3, e4⟩ := eO_some e2
  cases e4
  exact o G2 H1 v d2 ds Q F2.sg r2 e3 (finL_of F2 .refl q2)
theorem op2 {r : R2} {g : D → D → Option D} (o : Op2 K r g) (q : dE K e (eB f1 fun x => eB f2 fun y => eO (g x y)) σ H Q) : dE K e f1 σ H fun x H1 => dE K e f2 σ H1 fun y H2 => r x y H2 Q := by
  obtain ⟨G, ρ, d, ρ', F, hf, q⟩ := q
  obtain ⟨a, ρ1, e1, h1⟩ := eB_some hf
  obtain ⟨b, ρ2, e2, h2⟩ := eB_some h1
  obtain ⟨e3, e4⟩ := eO_some h2
  cases e4
  exact ⟨G, ρ, a, ρ1, F, e1, fun G1 H1 v F1 g1 r1 => ⟨G1, ρ1, b, ρ', F1, e2, fun G2 H2 u F2 g2 r2 => o G2 H2 v u a b d Q F2.sg (r1.up g2.sg) r2 e3 (fin_of F2 (g1.trans g2) q)⟩⟩
theorem op2L {r : R2} {g : D → D → Option D} (o : Op2L K r g) (q : dF K e (eB f1 fun x => eB f2 fun y => eO (g x y)) σ H Q) : dE K e f1 σ H fun x H1 => dE K e f2 σ H1 fun y H2 => r x y H2 Q := by
  obtain ⟨G, ρ, d, ρ', F, hf, q⟩ := q
  obtain ⟨a, ρ1, e1, h1⟩ := eB_some hf
  obtain ⟨b, ρ2, e2, h2⟩ := eB_some h1
  obtain ⟨e3, e4⟩ := eO_some h2
  cases e4
  exact ⟨G, ρ, a, ρ1, F, e1, fun G1 H1 v F1 g1 r1 => ⟨G1, ρ1, b, ρ', F1, e2, fun G2 H2 u F2 g2 r2 => o G2 H2 v u a b d Q F2.sg (r1.up g2.sg) r2 e3 (finL_of F2 (g1.trans g2) q)⟩⟩
end

/-! ### what the operators do with data -/
section
variable {X : Cx} {K : PySem.W.Frag}
theorem sqL_of {G H : Hp} {a : Addr} {xs : List V} (h : Same G H) (q : G a = some (.lst xs)) : SqL K H a xs := .inl (.inl (h _ _ q))
theorem sqT_of {G H : Hp} {a : Addr} {xs : List V} (h : Same G H) (q : SqT K G a xs) : SqT K H a xs := sqT_mono h q

def rAddD (K : PySem.W.Frag) : R2 := fun x y H Q => (rI0 fun i j => .int (i + j)) x y H Q ∨ (fun x y H Q => ∃ i j, x = .str i ∧ y = .str j ∧ i.length + j.length ≤ sizeLine ∧ Q (.str (i ++ j)) H) x y H Q ∨ rCat x y H Q ∨ rCatA K x y H Q
theorem op_addD : OpR X (binaryOp .Add) (rAddD X.K) := op_add.or (op_add_str.or (op_cat.or op_catA))
theorem o2_add : Op2 K (rAddD K) (opD .Add) := by
  intro G H x y a b d Q hs ra rb hd f
  cases a <;> cases b <;> simp only [opD, reduceCtorEq] at hd
  · rename_i i j
    cases hd
    exact .inl ⟨i, j, ra.int_inv, rb.int_inv, f.same hs (.int _)⟩
  · rename_i i j
    split at hd
    · rename_i hl
      cases hd
      exact .inr (.inl ⟨i, j, ra.str_inv, rb.str_inv, hl, f.same hs (.str _)⟩)
    · cases hd
  · rename_i xs ys
    split at hd
    · rename_i hl
      cases hd
      obtain ⟨a, vs, rfl, ha, rva⟩ := ra.lst_inv
      obtain ⟨b, ws, rfl, hb, rvb⟩ := rb.lst_inv
      exact .inr (.inr (.inl ⟨a, b, vs, ws, rfl, rfl, hs _ _ ha, hs _ _ hb, by rw [rva.length, rvb.length]; exact hl, fun p n => f.new_lst hs n (rva.append rvb)⟩))
    · cases hd
  · rename_i xs ys
    split at hd
    · rename_i hl
      cases hd
      obtain ⟨a, vs, rfl, ha, rva⟩ := ra.tup_inv
      obtain ⟨b, ws, rfl, hb, rvb⟩ := rb.tup_inv
      refine .inr (.inr (.inr ⟨a, b, vs, ws, rfl, rfl, sqT_of hs ha, sqT_of hs hb, by rw [rva.length, rvb.length]; exact hl, fun e1 => ?_, fun e1 e2 => ?_, fun e1 e2 p n => f.new_tup hs n (rva.append rvb)⟩))
      · subst e1
        cases rva
        exact f.same hs (.tup hb (by simpa using rvb))
      · subst e2
        cases rvb
        exact f.same hs (.tup ha (by simpa using rva))
    · cases hd
theorem o2_addL : Op2L K (rAddD K) (opD .Add) := by
  intro G H x y a b d Q hs ra rb hd f
  cases a <;> cases b <;> simp only [opD, reduceCtorEq] at hd
  · cases hd
  · split at hd <;> cases hd
  · rename_i xs ys
    split at hd
    · rename_i hl
      cases hd
      obtain ⟨a, vs, rfl, ha, rva⟩ := ra.lst_inv
      obtain ⟨b, ws, rfl, hb, rvb⟩ := rb.lst_inv
      exact .inr (.inr (.inl ⟨a, b, vs, ws, rfl, rfl, hs _ _ ha, hs _ _ hb, by rw [rva.length, rvb.length]; exact hl, fun p n => f.new hs n (rva.append rvb)⟩))
    · cases hd
  · split at hd <;> cases hd
theorem o2_sub : Op2 K (rI0 fun i j => .int (i - j)) (opD .Sub) := by
  intro G H x y a b d Q hs ra rb hd f
  cases a <;> cases b <;> simp only [opD, reduceCtorEq] at hd
  cases hd
  exact ⟨_, _, ra.int_inv, rb.int_inv, f.same hs (.int _)⟩
theorem mulOk_of {i j : Int} (h : mulOk i j = true) : CMul i j := by
  unfold mulOk at h
  simp only [Bool.or_eq_true, decide_eq_true_eq] at h
  rcases h with h | h
  · exact .inl ⟨by omega, by omega⟩
  · exact .inr ⟨by omega, by omega⟩
theorem o2_mod : Op2 K (rI (fun _ j => 0 < j) fun i j => .int (i % j)) (opD .Mod) := by
  intro G H x y a b d Q hs ra rb hd f
  cases a <;> cases b <;> simp only [opD, reduceCtorEq] at hd
  split at hd
  · rename_i h
    cases hd
    exact ⟨_, _, ra.int_inv, rb.int_inv, h, f.same hs (.int _)⟩
  · cases hd
theorem o2_fdiv : Op2 K (rI CDivW fun i j => .int (i / j)) (opD .FloorDiv) := by
  intro G H x y a b d Q hs ra rb hd f
  cases a <;> cases b <;> simp only [opD, reduceCtorEq] at hd
  split at hd
  · rename_i h
    cases hd
    exact ⟨_, _, ra.int_inv, rb.int_inv, wide_div h.1 h.2 (by omega) (by omega), f.same hs (.int _)⟩
  · cases hd
theorem o2_pow : Op2 K (rI CPow fun i j => .int (i ^ j.toNat)) (opD .Pow) := by
  intro G H x y a b d Q hs ra rb hd f
  cases a <;> cases b <;> simp only [opD, reduceCtorEq] at hd
  split at hd
  · rename_i h
    cases hd
    exact ⟨_, _, ra.int_inv, rb.int_inv, h, f.same hs (.int _)⟩
  · cases hd
theorem atI_some {α : Type} {xs : List α} {i : Int} {a : α} (h : atI xs i = some a) : ∃ j, ixN xs.length i = some j ∧ xs[j]? = some a := by
  unfold atI at h
  cases e : ixN xs.length i with
  | none => rw [e] at h; cases h
  | some j => rw [e] at h; exact ⟨j, rfl, h⟩
theorem RA.atI {G : Hp} {vs : List V} {ds : List D} {i : Int} {d : D} (r : RA K G vs ds) (h : atI ds i = some d) : ∃ v, atI vs i = some v ∧ R K G v d := by
  obtain ⟨j, h1, h2⟩ := atI_some h
  obtain ⟨v, h3, h4⟩ := r.get h2
  refine ⟨v, ?_, h4⟩
  unfold L2.atI
  rw [r.length, h1]
  exact h3
theorem o2_idx : Op2 K (rIx K) idxD := by
  intro G H x y a b d Q hs ra rb hd f
  cases a <;> cases b <;> simp only [idxD, reduceCtorEq] at hd
  · split at hd
    · rename_i z i h
      cases e : L2.atI z.cps.toList i with
      | none => rw [e] at hd; cases hd
      | some c =>
        rw [e] at hd
        cases hd
        exact .inr (.inr ⟨z, i, c, ra.str_inv, rb.int_inv, h, e, f.same hs (.str _)⟩)
    · cases hd
  · obtain ⟨a, vs, rfl, ha, rva⟩ := ra.lst_inv
    obtain ⟨v, h1, h2⟩ := rva.atI hd
    exact .inl ⟨a, vs, _, v, rfl, rb.int_inv, sqL_of hs ha, h1, f.same hs h2⟩
  · obtain ⟨a, vs, rfl, ha, rva⟩ := ra.tup_inv
    obtain ⟨v, h1, h2⟩ := rva.atI hd
    exact .inr (.inl ⟨a, vs, _, v, rfl, rb.int_inv, sqT_of hs ha, h1, f.same hs h2⟩)
/-- comparisons -/
def Cm (K : PySem.W.Frag) (r : R2) (g : D → D → Option Bool) : Prop := ∀ G H x y d1 d2 b Q, Same G H → R K G x d1 → R K G y d2 → g d1 d2 = some b → Q (.bl b) H → r x y H Q
theorem cm_eq : Cm K (rEqD K) (cmpD .Eq) := by
  intro G H x y a b c Q hs ra rb hd q
  unfold cmpD at hd
  simp only [Bool.and_eq_true] at hd
  split at hd
  · rename_i h
    cases hd
    exact ⟨a, b, ra.dp hs, rb.dp hs, h.1, h.2, q⟩
  · cases hd
theorem cm_ne : Cm K (rNeD K) (cmpD .NotEq) := by
  intro G H x y a b c Q hs ra rb hd q
  unfold cmpD at hd
  simp only [Bool.and_eq_true] at hd
  split at hd
  · rename_i h
    cases hd
    exact ⟨a, b, ra.dp hs, rb.dp hs, h.1, h.2, q⟩
  · cases hd
theorem cm_lt : Cm K (rI0 fun i j => .bl (decide (i < j))) (cmpD .Lt) := by
  intro G H x y a b c Q hs ra rb hd q
  cases a <;> cases b <;> simp only [cmpD, reduceCtorEq] at hd
  cases hd
  exact ⟨_, _, ra.int_inv, rb.int_inv, q⟩
theorem cm_le : Cm K (rI0 fun i j => .bl (decide (i ≤ j))) (cmpD .LtE) := by
  intro G H x y a b c Q hs ra rb hd q
  cases a <;> cases b <;> simp only [cmpD, reduceCtorEq] at hd
  cases hd
  exact ⟨_, _, ra.int_inv, rb.int_inv, q⟩
theorem cm_gt : Cm K (rI0 fun i j => .bl (decide (j < i))) (cmpD .Gt) := by
  intro G H x y a b c Q hs ra rb hd q
  cases a <;> cases b <;> simp only [cmpD, reduceCtorEq] at hd
  cases hd
  exact ⟨_, _, ra.int_inv, rb.int_inv, q⟩
theorem cm_ge : Cm K (rI0 fun i j => .bl (decide (j ≤ i))) (cmpD .GtE) := by
  intro G H x y a b c Q hs ra rb hd q
  cases a <;> cases b <;> simp only [cmpD, reduceCtorEq] at hd
  cases hd
  exact ⟨_, _, ra.int_inv, rb.int_inv, q⟩
theorem isNon_iff {G : Hp} {x : V} {d : D} (r : R K G x d) : decide (x = .non) = isNon d := by
  cases r <;> rfl
def rIsD : R2 := fun x y H Q => (fun (x y : V) (H : Hp) (Q : VK) => y = .non ∧ Q (.bl (decide (x = .non))) H) x y H Q ∨ rIsB x y H Q
def rIsntD : R2 := fun x y H Q => (fun (x y : V) (H : Hp) (Q : VK) => y = .non ∧ Q (.bl (!decide (x = .non))) H) x y H Q ∨ rNotB x y H Q
theorem op_isD : OpR X (compareOp .Is) rIsD := op_isN.or op_isBl
theorem op_isntD : OpR X (compareOp .IsNot) rIsntD := op_notN.or op_notBl
theorem cm_is : Cm K rIsD (cmpD .Is) := by
  intro G H x y a b c Q hs ra rb hd q
  cases b with
  | none =>
    have e : cmpD .Is a .none = some (isNon a) := by cases a <;> rfl
    rw [e] at hd
    cases hd
    exact .inl ⟨rb.non_inv, by rw [isNon_iff ra]; exact q⟩
  | bool b =>
    cases a <;> simp only [cmpD, reduceCtorEq] at hd
    cases hd
    exact .inr ⟨_, _, ra.bl_inv, rb.bl_inv, q⟩
  | _ => cases a <;> simp only [cmpD, reduceCtorEq] at hd
theorem cm_isnt : Cm K rIsntD (cmpD .IsNot) := by
  intro G H x y a b c Q hs ra rb hd q
  cases b with
  | none =>
    have e : cmpD .IsNot a .none = some (!isNon a) := by cases a <;> rfl
    rw [e] at hd
    cases hd
    exact .inl ⟨rb.non_inv, by rw [isNon_iff ra]; exact q⟩
  | bool b =>
    cases a <;> simp only [cmpD, reduceCtorEq] at hd
    cases hd
    exact .inr ⟨_, _, ra.bl_inv, rb.bl_inv, q⟩
  | _ => cases a <;> simp only [cmpD, reduceCtorEq] at hd
end

/-! Px4: the constructs' rules by such readings. -/
open PySem PySem.Spec PyProof.Rows

/-! ### forms of the syntax -/
def notStar : Expr → Bool
  | .Starred _ _ => false
  | _ => true
theorem starEach_of {ex : Expr} {es : List Expr} {env : PySem.Env} (h : notStar ex = true) : starEach (ex :: es) env = (false, eval ex env) :: starEach es env := by
  cases ex <;> first | rfl | (simp [notStar] at h)
def noStars (es : List Expr) : Bool := es.all notStar
theorem noStars_any {pos : Pos} {env : PySem.Env} : ∀ {es : List Expr}, noStars es = true → (backTo pos (starEach es env)).any (·.1) = false
  | [], _ => rfl
  | ex :: es, h => by
    unfold noStars at h
    rw [List.all_cons, Bool.and_eq_true] at h
    rw [starEach_of h.1]
    have ih := noStars_any (pos := pos) (env := env) (es := es) h.2
    unfold backTo at ih ⊢
    rw [List.map_cons, List.any_cons, ih]
    rfl
def notComp : Expr → Bool
  | .ListComp .. => false
  | .SetComp .. => false
  | .DictComp .. => false
  | _ => true
theorem swaps_of {ex : Expr} {tg : Option Expr} {l : Nat} {env : PySem.Env} (h : notComp ex = true) : swapsWith ex tg l env = pure false := by
  cases ex <;> first | rfl | (simp [notComp] at h)
def plainT : Expr → Bool
  | .UnaryOp .Not _ _ => false
  | .BoolOp .. => false
  | .IfExp .. => false
  | .Compare .. => false
  | _ => true
theorem isTrue_of {ex : Expr} {env : PySem.Env} (h : plainT ex = true) : ∀ whole, isTrue ex env whole = (do let v ← whole; standAt ex.pos; holding [v] (truthy v)) := by
  intro whole
  cases ex <;> first | rfl | (simp [plainT] at h; done) | skip
  rename_i op x pos
  cases op <;> first | rfl | (simp [plainT] at h)
def notSet : Expr → Bool
  | .Set .. => false
  | _ => true
theorem folded_of {ex : Expr} {env : PySem.Env} (h : notSet ex = true) : ∀ x, foldedSetIterable ex env x = pure x := by
  intro x
  cases ex <;> first | rfl | (simp [notSet] at h)
theorem behind_of {op : CmpOp} {ex : Expr} (h : notSet ex = true) : behindInMarks op ex = false := by
  cases ex <;> first | rfl | (simp [notSet] at h)
def notSlice : Expr → Bool
  | .Slice .. => false
  | _ => true
theorem plainIx_of {ex : Expr} (h : notSlice ex = true) : PlainIx ex := by
  intro o i
  cases ex <;> first | rfl | (simp [notSlice] at h)

/-! ### where the rules hold -/
/-- a def's promise by a function -/
def spF (K : PySem.W.Frag) (F : FSem) : Sp := fun vs H Q _ => ∃ G args d out, Rel K G H (vs.map some) args ∧ F args = some (d, out) ∧
  (∀ (i : Nat) (xs : List D), args[i]? ≠ some (.own xs)) ∧
  ∀ G' H' v, Same G G' → (∀ b, H b ≠ none → G b = none → G' b = none) → (∀ b o, H b = some o → ¬ Owned (vs.map some) args b → H' b = some o) → (∀ b, H b ≠ none → H' b ≠ none) → R K G' v d →
    Rel K G' H' (vs.map some) out → Q v H'
structure Good (Φ : Phi) (Γ : Str → Option D) (N : List Str) (sc : Scope) (sn : Str → Bool) (k : Nat) (X : Cx) : Prop where
  hN : X.N = N
  nd : N.Nodup
  hs : X.env.scope = sc
  calm : X.calm = true
  room : Room k X.A
  xe : X.xe = fun _ _ => False
  fns : ∀ f F, Φ f = some F → ∃ fa fd ps, X.mg f = some (.ref fa) ∧ PySem.W.keepIn X.K (.ref fa) = true ∧ Binds X.K fd ps [] ∧ FnOk X.prog X.w X.K X.mg X.base CX0 k fa fd ps (spF X.K F) ∧ f ≠ "__debug__"
  blt : ∀ b, b ∈ (["len", "list", "tuple", "int", "sum", "any", "all", "max", "min", "isinstance", "range", "zip", "enumerate", "sorted", "set", "str", "bool"] : List Str) → X.mg b = none
  gl : ∀ x d, Γ x = some d → ∃ v u, X.mg x = some u ∧ RelV v u ∧ (∀ G, R X.K G v d) ∧ x ≠ "__debug__"
  st : ∀ x, sn x = true → Loc X.env.scope x ∧ (X.fn x = true ∨ X.env.scope.names.lookup x = some .local)

section
variable {Φ : Phi} {Γ : Str → Option D} {N : List Str} {sc : Scope} {sn : Str → Bool} {k : Nat} {X : Cx} {e : Ent}
theorem Good.never (g : Good Φ Γ N sc sn k X) : PassesOwn (model X.prog X.w) X.A X.env X.xe := by rw [g.xe]; exact PassesOwn.never
def visB (sc : Scope) (x : Str) : Bool := match sc.names.lookup x with
  | some .local => true
  | some .cell => true
  | some .free => true
  | _ => false
theorem vis_of {sc : Scope} {x : Str} (h : visB sc x = true) : Vis sc x := by
  unfold visB at h
  split at h
  · rename_i q; exact .inl q
  · rename_i q; exact .inr (.inl q)
  · rename_i q; exact .inr (.inr q)
  · cases h
theorem Good.gl' (g : Good Φ Γ N sc sn k X) {x : Str} (h : sc.names.lookup x = some .globalImplicit) : Gl X x := by
  show X.env.scope.names.lookup x = _
  rw [g.hs]; exact h

/-! ### names, constants -/
theorem own_slot_free {K : PySem.W.Frag} {G H : Hp} {σ : St} {ρ : Env} {i : Nat} {xs : List D} {a : Addr} {vs : List V} (F : Fr K e G H σ ρ) (h : ρ[i]? = some (.own xs)) (hs : σ[i]? = some (some (.ref a))) (hH : H a = some (.lst vs)) (hG : G a = none) (hr : RA K G vs xs) :
    Fr K e (upd G a (.lst vs)) H σ (ρ.set i (.val (.list xs))) ∧ Gr σ ρ (ρ.set i (.val (.list xs))) G H (upd G a (.lst vs)) H := by
  obtain ⟨h1, h2⟩ := freezeExt F.sg hH hG
  have hi : i < ρ.length := (List.getElem?_eq_some_iff.mp h).1
  have held : ∀ {j : Nat} {ys : List D}, Held (ρ.set i (.val (.list xs))) j ys → j ≠ i ∧ Held ρ j ys := fun {j ys} q => by
    have hj : j ≠ i := fun z => by
      subst z
      rcases q with q | q <;> rw [List.getElem?_set_self hi] at q <;> cases q
    refine ⟨hj, ?_⟩
    unfold Held at q
    rw [List.getElem?_set_ne (Ne.symm hj)] at q
    exact q
  have ne : ∀ {j : Nat} {ys : List D} {b : Addr}, Held (ρ.set i (.val (.list xs))) j ys → σ[j]? = some (some (.ref b)) → b ≠ a := fun {j ys b} q qs z => by
    obtain ⟨hj, hq⟩ := held q
    subst z
    exact hj (F.ds j i b ys xs hq (.inl h) qs hs)
  refine ⟨⟨⟨h2, by rw [List.length_set]; exact F.len, fun j d q => ?_, fun j ys q => ?_, fun j l b ys zs q1 q2 => F.ds j l b ys zs (held q1).2 (held q2).2, fun j ns q => ?_⟩, F.g0.trans h1, fun b q1 q2 => ?_, F.kp, F.al, fun j ys b q => ?_, fun j ys q => ?_⟩,
    ⟨h1, fun b q1 q2 q3 => ?_, fun _ _ q _ => q, fun _ q => q, fun b ⟨j, ys, q, qs⟩ => ⟨j, ys, (held q).2, qs⟩⟩⟩
  · by_cases hj : j = i
    · subst hj
      rw [List.getElem?_set_self hi] at q
      cases q
      exact ⟨.ref a, hs, .lst upd_same (hr.up h1)⟩
    · rw [List.getElem?_set_ne (Ne.symm hj)] at q
      obtain ⟨v, a1, a2⟩ := F.sl j d q
      exact ⟨v, a1, a2.up h1⟩
  · obtain ⟨b, ws, a1, a2, a3, a4⟩ := F.ow j ys (held q).2
    exact ⟨b, ws, a1, a2, by rw [upd_ne (ne q a1)]; exact a3, a4.up h1⟩
  · by_cases hj : j = i
    · subst hj
      rw [List.getElem?_set_self hi] at q
      cases q
    · rw [List.getElem?_set_ne (Ne.symm hj)] at q
      obtain ⟨b, a1, a2⟩ := F.sc j ns q
      exact ⟨b, a1, h1.seq a2⟩
  · rw [upd_ne fun z => q1 (by rw [z]; exact F.fr i xs a h hs)]; exact F.un b q1 q2
  · have hj : j ≠ i := fun z => by subst z; rw [List.getElem?_set_self hi] at q; cases q
    rw [List.getElem?_set_ne (Ne.symm hj)] at q
    exact F.fr j ys b q
  · have hj : j ≠ i := fun z => by subst z; rw [List.getElem?_set_self hi] at q; cases q
    rw [List.getElem?_set_ne (Ne.symm hj)] at q
    exact F.pa j ys q
  · rw [upd_ne fun z => q3 ⟨i, xs, .inl h, by rw [z]; exact hs⟩]; exact q2
theorem d_var (g : Good Φ Γ N sc sn k X) {i : Nat} {x : Str} {pos : Pos} (hi : N[i]? = some x) (hv : visB sc x = true) (hd : (x == ("__debug__" : Str)) = false) (hcd : (x == ("__classdict__" : Str)) = false) : PE X (.Name x pos) (dE X.K e (varD i)) := by
  refine pe_imp (pe_var (i := i) (by rw [g.hN]; exact hi) (by rw [g.hs]; exact vis_of hv) hd hcd) fun σ H Q ⟨G, ρ, d, ρ', F, hf, q⟩ => ?_
  unfold varD at hf
  split at hf
  · rename_i d' h
    cases hf
    obtain ⟨v, h1, h2⟩ := F.sl i d h
    exact ⟨v, h1, q G H v F .refl h2⟩
  · rename_i xs h
    cases hf
    obtain ⟨a, vs, h1, h2, h3, h4⟩ := F.ow i xs (.inl h)
    obtain ⟨F', g'⟩ := own_slot_free F h h1 h2 h3 h4
    exact ⟨.ref a, h1, q _ H _ F' g' (.lst upd_same (h4.up g'.sg))⟩
  · cases hf
theorem d_const {v : V} {d : D} {ex : Expr} (h : PE X ex (tC v)) (r : ∀ G, R X.K G v d) : PE X ex (dE X.K e (eP d)) :=
  pe_imp h fun σ H Q ⟨G, ρ, d', ρ', F, hf, q⟩ => by cases hf; exact q G H v F .refl (r G)
theorem d_glob (g : Good Φ Γ N sc sn k X) {x : Str} {pos : Pos} (hx : sc.names.lookup x = some .globalImplicit) : PE X (.Name x pos) (dE X.K e (eO (Γ x))) := by
  cases q : Γ x with
  | none => exact ⟨fun _ _ _ _ _ _ ⟨_, _, _, _, _, hf, _⟩ => by cases hf⟩
  | some d =>
    obtain ⟨v, u, h1, h2, h3, h4⟩ := g.gl x d q
    refine pe_imp (pe_glob (g.gl' hx) h1 h2 (by simpa using h4)) fun σ H Q ⟨G, ρ, d', ρ', F, hf, qq⟩ => ?_
    cases hf
    exact qq G H v F .refl (h3 G)

/-! ### item lists, displays -/
theorem l_nil : PA X [] (dL X.K e (eP [])) := pa_imp pa_nil fun σ H Q ⟨G, ρ, d, ρ', F, hf, q⟩ => by cases hf; exact q G H [] F .refl .nil
theorem l_cons {ex : Expr} {es : List Expr} {f : Ev D} {fs : Ev (List D)} (hs : notStar ex = true) (ha : PE X ex (dE X.K e f)) (hr : PA X es (dL X.K e fs)) : PA X (ex :: es) (dL X.K e (eB f fun x => eB fs fun xs => eP (x :: xs))) := by
  refine pa_imp (pa_cons ha hr (starEach_of hs)) fun σ H Q ⟨G, ρ, d, ρ', F, hf, q⟩ => ?_
  obtain ⟨a, ρ1, e1, h1⟩ := eB_some hf
  obtain ⟨as, ρ2, e2, h2⟩ := eB_some h1
  cases h2
  exact ⟨G, ρ, a, ρ1, F, e1, fun G1 H1 v F1 g1 r1 => ⟨G1, ρ1, as, ρ', F1, e2, fun G2 H2 vs F2 g2 r2 => q G2 H2 _ F2 (g1.trans g2) (.cons (r1.up g2.sg) r2)⟩⟩
theorem seqD_some {d : D} {ds : List D} (h : seqD d = some ds) : d = .list ds ∨ d = .tuple ds := by
  cases d <;> simp only [seqD, reduceCtorEq] at h
  · cases h; exact .inl rfl
  · cases h; exact .inr rfl
theorem l_star {ex : Expr} {es : List Expr} {p : Pos} {f : Ev D} {fs : Ev (List D)} (ha : PE X ex (dE X.K e f)) (hr : PA X es (dL X.K e fs)) : PA X (.Starred ex p :: es) (dL X.K e (eB f fun x => match seqD x with
    | some ys => eB fs fun xs => eP (ys ++ xs)
    | none => fun _ => none)) := by
  refine pa_imp (StX.pa_star ha hr rfl) fun σ H Q ⟨G, ρ, d, ρ', F, hf, q⟩ => ?_
  obtain ⟨a, ρ1, e1, h1⟩ := eB_some hf
  cases es' : seqD a with
  | none => rw [es'] at h1; cases h1
  | some ys =>
    rw [es'] at h1
    obtain ⟨as, ρ2, e2, h2⟩ := eB_some h1
    cases h2
    refine ⟨G, ρ, a, ρ1, F, e1, fun G1 H1 v F1 g1 r1 => ?_⟩
    rcases seqD_some es' with rfl | rfl
    · obtain ⟨p, ws, rfl, hp, rw'⟩ := r1.lst_inv
      exact ⟨p, ws, rfl, .inr (sqL_of F1.sg hp), G1, ρ1, as, ρ', F1, e2, fun G2 H2 vs F2 g2 r2 => q G2 H2 _ F2 (g1.trans g2) ((rw'.up g2.sg).append r2)⟩
    · obtain ⟨p, ws, rfl, hp, rw'⟩ := r1.tup_inv
      exact ⟨p, ws, rfl, .inl (sqT_of F1.sg hp), G1, ρ1, as, ρ', F1, e2, fun G2 H2 vs F2 g2 r2 => q G2 H2 _ F2 (g1.trans g2) ((rw'.up g2.sg).append r2)⟩
theorem d_tup {es : List Expr} {x1 : Nat} {pos : Pos} {fs : Ev (List D)} (h : PA X es (dL X.K e fs)) : PE X (.Tuple es x1 pos) (dE X.K e (eB fs fun ds => if okL ds then eP (.tuple ds) else fun _ => none)) := by
  refine pe_imp (pe_tup h) fun σ H Q ⟨G, ρ, d, ρ', F, hf, q⟩ => ?_
  obtain ⟨ds, ρ1, e1, h1⟩ := eB_some hf
  by_cases ok : okL ds = true
  · rw [if_pos ok] at h1
    cases h1
    refine ⟨G, ρ, ds, ρ', F, e1, fun G1 H1 vs F1 g1 r1 => ⟨by rw [r1.length]; exact of_decide_eq_true ok, fun p n => ?_⟩⟩
    exact (fin_of F1 g1 q).new_tup F1.sg n r1
  · rw [if_neg ok] at h1; cases h1
theorem d_lst {es : List Expr} {pos : Pos} {fs : Ev (List D)} (h : PA X es (dL X.K e fs)) : PE X (.List es pos) (dF X.K e (eB fs fun ds => if okL ds then eP (.list ds) else fun _ => none)) := by
  refine pe_imp (pe_lst h) fun σ H Q ⟨G, ρ, d, ρ', F, hf, q⟩ => ?_
  obtain ⟨ds, ρ1, e1, h1⟩ := eB_some hf
  by_cases ok : okL ds = true
  · rw [if_pos ok] at h1
    unfold eP at h1
    simp only [Option.some.injEq, Prod.mk.injEq, PyData.list.injEq] at h1
    obtain ⟨rfl, rfl⟩ := h1
    refine ⟨G, ρ, ds, ρ1, F, e1, fun G1 H1 vs F1 g1 r1 => ⟨by rw [r1.length]; exact of_decide_eq_true ok, fun p n => ?_⟩⟩
    exact (finL_of F1 g1 q).new F1.sg n r1
  · rw [if_neg ok] at h1; cases h1

/-! ### operators -/
theorem d_op {a b : Expr} {op : Operator} {pos : Pos} {r : R2} {gg : D → D → Option D} {f1 f2 : Ev D} (ho : OpR X (binaryOp op) r) (o : Op2 X.K r gg) (ha : PE X a (dE X.K e f1)) (hb : PE X b (dE X.K e f2)) :
    PE X (.BinOp a op b pos) (dE X.K e (eB f1 fun x => eB f2 fun y => eO (gg x y))) := pe_imp (pe_op ho ha hb) fun σ H Q q => op2 o q
theorem d_opL {a b : Expr} {op : Operator} {pos : Pos} {r : R2} {gg : D → D → Option D} {f1 f2 : Ev D} (ho : OpR X (binaryOp op) r) (o : Op2L X.K r gg) (ha : PE X a (dE X.K e f1)) (hb : PE X b (dE X.K e f2)) :
    PE X (.BinOp a op b pos) (dF X.K e (eB f1 fun x => eB f2 fun y => eO (gg x y))) := pe_imp (pe_op ho ha hb) fun σ H Q q => op2L o q
theorem d_idx {a b : Expr} {pos : Pos} {f1 f2 : Ev D} (ha : PE X a (dE X.K e f1)) (hb : PE X b (dE X.K e f2)) (hs : notSlice b = true) : PE X (.Subscript a b pos) (dE X.K e (eB f1 fun x => eB f2 fun y => eO (idxD x y))) :=
  pe_imp (pe_ix ix_seq ha hb (plainIx_of hs)) fun σ H Q q => op2 o2_idx q
theorem d_neg {a : Expr} {pos : Pos} {f : Ev D} (ha : PE X a (dE X.K e f)) : PE X (.UnaryOp .USub a pos) (dE X.K e (eB f fun x => match x with
    | .int i => eP (.int (-i))
    | _ => fun _ => none)) := by
  refine pe_imp (pe_un un_neg ha) fun σ H Q q => ?_
  obtain ⟨G, ρ, d, ρ', F, hf, q⟩ := d1 q
  refine ⟨G, ρ, d, ρ', F, hf, fun G1 H1 v F1 g1 r1 => ?_⟩
  obtain ⟨G2, ρ2, d2, d3, ρ3, F2, r2, e2, q2⟩ := q G1 H1 v F1 g1 r1
  cases d2 <;> first | (cases e2; done) | skip
  cases e2
  exact ⟨_, r2.int_inv, q2 _ _ _ F2 .refl (.int _)⟩
theorem c_cmp {a b : Expr} {op : CmpOp} {pos : Pos} {r : R2} {f1 f2 : Ev D} (ho : OpR X (compareOp op) r) (o : Cm X.K r (cmpD op)) (ha : PE X a (dE X.K e f1)) (hb : PE X b (dE X.K e f2)) (hs : notSet b = true) :
    PE X (.Compare a [op] [b] pos) (dE X.K e (eB f1 fun x => eB f2 fun y => match cmpD op x y with
      | some c => eP (.bool c)
      | none => fun _ => none)) ∧ PT X (.Compare a [op] [b] pos) (dT X.K e (eB f1 fun x => eB f2 fun y => match cmpD op x y with
      | some c => eP (.bool c)
      | none => fun _ => none)) := by
  have key : ∀ {σ : St} {H : Hp} {G : Hp} {ρ ρ' : Env} {d : D}, Fr X.K e G H σ ρ → (eB f1 fun x => eB f2 fun y => match cmpD op x y with
      | some c => eP (.bool c)
      | none => fun _ => none) ρ = some (d, ρ') → ∀ {Q : VK}, (∀ G' H' c, d = .bool c → Fr X.K e G' H' σ ρ' → Gr σ ρ ρ' G H G' H' → Q (.bl c) H') → tOp r (dE X.K e f1) (dE X.K e f2) σ H Q := fun {σ H G ρ ρ' d} F hf {Q} q => by
    obtain ⟨x, ρ1, e1, h1⟩ := eB_some hf
    obtain ⟨y, ρ2, e2, h2⟩ := eB_some h1
    cases ec : cmpD op x y with
    | none => rw [ec] at h2; cases h2
    | some c =>
      rw [ec] at h2
      cases h2
      exact ⟨G, ρ, x, ρ1, F, e1, fun G1 H1 v F1 g1 r1 => ⟨G1, ρ1, y, ρ', F1, e2, fun G2 H2 u F2 g2 r2 => o G2 H2 v u x y c Q F2.sg (r1.up g2.sg) r2 ec (q G2 H2 c rfl F2 (g1.trans g2))⟩⟩
  refine ⟨pe_imp (pe_cmpR ho ha hb (behind_of hs)) fun σ H Q ⟨G, ρ, d, ρ', F, hf, q⟩ => key F hf fun G' H' c ed F' g' => ?_, pt_imp (pt_cmpR ho ha hb (behind_of hs)) fun σ H Q ⟨G, ρ, b, ρ', F, hf, q⟩ => ?_⟩
  · subst ed; exact q G' H' _ F' g' (.bl c)
  · show tOp r _ _ σ H _
    refine key F hf fun G' H' c ed F' g' => ?_
    cases ed
    exact ⟨b, rfl, q G' H' F' g'⟩
theorem c_chain {a b c : Expr} {op op' : CmpOp} {pos : Pos} {r r' : R2} {f1 f2 f3 : Ev D} (ho : OpR X (compareOp op) r) (o : Cm X.K r (cmpD op)) (ho' : OpR X (compareOp op') r') (o' : Cm X.K r' (cmpD op')) (ha : PE X a (dE X.K e f1)) (hb : PE X b (dE X.K e f2)) (hc : PE X c (dE X.K e f3))
    (hs : notSet b = true) (hs' : notSet c = true) :
    PE X (.Compare a [op, op'] [b, c] pos) (dE X.K e (eB f1 fun x => eB f2 fun y => match cmpD op x y with
      | some true => eB f3 fun z => match cmpD op' y z with
        | some k => eP (.bool k)
        | none => fun _ => none
      | some false => eP (.bool false)
      | none => fun _ => none)) ∧ PT X (.Compare a [op, op'] [b, c] pos) (dT X.K e (eB f1 fun x => eB f2 fun y => match cmpD op x y with
      | some true => eB f3 fun z => match cmpD op' y z with
        | some k => eP (.bool k)
        | none => fun _ => none
      | some false => eP (.bool false)
      | none => fun _ => none)) := by
  have hm : lastMarks [op, op'] [b, c] = false := by
    unfold lastMarks lastMarks
    exact behind_of hs'
  have key : ∀ {σ : St} {H : Hp} {G : Hp} {ρ ρ' : Env} {d : D}, Fr X.K e G H σ ρ → (eB f1 fun x => eB f2 fun y => match cmpD op x y with
      | some true => eB f3 fun z => match cmpD op' y z with
        | some k => eP (.bool k)
        | none => fun _ => none
      | some false => eP (.bool false)
      | none => fun _ => none) ρ = some (d, ρ') → ∀ {Q : VK}, (∀ G' H' c, d = .bool c → Fr X.K e G' H' σ ρ' → Gr σ ρ ρ' G H G' H' → Q (.bl c) H') → tChain r r' (dE X.K e f1) (dE X.K e f2) (dE X.K e f3) σ H Q := fun {σ H G ρ ρ' d} F hf {Q} q => by
    obtain ⟨x, ρ1, e1, h1⟩ := eB_some hf
    obtain ⟨y, ρ2, e2, h2⟩ := eB_some h1
    cases ec : cmpD op x y with
    | none => rw [ec] at h2; cases h2
    | some k =>
      rw [ec] at h2
      cases k with
      | false =>
        cases h2
        exact ⟨G, ρ, x, ρ1, F, e1, fun G1 H1 v F1 g1 r1 => ⟨G1, ρ1, y, ρ', F1, e2, fun G2 H2 u F2 g2 r2 => o G2 H2 v u x y _ _ F2.sg (r1.up g2.sg) r2 ec ⟨false, rfl, iteF (q G2 H2 _ rfl F2 (g1.trans g2))⟩⟩⟩
      | true =>
        obtain ⟨z, ρ3, e3, h3⟩ := eB_some h2
        cases ec' : cmpD op' y z with
        | none => rw [ec'] at h3; cases h3
        | some k' =>
          rw [ec'] at h3
          cases h3
          exact ⟨G, ρ, x, ρ1, F, e1, fun G1 H1 v F1 g1 r1 => ⟨G1, ρ1, y, ρ2, F1, e2, fun G2 H2 u F2 g2 r2 => o G2 H2 v u x y _ _ F2.sg (r1.up g2.sg) r2 ec ⟨true, rfl, iteT
            ⟨G2, ρ2, z, ρ', F2, e3, fun G3 H3 w F3 g3 r3 => o' G3 H3 u w y z _ _ F3.sg (r2.up g3.sg) r3 ec' (q G3 H3 _ rfl F3 ((g1.trans g2).trans g3))⟩⟩⟩⟩
  refine ⟨pe_imp (pe_chain ho ho' ha hb hc hm) fun σ H Q ⟨G, ρ, d, ρ', F, hf, q⟩ => key F hf fun G' H' c ed F' g' => ?_, pt_imp (pt_chain ho ho' ha hb hc hm) fun σ H Q ⟨G, ρ, b, ρ', F, hf, q⟩ => ?_⟩
  · subst ed; exact q G' H' _ F' g' (.bl c)
  · show tChain r r' _ _ _ σ H _
    refine key F hf fun G' H' c ed F' g' => ?_
    cases ed
    exact ⟨b, rfl, q G' H' F' g'⟩

/-! ### tests -/
theorem t_val {ex : Expr} {f : Ev D} (h : PE X ex (dE X.K e f)) (hp : plainT ex = true) : PT X ex (dT X.K e (eB f fun x => match truthD x with
    | some b => eP (.bool b)
    | none => fun _ => none)) := by
  refine pt_imp (pt_val h (isTrue_of hp)) fun σ H Q ⟨G, ρ, b, ρ', F, hf, q⟩ => ?_
  obtain ⟨x, ρ1, e1, h1⟩ := eB_some hf
  cases x <;> simp only [truthD] at h1 <;> first | (cases h1; done) | skip
  cases h1
  exact ⟨G, ρ, _, ρ', F, e1, fun G' H' v F' g' r => ⟨b, r.bl_inv, q G' H' F' g'⟩⟩
theorem vNot_some {f : Ev D} {ρ ρ' : Env} {d : D} (h : vNot f ρ = some (d, ρ')) : ∃ b, f ρ = some (.bool b, ρ') ∧ d = .bool (!b) := by
  obtain ⟨x, ρ1, e1, h1⟩ := eB_some h
  cases x <;> first | (cases h1; done) | skip
  cases h1
  exact ⟨_, e1, rfl⟩
theorem vAnd_some {f1 f2 : Ev D} {ρ ρ' : Env} {d : D} (h : vAnd f1 f2 ρ = some (d, ρ')) : (f1 ρ = some (.bool false, ρ') ∧ d = .bool false) ∨ ∃ ρ1 c, f1 ρ = some (.bool true, ρ1) ∧ f2 ρ1 = some (.bool c, ρ') ∧ d = .bool c := by
  obtain ⟨x, ρ1, e1, h1⟩ := eB_some h
  cases x <;> first | (cases h1; done) | skip
  rename_i b
  cases b with
  | false => cases h1; exact .inl ⟨e1, rfl⟩
  | true =>
    obtain ⟨y, ρ2, e2, h2⟩ := eB_some h1
    cases y <;> first | (cases h2; done) | skip
    cases h2
    exact .inr ⟨ρ1, _, e1, e2, rfl⟩
theorem vOr_some {f1 f2 : Ev D} {ρ ρ' : Env} {d : D} (h : vOr f1 f2 ρ = some (d, ρ')) : (f1 ρ = some (.bool true, ρ') ∧ d = .bool true) ∨ ∃ ρ1 c, f1 ρ = some (.bool false, ρ1) ∧ f2 ρ1 = some (.bool c, ρ') ∧ d = .bool c := by
  obtain ⟨x, ρ1, e1, h1⟩ := eB_some h
  cases x <;> first | (cases h1; done) | skip
  rename_i b
  cases b with
  | true => cases h1; exact .inl ⟨e1, rfl⟩
  | false =>
    obtain ⟨y, ρ2, e2, h2⟩ := eB_some h1
    cases y <;> first | (cases h2; done) | skip
    cases h2
    exact .inr ⟨ρ1, _, e1, e2, rfl⟩
theorem vIte_some {c f1 f2 : Ev D} {ρ : Env} {r : D × Env} (h : vIte c f1 f2 ρ = some r) : ∃ b ρ1, c ρ = some (.bool b, ρ1) ∧ (if b = true then f1 ρ1 = some r else f2 ρ1 = some r) := by
  obtain ⟨x, ρ1, e1, h1⟩ := eB_some h
  cases x <;> first | (cases h1; done) | skip
  rename_i b
  cases b with
  | true => exact ⟨_, ρ1, e1, iteT h1⟩
  | false => exact ⟨_, ρ1, e1, iteF h1⟩
theorem d_notV {a : Expr} {pos : Pos} {f : Ev D} (h : PE X a (dE X.K e f)) : PE X (.UnaryOp .Not a pos) (dE X.K e (vNot f)) :=
  pe_imp (pe_not h) fun σ H Q ⟨G, ρ, d, ρ', F, hf, q⟩ => by
    obtain ⟨b, e1, rfl⟩ := vNot_some hf
    exact ⟨G, ρ, _, ρ', F, e1, fun G' H' v F' g' r => ⟨b, r.bl_inv, q G' H' _ F' g' (.bl _)⟩⟩
/-- not of a test, as a value -/
theorem t_not {a : Expr} {pos : Pos} {f : Ev D} (h : PT X a (dT X.K e f)) : PT X (.UnaryOp .Not a pos) (dT X.K e (vNot f)) :=
  pt_imp (pt_not h) fun σ H Q ⟨G, ρ, d, ρ', F, hf, q⟩ => by
    obtain ⟨b, e1, ed⟩ := vNot_some hf
    cases ed
    exact ⟨G, ρ, _, ρ', F, e1, q⟩
theorem d_and {a b : Expr} {rest : List Expr} {pos : Pos} {f1 f2 : Ev D} (ha : PE X a (dE X.K e f1)) (hb : PE X (.BoolOp .And (b :: rest) pos) (dE X.K e f2)) : PE X (.BoolOp .And (a :: b :: rest) pos) (dE X.K e (vAnd f1 f2)) :=
  pe_imp (pe_and ha hb) fun σ H Q ⟨G, ρ, d, ρ', F, hf, q⟩ => by
    rcases vAnd_some hf with ⟨e1, rfl⟩ | ⟨ρ1, c, e1, e2, rfl⟩
    · exact ⟨G, ρ, _, ρ', F, e1, fun G' H' v F' g' r => ⟨false, r.bl_inv, iteF (q G' H' _ F' g' (.bl _))⟩⟩
    · exact ⟨G, ρ, _, ρ1, F, e1, fun G' H' v F' g' r => ⟨true, r.bl_inv, iteT ⟨G', ρ1, _, ρ', F', e2, fun G2 H2 u F2 g2 r2 => q G2 H2 u F2 (g'.trans g2) r2⟩⟩⟩
theorem d_or {a b : Expr} {rest : List Expr} {pos : Pos} {f1 f2 : Ev D} (ha : PE X a (dE X.K e f1)) (hb : PE X (.BoolOp .Or (b :: rest) pos) (dE X.K e f2)) : PE X (.BoolOp .Or (a :: b :: rest) pos) (dE X.K e (vOr f1 f2)) :=
  pe_imp (pe_or ha hb) fun σ H Q ⟨G, ρ, d, ρ', F, hf, q⟩ => by
    rcases vOr_some hf with ⟨e1, rfl⟩ | ⟨ρ1, c, e1, e2, rfl⟩
    · exact ⟨G, ρ, _, ρ', F, e1, fun G' H' v F' g' r => ⟨true, r.bl_inv, iteT (q G' H' _ F' g' (.bl _))⟩⟩
    · exact ⟨G, ρ, _, ρ1, F, e1, fun G' H' v F' g' r => ⟨false, r.bl_inv, iteF ⟨G', ρ1, _, ρ', F', e2, fun G2 H2 u F2 g2 r2 => q G2 H2 u F2 (g'.trans g2) r2⟩⟩⟩
theorem t_and {a b : Expr} {rest : List Expr} {pos : Pos} {f1 f2 : Ev D} (ha : PT X a (dT X.K e f1)) (hb : PW X (.BoolOp .And (b :: rest) pos) (dT X.K e f2)) : PW X (.BoolOp .And (a :: b :: rest) pos) (dT X.K e (vAnd f1 f2)) := by
  have h := pw_and ha hb
  refine ⟨fun wh pins s σ H Q I q0 => h.run wh pins s σ H Q I ?_⟩
  obtain ⟨G, ρ, d, ρ', F, hf, q⟩ := q0
  rcases vAnd_some hf with ⟨e1, ed⟩ | ⟨ρ1, c, e1, e2, ed⟩
  · cases ed
    exact ⟨G, ρ, _, ρ', F, e1, fun G' H' F' g' => iteF (q G' H' F' g')⟩
  · cases ed
    exact ⟨G, ρ, _, ρ1, F, e1, fun G' H' F' g' => iteT ⟨G', ρ1, _, ρ', F', e2, fun G2 H2 F2 g2 => q G2 H2 F2 (g'.trans g2)⟩⟩
theorem t_or {a b : Expr} {rest : List Expr} {pos : Pos} {f1 f2 : Ev D} (ha : PT X a (dT X.K e f1)) (hb : PW X (.BoolOp .Or (b :: rest) pos) (dT X.K e f2)) : PW X (.BoolOp .Or (a :: b :: rest) pos) (dT X.K e (vOr f1 f2)) := by
  have h := pw_or ha hb
  refine ⟨fun wh pins s σ H Q I q0 => h.run wh pins s σ H Q I ?_⟩
  obtain ⟨G, ρ, d, ρ', F, hf, q⟩ := q0
  rcases vOr_some hf with ⟨e1, ed⟩ | ⟨ρ1, c, e1, e2, ed⟩
  · cases ed
    exact ⟨G, ρ, _, ρ', F, e1, fun G' H' F' g' => iteT (q G' H' F' g')⟩
  · cases ed
    exact ⟨G, ρ, _, ρ1, F, e1, fun G' H' F' g' => iteF ⟨G', ρ1, _, ρ', F', e2, fun G2 H2 F2 g2 => q G2 H2 F2 (g'.trans g2)⟩⟩
theorem d_ite {c a b : Expr} {pos : Pos} {f0 f1 f2 : Ev D} (hc : PT X c (dT X.K e f0)) (ha : PE X a (dE X.K e f1)) (hb : PE X b (dE X.K e f2)) : PE X (.IfExp c a b pos) (dE X.K e (vIte f0 f1 f2)) :=
  pe_imp (pe_ifExp hc ha hb) fun σ H Q ⟨G, ρ, d, ρ', F, hf, q⟩ => by
    obtain ⟨k, ρ1, e1, h1⟩ := vIte_some hf
    refine ⟨G, ρ, k, ρ1, F, e1, fun G' H' F' g' => ?_⟩
    cases k with
    | true => exact iteT ⟨G', ρ1, d, ρ', F', by simpa using h1, fun G2 H2 u F2 g2 r2 => q G2 H2 u F2 (g'.trans g2) r2⟩
    | false => exact iteF ⟨G', ρ1, d, ρ', F', by simpa using h1, fun G2 H2 u F2 g2 r2 => q G2 H2 u F2 (g'.trans g2) r2⟩

/-! ### held lists read -/
theorem heldD_some {i : Nat} {ρ : Env} {xs : List D} (h : heldD i ρ = some xs) : Held ρ i xs := by
  unfold heldD at h
  split at h <;> first | (cases h; done) | skip
  · cases h; rename_i q; exact .inl q
  · cases h; rename_i q; exact .inr q
theorem hasHeld_some {i : Nat} {ρ ρ' : Env} {u : Unit} (h : hasHeld i ρ = some (u, ρ')) : ρ = ρ' ∧ ∃ xs, heldD i ρ = some xs := by
  unfold hasHeld at h
  split at h
  · rename_i xs q
    cases h
    exact ⟨rfl, xs, q⟩
  · cases h
theorem atHeld_some {i : Nat} {k : D} {ρ ρ' : Env} {d : D} (h : atHeld i k ρ = some (d, ρ')) : ρ = ρ' ∧ ∃ n xs, k = .int n ∧ heldD i ρ = some xs ∧ atI xs n = some d := by
  unfold atHeld at h
  cases k <;> first | (cases h; done) | skip
  rename_i n
  simp only at h
  cases hh : heldD i ρ with
  | none => rw [hh] at h; cases h
  | some xs =>
    rw [hh] at h
    simp only [Option.bind_some] at h
    cases ha : atI xs n with
    | none => rw [ha] at h; cases h
    | some d' => rw [ha] at h; cases h; exact ⟨rfl, n, xs, rfl, rfl, ha⟩
theorem d_ownIdx (g : Good Φ Γ N sc sn k X) {i : Nat} {x : Str} {pos p : Pos} {b : Expr} {f : Ev D} (hi : N[i]? = some x) (hv : visB sc x = true) (hd : (x == ("__debug__" : Str)) = false) (hcd : (x == ("__classdict__" : Str)) = false) (hb : PE X b (dE X.K e f)) (hs : notSlice b = true) :
    PE X (.Subscript (.Name x p) b pos) (dE X.K e (eB (hasHeld i) fun _ => eB f fun k => atHeld i k)) := by
  refine pe_imp (pe_ix ix_list (pe_var (i := i) (by rw [g.hN]; exact hi) (by rw [g.hs]; exact vis_of hv) hd hcd) hb (plainIx_of hs)) fun σ H Q ⟨G, ρ, d, ρ', F, hf, q⟩ => ?_
  obtain ⟨u, ρ0, e0, h0⟩ := eB_some hf
  obtain ⟨rfl, xs0, hh0⟩ := hasHeld_some e0
  obtain ⟨y, ρ1, e1, h1⟩ := eB_some h0
  obtain ⟨rfl, n, xs, rfl, hh, ha⟩ := atHeld_some h1
  obtain ⟨a, vs0, a1, a2, a3, a4⟩ := F.ow i xs0 (heldD_some hh0)
  refine ⟨.ref a, a1, G, ρ, _, ρ1, F, e1, fun G1 H1 v F1 g1 r1 => ?_⟩
  obtain ⟨a', vs, b1, b2, b3, b4⟩ := F1.ow i xs (heldD_some hh)
  rw [a1] at b1
  cases b1
  obtain ⟨w, h3, h4⟩ := b4.atI ha
  exact ⟨a, vs, n, w, rfl, r1.int_inv, .inl (.inl b2), h3, q G1 H1 w F1 g1 h4⟩
theorem args1 {a : Expr} {ta : TE} (h : PE X a ta) (hs : notStar a = true) : PA X [a] (tCons ta tNil) := pa_cons h pa_nil (starEach_of hs)
theorem args2 {a b : Expr} {ta tb : TE} (h : PE X a ta) (h2 : PE X b tb) (hs : notStar a = true) (hs2 : notStar b = true) : PA X [a, b] (tCons ta (tCons tb tNil)) := pa_cons h (pa_cons h2 pa_nil (starEach_of hs2)) (starEach_of hs)
theorem d_ownLen (g : Good Φ Γ N sc sn k X) {i : Nat} {x : Str} {pos p p2 : Pos} (hi : N[i]? = some x) (hv : visB sc x = true) (hd : (x == ("__debug__" : Str)) = false) (hcd : (x == ("__classdict__" : Str)) = false) (hl : sc.names.lookup (Str.ofString "len") = some .globalImplicit) :
    PE X (.Call (.Name "len" p2) [.Name x p] [] pos) (dE X.K e (vOwnLen i)) := by
  refine pe_imp (pe_callB call_len_seq (g.gl' hl) (g.blt _ (by decide)) PySem.boot_len (args1 (pe_var (i := i) (by rw [g.hN]; exact hi) (by rw [g.hs]; exact vis_of hv) hd hcd) rfl)) fun σ H Q ⟨G, ρ, d, ρ', F, hf, q⟩ => ?_
  unfold vOwnLen at hf
  split at hf
  · rename_i xs hh
    cases hf
    obtain ⟨a, vs, a1, a2, a3, a4⟩ := F.ow i xs (heldD_some hh)
    refine ⟨.ref a, a1, a, vs, rfl, .inl (.inl (.inl a2)), ?_⟩
    rw [a4.length]
    exact q G H _ F .refl (.int _)
  · cases hf
/-- list(script) -/
theorem d_scr (g : Good Φ Γ N sc sn k X) {i : Nat} {x : Str} {pos p p2 : Pos} (hi : N[i]? = some x) (hv : visB sc x = true) (hd : (x == ("__debug__" : Str)) = false) (hcd : (x == ("__classdict__" : Str)) = false) (hl : sc.names.lookup (Str.ofString "list") = some .globalImplicit) :
    PE X (.Call (.Name "list" p2) [.Name x p] [] pos) (dF X.K e (vScr i)) := by
  refine pe_imp (pe_callTy call_list_of (g.gl' hl) (g.blt _ (by decide)) boot_list (args1 (pe_var (i := i) (by rw [g.hN]; exact hi) (by rw [g.hs]; exact vis_of hv) hd hcd) rfl)) fun σ H Q ⟨G, ρ, d, ρ', F, hf, q⟩ => ?_
  unfold vScr at hf
  split at hf
  · rename_i ns hh
    simp only [Option.some.injEq, Prod.mk.injEq, PyData.list.injEq] at hf
    obtain ⟨rfl, rfl⟩ := hf
    obtain ⟨a, a1, a2⟩ := F.sc i ns hh
    have rr : ∀ ns : List Int, RA X.K G (ns.map V.int) (ns.map PyData.int) := fun ns => by
      induction ns with
      | nil => exact .nil
      | cons n ns ih => exact .cons (.int n) ih
    exact ⟨.ref a, a1, a, _, rfl, .inl (F.sg.seq a2), fun l n => (finL_of F .refl q).new F.sg n (rr ns)⟩
  · cases hf

/-! ### slices -/
theorem cutV_RA {K : PySem.W.Frag} {G : Hp} {vs : List V} {ds : List D} (r : RA K G vs ds) (lo hi : Option Int) : RA K G (cutV vs lo hi) (cutL ds lo hi) := by
  unfold cutV cutL
  rw [r.length]
  exact (r.drop _).take _
def rSlD (K : PySem.W.Frag) : V → Option Int → Option Int → Hp → VK → Prop := fun x lo hi H Q => rSlL K x lo hi H Q ∨ rSlA K x lo hi H Q ∨ rSlS x lo hi H Q
theorem sl_D : SlR X (rSlD X.K) := sl_list.or (sl_tupA.or sl_str)
def dPo (K : PySem.W.Frag) (e : Ent) (f : Ev (Option Int)) : TO := fun σ H Q => ∃ G ρ d ρ', Fr K e G H σ ρ ∧ f ρ = some (d, ρ') ∧ ∀ G' H', Fr K e G' H' σ ρ' → Gr σ ρ ρ' G H G' H' → Q d H'
theorem po_imp {ex : Option Expr} {t t' : TO} (h : PO X ex t) (i : ∀ σ H Q, t' σ H Q → t σ H Q) : PO X ex t' := ⟨fun pins s σ H Q I q => h.run pins s σ H Q I (i σ H Q q)⟩
theorem po_n : PO X none (dPo X.K e (eP none)) := po_imp po_none fun σ H Q ⟨G, ρ, d, ρ', F, hf, q⟩ => by
  cases hf
  exact q G H F .refl
theorem po_s {ex : Expr} {f : Ev D} (h : PE X ex (dE X.K e f)) : PO X (some ex) (dPo X.K e (vPartI f)) := po_imp (po_some h) fun σ H Q ⟨G, ρ, d, ρ', F, hf, q⟩ => by
  obtain ⟨x, ρ1, e1, h1⟩ := eB_some hf
  cases x <;> first | (cases h1; done) | skip
  cases h1
  exact ⟨G, ρ, _, ρ', F, e1, fun G' H' v F' g' r => ⟨_, r.int_inv, q G' H' F' g'⟩⟩
theorem d_slice {a : Expr} {lo hi : Option Expr} {p2 pos : Pos} {f : Ev D} {l h : Ev (Option Int)} (ha : PE X a (dE X.K e f)) (hl : PO X lo (dPo X.K e l)) (hh : PO X hi (dPo X.K e h)) :
    PE X (.Subscript a (.Slice lo hi none p2) pos) (dE X.K e (vSlice f l h)) := by
  refine pe_imp (pe_slice sl_D ha hl hh) fun σ H Q ⟨G, ρ, d, ρ', F, hf, q⟩ => ?_
  obtain ⟨x, ρ1, e1, h1⟩ := eB_some hf
  obtain ⟨y, ρ2, e2, h2⟩ := eB_some h1
  obtain ⟨z, ρ3, e3, h3⟩ := eB_some h2
  obtain ⟨h4, rfl⟩ := eO_some h3
  refine ⟨G, ρ, x, ρ1, F, e1, fun G1 H1 v F1 g1 r1 => ⟨G1, ρ1, y, ρ2, F1, e2, fun G2 H2 F2 g2 => ⟨G2, ρ2, z, ρ3, F2, e3, fun G3 H3 F3 g3 => ?_⟩⟩⟩
  have r3 := (r1.up g2.sg).up g3.sg
  have fn := fin_of F3 ((g1.trans g2).trans g3) q
  cases x <;> simp only [sliceD, reduceCtorEq] at h4
  · split at h4
    · rename_i hz
      cases h4
      exact .inr (.inr ⟨_, r3.str_inv, hz, fn.same F3.sg (.str _)⟩)
    · cases h4
  · cases h4
    obtain ⟨a, vs, rfl, ha, rva⟩ := r3.lst_inv
    exact .inl ⟨a, vs, rfl, sqL_of F3.sg ha, fun p n => fn.new_lst F3.sg n (cutV_RA rva y z)⟩
  · cases h4
    obtain ⟨a, vs, rfl, ha, rva⟩ := r3.tup_inv
    refine .inr (.inl ⟨a, vs, rfl, sqT_of F3.sg ha, fun hw => ?_, fun hw p n => fn.new_tup F3.sg n (cutV_RA rva y z)⟩)
    refine fn.same F3.sg (.tup ha ?_)
    have hc : cutV vs y z = vs := by
      unfold cutV
      rw [hw.1, hw.2]
      simp
    have := cutV_RA rva y z
    rw [hc] at this
    exact this

/-! ### built-ins of one and two values -/
theorem d_b1 {x : Str} {a : Expr} {p pos : Pos} {r : V → Hp → VK → Prop} {gg : D → Option D} {f : Ev D} (h : PE X (.Call (.Name x p) [a] [] pos) (tCB (fun vs H Q => ∃ v, vs = [v] ∧ r v H Q) (tCons (dE X.K e f) tNil))) (o : Op1 X.K r gg) :
    PE X (.Call (.Name x p) [a] [] pos) (dE X.K e (eB f fun x => eO (gg x))) := pe_imp h fun σ H Q q => by
  have := op1 o q
  obtain ⟨G, ρ, d, ρ', F, hf, q'⟩ := this
  exact ⟨G, ρ, d, ρ', F, hf, fun G' H' v F' g' r' => ⟨v, rfl, q' G' H' v F' g' r'⟩⟩
theorem CallR.imp {f : Value} {r r' : List V → Hp → VK → Prop} (h : CallR X f r) (i : ∀ vs H Q, r' vs H Q → r vs H Q) : CallR X f r' := fun pins s σ H xs us Q I rv q => h pins s σ H xs us Q I rv (i _ _ _ q)
theorem CallR.or {f : Value} {r r' : List V → Hp → VK → Prop} (h : CallR X f r) (h' : CallR X f r') : CallR X f (fun vs H Q => r vs H Q ∨ r' vs H Q) := fun pins s σ H xs us Q I rv q => q.elim (h pins s σ H xs us Q I rv) (h' pins s σ H xs us Q I rv)
def rLenD (K : PySem.W.Frag) : V → Hp → VK → Prop := fun x H Q => (∃ p ys, x = .ref p ∧ (SqL K H p ys ∨ SqT K H p ys) ∧ Q (.int ys.length) H) ∨ ∃ z, x = .str z ∧ z.length ≤ sizeLine ∧ Q (.int z.length) H
theorem cr_lenD : CallR X (.builtin "len") (fun vs H Q => ∃ v, vs = [v] ∧ rLenD X.K v H Q) := CallR.imp (CallR.or call_len_seq call_len_str) fun vs H Q ⟨v, e1, h⟩ => by
  subst e1
  rcases h with ⟨p, ys, rfl, h, q⟩ | ⟨z, rfl, h, q⟩
  · exact .inl ⟨p, ys, rfl, h, q⟩
  · exact .inr ⟨z, rfl, h, q⟩
theorem o1_len {K : PySem.W.Frag} : Op1 K (rLenD K) lenD := by
  intro G H x a d Q hs r hd f
  cases a <;> simp only [lenD, reduceCtorEq] at hd
  · split at hd
    · rename_i hz
      cases hd
      exact .inr ⟨_, r.str_inv, hz, f.same hs (.int _)⟩
    · cases hd
  · cases hd
    obtain ⟨p, vs, rfl, hp, rv⟩ := r.lst_inv
    exact .inl ⟨p, vs, rfl, .inl (sqL_of hs hp), by rw [rv.length]; exact f.same hs (.int _)⟩
  · cases hd
    obtain ⟨p, vs, rfl, hp, rv⟩ := r.tup_inv
    exact .inl ⟨p, vs, rfl, .inr (sqT_of hs hp), by rw [rv.length]; exact f.same hs (.int _)⟩
def rListOf (K : PySem.W.Frag) : V → Hp → VK → Prop := fun x H Q => ∃ p ys, x = .ref p ∧ (SqL K H p ys ∨ SqT K H p ys) ∧ ∀ l, H l = none → Q (.ref l) (upd H l (.lst ys))
theorem cr_listD : CallR X (.type "list") (fun vs H Q => ∃ v, vs = [v] ∧ rListOf X.K v H Q) := CallR.imp call_list_of fun vs H Q ⟨v, e1, p, ys, e2, h⟩ => ⟨p, ys, by rw [e1, e2], h⟩
theorem o1_list {K : PySem.W.Frag} : Op1 K (rListOf K) listD := by
  intro G H x a d Q hs r hd f
  cases a <;> simp only [listD, reduceCtorEq] at hd
  · cases hd
    obtain ⟨p, vs, rfl, hp, rv⟩ := r.lst_inv
    exact ⟨p, vs, rfl, .inl (sqL_of hs hp), fun l n => f.new_lst hs n rv⟩
  · cases hd
    obtain ⟨p, vs, rfl, hp, rv⟩ := r.tup_inv
    exact ⟨p, vs, rfl, .inr (sqT_of hs hp), fun l n => f.new_lst hs n rv⟩
theorem o1_listL {K : PySem.W.Frag} : Op1L K (rListOf K) listD := by
  intro G H x a d Q hs r hd f
  cases a <;> simp only [listD, reduceCtorEq] at hd
  · cases hd
    obtain ⟨p, vs, rfl, hp, rv⟩ := r.lst_inv
    exact ⟨p, vs, rfl, .inl (sqL_of hs hp), fun l n => f.new hs n rv⟩
  · cases hd
    obtain ⟨p, vs, rfl, hp, rv⟩ := r.tup_inv
    exact ⟨p, vs, rfl, .inr (sqT_of hs hp), fun l n => f.new hs n rv⟩
def rTupOf (K : PySem.W.Frag) : V → Hp → VK → Prop := fun x H Q => ∃ p ys, x = .ref p ∧ ((SqL K H p ys ∧ ∀ l, H l = none → Q (.ref l) (upd H l (.tup ys))) ∨ (SqT K H p ys ∧ Q (.ref p) H))
theorem cr_tupleD : CallR X (.type "tuple") (fun vs H Q => ∃ v, vs = [v] ∧ rTupOf X.K v H Q) := CallR.imp call_tuple_of fun vs H Q ⟨v, e1, p, ys, e2, h⟩ => ⟨p, ys, by rw [e1, e2], h⟩
theorem o1_tuple {K : PySem.W.Frag} : Op1 K (rTupOf K) tupleD := by
  intro G H x a d Q hs r hd f
  cases a <;> simp only [tupleD, reduceCtorEq] at hd
  · cases hd
    obtain ⟨p, vs, rfl, hp, rv⟩ := r.lst_inv
    exact ⟨p, vs, rfl, .inl ⟨sqL_of hs hp, fun l n => f.new_tup hs n rv⟩⟩
  · cases hd
    obtain ⟨p, vs, rfl, hp, rv⟩ := r.tup_inv
    exact ⟨p, vs, rfl, .inr ⟨sqT_of hs hp, f.same hs (.tup hp rv)⟩⟩
def rIntOf : V → Hp → VK → Prop := fun x H Q => (∃ i, x = .int i ∧ Q (.int i) H) ∨ ∃ k, x = .bl k ∧ Q (.int (if k then 1 else 0)) H
theorem cr_intD : CallR X (.type "int") (fun vs H Q => ∃ v, vs = [v] ∧ rIntOf v H Q) := CallR.imp call_int1 fun vs H Q ⟨v, e1, h⟩ => by
  subst e1
  rcases h with ⟨i, rfl, q⟩ | ⟨i, rfl, q⟩
  · exact .inl ⟨i, rfl, q⟩
  · exact .inr ⟨i, rfl, q⟩
theorem o1_int {K : PySem.W.Frag} : Op1 K rIntOf intD := by
  intro G H x a d Q hs r hd f
  cases a <;> simp only [intD, reduceCtorEq] at hd
  · cases hd
    exact .inr ⟨_, r.bl_inv, f.same hs (.int _)⟩
  · cases hd
    exact .inl ⟨_, r.int_inv, f.same hs (.int _)⟩
theorem intsOf_map : ∀ {ds : List D} {ns : List Int}, intsOf ds = some ns → ds = ns.map .int
  | [], ns, h => by cases h; rfl
  | d :: ds, ns, h => by
    cases d <;> simp only [intsOf, reduceCtorEq] at h
    cases e : intsOf ds with
    | none => rw [e] at h; cases h
    | some ms =>
      rw [e] at h
      cases h
      rw [intsOf_map e]; rfl
theorem boolsOf_map : ∀ {ds : List D} {ns : List Bool}, boolsOf ds = some ns → ds = ns.map .bool
  | [], ns, h => by cases h; rfl
  | d :: ds, ns, h => by
    cases d <;> simp only [boolsOf, reduceCtorEq] at h
    cases e : boolsOf ds with
    | none => rw [e] at h; cases h
    | some ms =>
      rw [e] at h
      cases h
      rw [boolsOf_map e]; rfl
theorem RA.bools {K : PySem.W.Frag} {G : Hp} : ∀ {vs : List V} {ns : List Bool}, RA K G vs (ns.map PyData.bool) → vs = ns.map V.bl
  | _, [], r => by cases r; rfl
  | _, n :: ns, r => by
    cases r with
    | cons q t => rw [q.bl_inv, RA.bools t]; rfl
def rAnyOf (K : PySem.W.Frag) : V → Hp → VK → Prop := fun x H Q => ∃ (a : Addr) (bs : List Bool), x = V.ref a ∧ SqL K H a (bs.map V.bl) ∧ Q (.bl (bs.any id)) H
theorem cr_anyD (hc : X.calm = true) : CallR X (.builtin "any") (fun vs H Q => ∃ v, vs = [v] ∧ rAnyOf X.K v H Q) := CallR.imp (cr_any hc) fun vs H Q ⟨v, e1, a, bs, e2, h⟩ => ⟨a, bs, by rw [e1, e2], h⟩
theorem o1_any {K : PySem.W.Frag} : Op1 K (rAnyOf K) anyD := by
  intro G H x a d Q hs r hd f
  cases a <;> simp only [anyD, reduceCtorEq] at hd
  rename_i xs
  cases e : boolsOf xs with
  | none => rw [e] at hd; cases hd
  | some bs =>
    rw [e] at hd
    cases hd
    have := boolsOf_map e
    subst this
    obtain ⟨p, vs, rfl, hp, rv⟩ := r.lst_inv
    have := rv.bools
    subst this
    exact ⟨p, bs, rfl, sqL_of hs hp, f.same hs (.bl _)⟩
def rAllOf (K : PySem.W.Frag) : V → Hp → VK → Prop := fun x H Q => ∃ (a : Addr) (bs : List Bool), x = V.ref a ∧ SqL K H a (bs.map V.bl) ∧ Q (.bl (bs.all id)) H
theorem cr_allD (hc : X.calm = true) : CallR X (.builtin "all") (fun vs H Q => ∃ v, vs = [v] ∧ rAllOf X.K v H Q) := CallR.imp (cr_all hc) fun vs H Q ⟨v, e1, a, bs, e2, h⟩ => ⟨a, bs, by rw [e1, e2], h⟩
theorem o1_all {K : PySem.W.Frag} : Op1 K (rAllOf K) allD := by
  intro G H x a d Q hs r hd f
  cases a <;> simp only [allD, reduceCtorEq] at hd
  rename_i xs
  cases e : boolsOf xs with
  | none => rw [e] at hd; cases hd
  | some bs =>
    rw [e] at hd
    cases hd
    have := boolsOf_map e
    subst this
    obtain ⟨p, vs, rfl, hp, rv⟩ := r.lst_inv
    have := rv.bools
    subst this
    exact ⟨p, bs, rfl, sqL_of hs hp, f.same hs (.bl _)⟩
theorem d_b2 {x : Str} {a b : Expr} {p pos : Pos} {r : R2} {gg : D → D → Option D} {f1 f2 : Ev D} (h : PE X (.Call (.Name x p) [a, b] [] pos) (tCB (fun vs H Q => ∃ v w, vs = [v, w] ∧ r v w H Q) (tCons (dE X.K e f1) (tCons (dE X.K e f2) tNil)))) (o : Op2 X.K r gg) :
    PE X (.Call (.Name x p) [a, b] [] pos) (dE X.K e (eB f1 fun x => eB f2 fun y => eO (gg x y))) := pe_imp h fun σ H Q q => by
  obtain ⟨G, ρ, d, ρ', F, hf, q'⟩ := op2 o q
  refine ⟨G, ρ, d, ρ', F, hf, fun G' H' v F' g' r' => ?_⟩
  obtain ⟨G2, ρ2, d2, ρ3, F2, hf2, q2⟩ := q' G' H' v F' g' r'
  exact ⟨G2, ρ2, d2, ρ3, F2, hf2, fun G3 H3 w F3 g3 r3 => ⟨v, w, rfl, q2 G3 H3 w F3 g3 r3⟩⟩
theorem cr_max2D (hc : X.calm = true) : CallR X (.builtin "max") (fun vs H Q => ∃ v w, vs = [v, w] ∧ (rI0 fun i j => .int (if j > i then j else i)) v w H Q) := CallR.imp (call_max2 hc) fun vs H Q ⟨v, w, e1, i, j, e2, e3, q⟩ => ⟨i, j, by rw [e1, e2, e3], q⟩
theorem cr_min2D (hc : X.calm = true) : CallR X (.builtin "min") (fun vs H Q => ∃ v w, vs = [v, w] ∧ (rI0 fun i j => .int (if j < i then j else i)) v w H Q) := CallR.imp (call_min2 hc) fun vs H Q ⟨v, w, e1, i, j, e2, e3, q⟩ => ⟨i, j, by rw [e1, e2, e3], q⟩
theorem o2_max {K : PySem.W.Frag} : Op2 K (rI0 fun i j => .int (if j > i then j else i)) mxD := by
  intro G H x y a b d Q hs ra rb hd f
  cases a <;> cases b <;> simp only [mxD, reduceCtorEq] at hd
  cases hd
  exact ⟨_, _, ra.int_inv, rb.int_inv, f.same hs (.int _)⟩
theorem o2_min {K : PySem.W.Frag} : Op2 K (rI0 fun i j => .int (if j < i then j else i)) mnD := by
  intro G H x y a b d Q hs ra rb hd f
  cases a <;> cases b <;> simp only [mnD, reduceCtorEq] at hd
  cases hd
  exact ⟨_, _, ra.int_inv, rb.int_inv, f.same hs (.int _)⟩
end

/-! Px5: slots stored, walks, comprehensions, calls. -/
open PySem PySem.Spec PyProof.Rows

section
variable {K : PySem.W.Frag} {e : Ent} {G H G' H' : Hp} {σ σ1 σ2 : St} {ρ ρ' ρ1 ρ2 : Env}
theorem Gr.lift (g : Gr σ ρ ρ' G H G' H') (h1 : ∀ b, Owned σ ρ b → Owned σ1 ρ1 b) (h2 : ∀ b, Owned σ1 ρ2 b → Owned σ ρ' b) : Gr σ1 ρ1 ρ2 G H G' H' :=
  ⟨g.sg, fun b q1 q2 q3 => g.un b q1 q2 fun z => q3 (h1 b z), fun b o q1 q2 => g.kp b o q1 fun z => q2 (h1 b z), g.al, fun b z => h1 b (g.ow b (h2 b z))⟩
theorem Held.of_set {i j : Nat} {s : Sl} {xs : List D} (hi : i < ρ.length) (hs : ∀ ys, s ≠ .own ys ∧ s ≠ .par ys) (q : Held (ρ.set i s) j xs) : j ≠ i ∧ Held ρ j xs := by
  have hj : j ≠ i := fun z => by
    subst z
    rcases q with q | q
    · rw [List.getElem?_set_self hi] at q; exact (hs xs).1 (Option.some.inj q)
    · rw [List.getElem?_set_self hi] at q; exact (hs xs).2 (Option.some.inj q)
  refine ⟨hj, ?_⟩
  unfold Held at q
  rw [List.getElem?_set_ne (Ne.symm hj)] at q
  exact q
/-- a slot gets data -/
theorem Fr.setVal {i : Nat} {v : V} {d : D} (F : Fr K e G H σ ρ) (hi : i < ρ.length) (r : R K G v d) : Fr K e G H (σ.set i (some v)) (ρ.set i (.val d)) := by
  have hσ : i < σ.length := by rw [F.len]; exact hi
  have hs : ∀ ys, Sl.val d ≠ .own ys ∧ Sl.val d ≠ .par ys := fun ys => ⟨(fun z => by cases z), (fun z => by cases z)⟩
  have sn : ∀ {j : Nat}, j ≠ i → (σ.set i (some v))[j]? = σ[j]? := fun {j} h => List.getElem?_set_ne (Ne.symm h)
  have rn : ∀ {j : Nat}, j ≠ i → (ρ.set i (.val d))[j]? = ρ[j]? := fun {j} h => List.getElem?_set_ne (Ne.symm h)
  refine ⟨⟨F.sg, by simp [F.len], fun j d' q => ?_, fun j xs q => ?_, fun j l a xs ys q1 q2 s1 s2 => ?_, fun j ns q => ?_⟩, F.g0, F.un, F.kp, F.al, fun j xs a q s => ?_, fun j xs q => ?_⟩
  · by_cases hj : j = i
    · subst hj
      rw [List.getElem?_set_self hi] at q
      cases q
      exact ⟨v, by rw [List.getElem?_set_self hσ], r⟩
    · rw [rn hj] at q; rw [sn hj]; exact F.sl j d' q
  · obtain ⟨hj, h⟩ := q.of_set hi hs
    rw [sn hj]; exact F.ow j xs h
  · obtain ⟨hj, h⟩ := q1.of_set hi hs
    obtain ⟨hl, h'⟩ := q2.of_set hi hs
    rw [sn hj] at s1; rw [sn hl] at s2
    exact F.ds j l a xs ys h h' s1 s2
  · by_cases hj : j = i
    · subst hj
      rw [List.getElem?_set_self hi] at q
      cases q
    · rw [rn hj] at q; rw [sn hj]; exact F.sc j ns q
  · by_cases hj : j = i
    · subst hj
      rw [List.getElem?_set_self hi] at q
      cases q
    · rw [rn hj] at q; rw [sn hj] at s; exact F.fr j xs a q s
  · by_cases hj : j = i
    · subst hj
      rw [List.getElem?_set_self hi] at q
      cases q
    · rw [rn hj] at q; rw [sn hj]; exact F.pa j xs q
theorem setV_some {i : Nat} {d : D} (h : setV i d ρ = some ρ') : i < ρ.length ∧ ρ' = ρ.set i (.val d) := by
  unfold setV at h
  split at h <;> first | (cases h; done) | skip
  all_goals
    cases h
    rename_i q
    exact ⟨(List.getElem?_eq_some_iff.mp q).1, rfl⟩
theorem setO_some {i : Nat} {ds : List D} (h : setO i ds ρ = some ρ') : i < ρ.length ∧ ρ' = ρ.set i (.own ds) := by
  unfold setO at h
  split at h <;> first | (cases h; done) | skip
  all_goals
    cases h
    rename_i q
    exact ⟨(List.getElem?_eq_some_iff.mp q).1, rfl⟩
/-- a slot gets a new list -/
theorem Fr.setOwn {i : Nat} {p : Addr} {vs : List V} {ds : List D} (F : Fr K e G H σ ρ) (hi : i < ρ.length) (h0 : e.H p = none) (no : ¬ Owned σ ρ p) (hp : H p = some (.lst vs)) (ng : G p = none) (r : RA K G vs ds) :
    Fr K e G H (σ.set i (some (.ref p))) (ρ.set i (.own ds)) := by
  have hσ : i < σ.length := by rw [F.len]; exact hi
  have sn : ∀ {j : Nat}, j ≠ i → (σ.set i (some (.ref p)))[j]? = σ[j]? := fun {j} h => List.getElem?_set_ne (Ne.symm h)
  have rn : ∀ {j : Nat}, j ≠ i → (ρ.set i (.own ds))[j]? = ρ[j]? := fun {j} h => List.getElem?_set_ne (Ne.symm h)
  have hn : ∀ {j : Nat} {xs : List D}, j ≠ i → Held (ρ.set i (.own ds)) j xs → Held ρ j xs := fun {j xs} h q => by unfold Held at q; rw [rn h] at q; exact q
  refine ⟨⟨F.sg, by simp [F.len], fun j d' q => ?_, fun j xs q => ?_, fun j l a xs ys q1 q2 s1 s2 => ?_, fun j ns q => ?_⟩, F.g0, F.un, F.kp, F.al, fun j xs a q s => ?_, fun j xs q => ?_⟩
  · by_cases hj : j = i
    · subst hj
      rw [List.getElem?_set_self hi] at q
      cases q
    · rw [rn hj] at q; rw [sn hj]; exact F.sl j d' q
  · by_cases hj : j = i
    · subst hj
      rcases q with q | q
      · rw [List.getElem?_set_self hi] at q
        cases q
        exact ⟨p, vs, by rw [List.getElem?_set_self hσ], hp, ng, r⟩
      · rw [List.getElem?_set_self hi] at q
        cases q
    · rw [sn hj]; exact F.ow j xs (hn hj q)
  · by_cases hj : j = i
    · by_cases hl : l = i
      · rw [hj, hl]
      · exfalso
        subst hj
        rw [List.getElem?_set_self hσ] at s1
        cases s1
        rw [sn hl] at s2
        exact no ⟨l, ys, hn hl q2, s2⟩
    · by_cases hl : l = i
      · exfalso
        subst hl
        rw [List.getElem?_set_self hσ] at s2
        cases s2
        rw [sn hj] at s1
        exact no ⟨j, xs, hn hj q1, s1⟩
      · rw [sn hj] at s1; rw [sn hl] at s2
        exact F.ds j l a xs ys (hn hj q1) (hn hl q2) s1 s2
  · by_cases hj : j = i
    · subst hj
      rw [List.getElem?_set_self hi] at q
      cases q
    · rw [rn hj] at q; rw [sn hj]; exact F.sc j ns q
  · by_cases hj : j = i
    · subst hj
      rw [List.getElem?_set_self hσ] at s
      cases s
      exact h0
    · rw [rn hj] at q; rw [sn hj] at s; exact F.fr j xs a q s
  · by_cases hj : j = i
    · subst hj
      rw [List.getElem?_set_self hi] at q
      cases q
    · rw [rn hj] at q; rw [sn hj]; exact F.pa j xs q

/-! ### hiding slots -/
theorem wipe_get (σ : St) : ∀ (vs : List Nat) (i : Nat), (wipe σ vs)[i]? = if i ∈ vs ∧ i < σ.length then some none else σ[i]?
  | [], i => by simp [wipe]
  | v :: vs, i => by
    unfold wipe
    have ih := wipe_get σ vs i
    by_cases hv : v = i
    · subst hv
      by_cases hl : v < σ.length
      · rw [List.getElem?_set_self (by rw [wipe_length]; exact hl), if_pos ⟨List.mem_cons_self, hl⟩]
      · rw [if_neg fun z => hl z.2]
        rw [List.getElem?_eq_none (by rw [List.length_set, wipe_length]; omega), List.getElem?_eq_none (by omega)]
    · rw [List.getElem?_set_ne hv, ih]
      have : (i ∈ v :: vs) ↔ i ∈ vs := by simp [Ne.symm hv]
      simp only [this]
theorem wipeE_length (ρ : Env) : ∀ vs : List Nat, (wipeE vs ρ).length = ρ.length
  | [] => rfl
  | v :: vs => by unfold wipeE; rw [List.length_set, wipeE_length ρ vs]
theorem wipeE_get (ρ : Env) : ∀ (vs : List Nat) (i : Nat), (wipeE vs ρ)[i]? = if i ∈ vs ∧ i < ρ.length then some .non else ρ[i]?
  | [], i => by simp [wipeE]
  | v :: vs, i => by
    unfold wipeE
    have ih := wipeE_get ρ vs i
    by_cases hv : v = i
    · subst hv
      by_cases hl : v < ρ.length
      · rw [List.getElem?_set_self (by rw [wipeE_length]; exact hl), if_pos ⟨List.mem_cons_self, hl⟩]
      · rw [if_neg fun z => hl z.2]
        rw [List.getElem?_eq_none (by rw [List.length_set, wipeE_length]; omega), List.getElem?_eq_none (by omega)]
    · rw [List.getElem?_set_ne hv, ih]
      have : (i ∈ v :: vs) ↔ i ∈ vs := by simp [Ne.symm hv]
      simp only [this]
theorem wipe_eq {vs : List Nat} (hl : σ2.length = σ.length) (h : ∀ i, i ∉ vs → σ2[i]? = (wipe σ vs)[i]?) : wipe σ2 vs = wipe σ vs := by
  apply List.ext_getElem?
  intro i
  by_cases hi : i ∈ vs
  · rw [wipe_get, wipe_get, hl]
    by_cases hl' : i < σ.length
    · rw [if_pos ⟨hi, hl'⟩, if_pos ⟨hi, hl'⟩]
    · rw [if_neg fun z => hl' z.2, if_neg fun z => hl' z.2, List.getElem?_eq_none (by omega), List.getElem?_eq_none (by omega)]
  · rw [wipe_get, if_neg fun z => hi z.1]; exact h i hi
theorem Held.wipe {vs : List Nat} {j : Nat} {xs : List D} (q : Held (wipeE vs ρ) j xs) : j ∉ vs ∧ Held ρ j xs := by
  have hj : j ∉ vs := fun z => by
    by_cases hl : j < ρ.length
    · rcases q with q | q <;> rw [wipeE_get, if_pos ⟨z, hl⟩] at q <;> cases q
    · rcases q with q | q <;> rw [wipeE_get, if_neg fun z => hl z.2, List.getElem?_eq_none (by omega)] at q <;> cases q
  refine ⟨hj, ?_⟩
  unfold Held at q
  rw [wipeE_get, if_neg fun z => hj z.1] at q
  exact q
theorem wipe_at {vs : List Nat} {j : Nat} (h : j ∉ vs) : (wipe σ vs)[j]? = σ[j]? := by rw [wipe_get, if_neg fun z => h z.1]
theorem wipeE_at {vs : List Nat} {j : Nat} (h : j ∉ vs) : (wipeE vs ρ)[j]? = ρ[j]? := by rw [wipeE_get, if_neg fun z => h z.1]
theorem wipeE_in {vs : List Nat} {j : Nat} {s : Sl} (h : j ∈ vs) (q : (wipeE vs ρ)[j]? = some s) : s = .non := by
  rw [wipeE_get] at q
  by_cases hl : j < ρ.length
  · rw [if_pos ⟨h, hl⟩] at q; cases q; rfl
  · rw [if_neg fun z => hl z.2, List.getElem?_eq_none (by omega)] at q; cases q
theorem Owned.wipe {vs : List Nat} {b : Addr} (o : Owned (wipe σ vs) (wipeE vs ρ) b) : Owned σ ρ b := by
  obtain ⟨j, xs, h, s⟩ := o
  obtain ⟨hj, h'⟩ := h.wipe
  rw [wipe_at hj] at s
  exact ⟨j, xs, h', s⟩
theorem Fr.wipe (vs : List Nat) (F : Fr K e G H σ ρ) : Fr K e G H (L2.wipe σ vs) (wipeE vs ρ) := by
  refine ⟨⟨F.sg, by rw [wipe_length, wipeE_length]; exact F.len, fun j d q => ?_, fun j xs q => ?_, fun j l a xs ys q1 q2 s1 s2 => ?_, fun j ns q => ?_⟩, F.g0, F.un, F.kp, F.al, fun j xs a q s => ?_, fun j xs q => ?_⟩
  · by_cases hj : j ∈ vs
    · exact absurd (wipeE_in hj q) (fun z => nomatch z)
    · rw [wipeE_at hj] at q; rw [wipe_at hj]; exact F.sl j d q
  · obtain ⟨hj, h⟩ := q.wipe
    rw [wipe_at hj]; exact F.ow j xs h
  · obtain ⟨hj, h⟩ := q1.wipe
    obtain ⟨hl, h'⟩ := q2.wipe
    rw [wipe_at hj] at s1; rw [wipe_at hl] at s2
    exact F.ds j l a xs ys h h' s1 s2
  · by_cases hj : j ∈ vs
    · exact absurd (wipeE_in hj q) (fun z => nomatch z)
    · rw [wipeE_at hj] at q; rw [wipe_at hj]; exact F.sc j ns q
  · obtain ⟨hj, h⟩ := Held.wipe (.inl q)
    rw [wipeE_at hj] at q; rw [wipe_at hj] at s; exact F.fr j xs a q s
  · obtain ⟨hj, h⟩ := Held.wipe (.inr q)
    rw [wipeE_at hj] at q; rw [wipe_at hj]; exact F.pa j xs q
theorem backE_length (ρ0 ρ : Env) : ∀ vs : List Nat, (backE vs ρ0 ρ).length = ρ.length
  | [] => rfl
  | v :: vs => by unfold backE; rw [List.length_set, backE_length ρ0 ρ vs]
theorem backE_get (ρ0 ρ : Env) (hl0 : ρ0.length = ρ.length) : ∀ (vs : List Nat) (i : Nat), (backE vs ρ0 ρ)[i]? = if i ∈ vs then ρ0[i]? else ρ[i]?
  | [], i => by simp [backE]
  | v :: vs, i => by
    unfold backE
    have ih := backE_get ρ0 ρ hl0 vs i
    by_cases hv : v = i
    · subst hv
      rw [if_pos List.mem_cons_self]
      by_cases hl : v < ρ.length
      · rw [List.getElem?_set_self (by rw [backE_length]; exact hl), List.getElem?_eq_getElem (by omega)]
        rfl
      · rw [List.getElem?_eq_none (by rw [List.length_set, backE_length]; omega), List.getElem?_eq_none (by omega)]
    · rw [List.getElem?_set_ne hv, ih]
      have : (i ∈ v :: vs) ↔ i ∈ vs := by simp [Ne.symm hv]
      simp only [this]
theorem noHeld_at {vs : List Nat} {i : Nat} (h : noHeld vs ρ = true) (hi : i ∈ vs) : ρ[i]? = some .non ∨ ∃ d, ρ[i]? = some (.val d) := by
  unfold noHeld at h
  have q := List.all_eq_true.mp h i hi
  split at q <;> first | (cases q; done) | skip
  · rename_i z; exact .inl z
  · rename_i z; exact .inr ⟨_, z⟩
/-- the hidden slots as they were ahead -/
theorem Fr.back {vs : List Nat} {G1 H1 : Hp} {ρ0 : Env} (F0 : Fr K e G1 H1 σ ρ0) (nh : noHeld vs ρ0 = true) (F : Fr K e G H (L2.wipe σ vs) ρ) (sg : Same G1 G) : Fr K e G H σ (backE vs ρ0 ρ) ∧ ∀ b, Owned σ (backE vs ρ0 ρ) b → Owned (L2.wipe σ vs) ρ b := by
  have hl : ρ0.length = ρ.length := by rw [← F0.len, ← F.len, wipe_length]
  have held : ∀ {j : Nat} {xs : List D}, Held (backE vs ρ0 ρ) j xs → j ∉ vs ∧ Held ρ j xs := fun {j xs} q => by
    have hj : j ∉ vs := fun z => by
      rcases noHeld_at nh z with q' | ⟨d, q'⟩ <;> rcases q with q | q <;> rw [backE_get ρ0 ρ hl, if_pos z, q'] at q <;> cases q
    refine ⟨hj, ?_⟩
    unfold Held at q
    rw [backE_get ρ0 ρ hl, if_neg hj] at q
    exact q
  refine ⟨⟨⟨F.sg, by rw [backE_length, ← hl]; exact F0.len, fun j d q => ?_, fun j xs q => ?_, fun j l a xs ys q1 q2 s1 s2 => ?_, fun j ns q => ?_⟩, F.g0, F.un, F.kp, F.al, fun j xs a q s => ?_, fun j xs q => ?_⟩, fun b ⟨j, xs, q, s⟩ => ?_⟩
  · rw [backE_get ρ0 ρ hl] at q
    by_cases hj : j ∈ vs
    · rw [if_pos hj] at q
      obtain ⟨v, a1, a2⟩ := F0.sl j d q
      exact ⟨v, a1, a2.up sg⟩
    · rw [if_neg hj] at q
      have := F.sl j d q
      rw [wipe_at hj] at this
      exact this
  · obtain ⟨hj, h⟩ := held q
    have := F.ow j xs h
    rw [wipe_at hj] at this
    exact this
  · obtain ⟨hj, h⟩ := held q1
    obtain ⟨hl', h'⟩ := held q2
    exact F.ds j l a xs ys h h' (by rw [wipe_at hj]; exact s1) (by rw [wipe_at hl']; exact s2)
  · rw [backE_get ρ0 ρ hl] at q
    by_cases hj : j ∈ vs
    · rw [if_pos hj] at q
      obtain ⟨v, a1, a2⟩ := F0.sc j ns q
      exact ⟨v, a1, sg.seq a2⟩
    · rw [if_neg hj] at q
      have := F.sc j ns q
      rw [wipe_at hj] at this
      exact this
  · obtain ⟨hj, h⟩ := held (.inl q)
    rw [backE_get ρ0 ρ hl, if_neg hj] at q
    exact F.fr j xs a q (by rw [wipe_at hj]; exact s)
  · obtain ⟨hj, h⟩ := held (.inr q)
    rw [backE_get ρ0 ρ hl, if_neg hj] at q
    have := F.pa j xs q
    rw [wipe_at hj] at this
    exact this
  · obtain ⟨hj, h⟩ := held q
    exact ⟨j, xs, h, by rw [wipe_at hj]; exact s⟩
/-- an object that is neither known nor held is changed -/
theorem Fr.other {p : Addr} {o : HO} (F : Fr K e G H σ ρ) (h0 : e.H p = none) (ng : G p = none) (no : ¬ Owned σ ρ p) : Fr K e G (upd H p o) σ ρ := by
  refine ⟨⟨fun b x q => by rw [upd_ne fun z => by rw [z, ng] at q; cases q]; exact F.sg b x q, F.len, F.sl, fun j xs q => ?_, F.ds, F.sc⟩, F.g0, F.un, fun b o' q1 q2 => ?_, fun b q => ?_, F.fr, F.pa⟩
  · obtain ⟨a, vs, a1, a2, a3, a4⟩ := F.ow j xs q
    exact ⟨a, vs, a1, by rw [upd_ne fun z => no ⟨j, xs, q, by rw [← z]; exact a1⟩]; exact a2, a3, a4⟩
  · rw [upd_ne fun z => by rw [z, h0] at q1; cases q1]; exact F.kp b o' q1 q2
  · rw [upd_ne fun z => q (by rw [z]; exact h0)]; exact F.al b q
theorem Gr.other {p : Addr} {o : HO} (g : Gr σ ρ ρ' G H G' H') (h0 : H p = none) : Gr σ ρ ρ' G H G' (upd H' p o) :=
  ⟨g.sg, g.un, fun b o' q1 q2 => by rw [upd_ne fun z => by rw [z, h0] at q1; cases q1]; exact g.kp b o' q1 q2, fun b q => by rw [upd_ne fun z => q (by rw [z]; exact h0)]; exact g.al b q, g.ow⟩
end

/-! ### targets -/
def tgIx : Tg → List Nat
  | .one i => [i]
  | .many is => is
def gNames : List Nat → TGs
  | [] => gNil
  | i :: is => gCons (gName i) (gNames is)
def tgG (K : PySem.W.Frag) : Tg → TG
  | .one i => gName i
  | .many is => gTup K is.length (gNames is)
section
variable {K : PySem.W.Frag} {e : Ent} {G H : Hp} {σ : St} {ρ ρ1 : Env}
theorem names_ok : ∀ {is : List Nat} {ds : List D} {vs : List V} {σ : St} {ρ : Env} {Q : St → Hp → Prop}, Fr K e G H σ ρ → RA K G vs ds → setVs is ds ρ = some ρ1 →
    (∀ σ1, Fr K e G H σ1 ρ1 → (∀ i, i ∉ is → σ1[i]? = σ[i]?) → σ1.length = σ.length → (∀ b, Owned σ1 ρ1 b → Owned σ ρ b) → Q σ1 H) → gNames is vs σ H Q
  | [], [], _, σ, ρ, Q, F, r, h, q => by
    cases r
    cases h
    exact ⟨rfl, q σ F (fun _ _ => rfl) rfl fun _ h => h⟩
  | [], _ :: _, _, _, _, _, _, _, h, _ => by cases h
  | _ :: _, [], _, _, _, _, _, _, h, _ => by cases h
  | i :: is, d :: ds, _, σ, ρ, Q, F, r, h, q => by
    cases r with
    | cons r1 rr =>
      rename_i v vs
      have h' : (setV i d ρ).bind (setVs is ds) = some ρ1 := h
      obtain ⟨ρ2, e1, e2⟩ := Option.bind_eq_some_iff.mp h'
      obtain ⟨hi, rfl⟩ := setV_some e1
      refine ⟨v, vs, rfl, ?_⟩
      show gNames is vs (σ.set i (some v)) H Q
      have own1 : ∀ b, Owned (σ.set i (some v)) (ρ.set i (.val d)) b → Owned σ ρ b := fun b ⟨j, xs, hh, ss⟩ => by
        obtain ⟨hj, hh'⟩ := hh.of_set hi fun ys => ⟨(fun z => by cases z), (fun z => by cases z)⟩
        rw [List.getElem?_set_ne (Ne.symm hj)] at ss
        exact ⟨j, xs, hh', ss⟩
      refine names_ok (F.setVal hi r1) rr e2 fun σ1 F1 a1 a2 a3 => q σ1 F1 (fun j hj => ?_) (by rw [a2, List.length_set]) fun b z => own1 b (a3 b z)
      have hj1 : j ∉ is := fun z => hj (List.mem_cons_of_mem _ z)
      have hj2 : j ≠ i := fun z => hj (by rw [z]; exact List.mem_cons_self)
      rw [a1 j hj1, List.getElem?_set_ne (Ne.symm hj2)]
theorem setVs_len : ∀ {is : List Nat} {ds : List D} {ρ ρ1 : Env}, setVs is ds ρ = some ρ1 → ds.length = is.length
  | [], [], _, _, _ => rfl
  | [], _ :: _, _, _, h => by cases h
  | _ :: _, [], _, _, h => by cases h
  | i :: is, d :: ds, ρ, ρ1, h => by
    have h' : (setV i d ρ).bind (setVs is ds) = some ρ1 := h
    obtain ⟨ρ2, e1, e2⟩ := Option.bind_eq_some_iff.mp h'
    rw [List.length_cons, List.length_cons, setVs_len e2]
theorem tg_ok {tg : Tg} {x : V} {d : D} {Q : St → Hp → Prop} (F : Fr K e G H σ ρ) (r : R K G x d) (hb : bindT tg d ρ = some ρ1)
    (q : ∀ σ1, Fr K e G H σ1 ρ1 → (∀ i, i ∉ tgIx tg → σ1[i]? = σ[i]?) → σ1.length = σ.length → (∀ b, Owned σ1 ρ1 b → Owned σ ρ b) → Q σ1 H) : tgG K tg x σ H Q := by
  cases tg with
  | one i =>
    have hb' : (setV i d ρ).bind (setVs [] []) = some ρ1 := by
      have : setV i d ρ = some ρ1 := hb
      rw [this]; rfl
    have := names_ok (is := [i]) (ds := [d]) F (.cons r .nil) hb' q
    obtain ⟨v, rest, e1, h1⟩ := this
    cases e1
    exact h1.2
  | many is =>
    cases d <;> first | (cases hb; done) | skip
    rename_i ds
    have hb : setVs is ds ρ = some ρ1 := hb
    obtain ⟨a, vs, rfl, ha, rv⟩ := r.tup_inv
    exact ⟨a, vs, rfl, sqT_of F.sg ha, by rw [rv.length]; exact setVs_len hb, names_ok F rv hb q⟩
end

/-! ### walks -/
section
variable {X : Cx} {K : PySem.W.Frag} {e : Ent} {G : Hp}
theorem walkD_list {a : Addr} {vs : List V} {ds : List D} (h : G a = some (.lst vs)) (r : RA K G vs ds) : WalkD K G (Itl K a) ds := by
  refine ⟨fun H => SqL K H a vs, YAt vs, by rw [← r.length]; exact walk_list (xs := vs), fun H s => sqL_of s h, fun i H x H' hi s y => ?_⟩
  obtain ⟨rfl, hx⟩ := y
  obtain ⟨d, h1, h2⟩ := r.get' hx
  exact ⟨d, h1, fun G1 s1 s2 => ⟨G1, Ext.refl s2, h2.up s1⟩⟩
theorem walkD_tup {a : Addr} {vs : List V} {ds : List D} (h : SqT K G a vs) (r : RA K G vs ds) : WalkD K G (Itt K a) ds := by
  refine ⟨fun H => SqT K H a vs, YAt vs, by rw [← r.length]; exact walk_tup (xs := vs), fun H s => sqT_of s h, fun i H x H' hi s y => ?_⟩
  obtain ⟨rfl, hx⟩ := y
  obtain ⟨d, h1, h2⟩ := r.get' hx
  exact ⟨d, h1, fun G1 s1 s2 => ⟨G1, Ext.refl s2, h2.up s1⟩⟩
theorem rangeD_get {lo : Int} {n : Nat} {c : Int} {i : Nat} (hi : i < n) : (rangeD lo n c)[i]? = some (.int (lo + (i : Int) * c)) := by
  unfold rangeD
  rw [List.getElem?_map, List.getElem?_range hi]
  rfl
theorem rangeD_len {lo : Int} {n : Nat} {c : Int} : (rangeD lo n c).length = n := by unfold rangeD; rw [List.length_map, List.length_range]
theorem walkD_range {lo : Int} {n : Nat} : WalkD K G (Itr lo n) (rangeD lo n 1) := by
  refine ⟨fun _ => True, YFn fun i => .int (lo + i), by rw [rangeD_len]; exact walk_range, fun H s => True.intro, fun i H x H' hi s y => ?_⟩
  rw [rangeD_len] at hi
  obtain ⟨rfl, rfl⟩ := y
  exact ⟨_, rangeD_get hi, fun G1 s1 s2 => ⟨G1, Ext.refl s2, by rw [Int.mul_one]; exact .int _⟩⟩
theorem walkD_rangeC {lo : Int} {n : Nat} {c : Int} : WalkD K G (Itc lo c n) (rangeD lo n c) := by
  refine ⟨fun _ => True, YFn fun i => .int (lo + (i : Nat) * c), by rw [rangeD_len]; exact walk_rangeC, fun H s => True.intro, fun i H x H' hi s y => ?_⟩
  rw [rangeD_len] at hi
  obtain ⟨rfl, rfl⟩ := y
  exact ⟨_, rangeD_get hi, fun G1 s1 s2 => ⟨G1, Ext.refl s2, .int _⟩⟩
theorem zipD_len : ∀ xs ys : List D, (zipD xs ys).length = min xs.length ys.length
  | [], _ => by simp [zipD]
  | _ :: _, [] => by simp [zipD]
  | x :: xs, y :: ys => by
    have := zipD_len xs ys
    simp only [zipD, List.length_cons]
    omega
theorem zipD_get : ∀ (xs ys : List D) (i : Nat) (a b : D), xs[i]? = some a → ys[i]? = some b → (zipD xs ys)[i]? = some (.tuple [a, b])
  | [], _, _, _, _, h, _ => by simp at h
  | _ :: _, [], _, _, _, _, h => by simp at h
  | x :: xs, y :: ys, 0, a, b, h1, h2 => by
    simp at h1 h2
    subst h1 h2
    rfl
  | x :: xs, y :: ys, i + 1, a, b, h1, h2 => zipD_get xs ys i a b (by simpa using h1) (by simpa using h2)
theorem pair_new {G1 H : Hp} {T : Addr} {x y : V} {a b : D} (s : Same G1 H) (n : H T = none) (r1 : R K G1 x a) (r2 : R K G1 y b) : ∃ G2, Ext G1 H G2 (upd H T (.tup [x, y])) ∧ R K G2 (.ref T) (.tuple [a, b]) := by
  have s2 := same_new (o := HO.tup [x, y]) (none_of_same s n)
  exact ⟨upd G1 T (.tup [x, y]), Ext.new s n, .tup (.inl (.inl upd_same)) (.cons (r1.up s2) (.cons (r2.up s2) .nil))⟩
theorem walkD_zip {a b : Addr} {vs ws : List V} {xs ys : List D} (h1 : G a = some (.lst vs)) (h2 : G b = some (.lst ws)) (r1 : RA K G vs xs) (r2 : RA K G ws ys) : WalkD K G (Itz K a b) (zipD xs ys) := by
  refine ⟨fun H => SqL K H a vs ∧ SqL K H b ws, YPair (fun i => vs[i]?) (fun i => ws[i]?), by rw [zipD_len, ← r1.length, ← r2.length]; exact walk_zip (xs := vs) (ys := ws) rfl, fun H s => ⟨sqL_of s h1, sqL_of s h2⟩, fun i H x H' hi s y => ?_⟩
  obtain ⟨T, x1, x2, rfl, hT, rfl, q1, q2⟩ := y
  obtain ⟨d1, e1, p1⟩ := r1.get' q1
  obtain ⟨d2, e2, p2⟩ := r2.get' q2
  exact ⟨_, zipD_get _ _ _ _ _ e1 e2, fun G1 s1 s2 => pair_new s2 hT (p1.up s1) (p2.up s1)⟩
theorem walk_zipT {K : PySem.W.Frag} {a b : Addr} {xs ys : List V} {n : Nat} (hn : n = min xs.length ys.length) : Walk (RZ.ItzT K a b) n (fun H => SqT K H a xs ∧ SqT K H b ys) (YPair (fun i => xs[i]?) (fun i => ys[i]?)) := by
  subst hn
  refine ⟨fun i _ hi q => ?_, fun _ q => ⟨xs, ys, q.1, q.2, by omega⟩, fun i H v H' _ q y => ?_⟩
  · have h1 : i < xs.length := by omega
    have h2 : i < ys.length := by omega
    exact ⟨xs, ys, xs[i], ys[i], q.1, q.2, by simp [h1], by simp [h2]⟩
  · obtain ⟨T, x, z, h1, h2, h3, h4, h5⟩ := y
    exact ⟨T, x, z, h1, h2, h3, h4 xs q.1, h5 ys q.2⟩
theorem walkD_zipT {a b : Addr} {vs ws : List V} {xs ys : List D} (h1 : SqT K G a vs) (h2 : SqT K G b ws) (r1 : RA K G vs xs) (r2 : RA K G ws ys) : WalkD K G (RZ.ItzT K a b) (zipD xs ys) := by
  refine ⟨fun H => SqT K H a vs ∧ SqT K H b ws, YPair (fun i => vs[i]?) (fun i => ws[i]?), by rw [zipD_len, ← r1.length, ← r2.length]; exact walk_zipT (xs := vs) (ys := ws) rfl, fun H s => ⟨sqT_of s h1, sqT_of s h2⟩, fun i H x H' hi s y => ?_⟩
  obtain ⟨T, x1, x2, rfl, hT, rfl, q1, q2⟩ := y
  obtain ⟨d1, e1, p1⟩ := r1.get' q1
  obtain ⟨d2, e2, p2⟩ := r2.get' q2
  exact ⟨_, zipD_get _ _ _ _ _ e1 e2, fun G1 s1 s2 => pair_new s2 hT (p1.up s1) (p2.up s1)⟩
theorem enumD_get : ∀ (xs : List D) (k i : Nat) (a : D), xs[i]? = some a → (enumD k xs)[i]? = some (.tuple [.int ((k + i : Nat) : Int), a])
  | [], _, _, _, h => by simp at h
  | x :: xs, k, 0, a, h => by
    simp at h
    subst h
    rfl
  | x :: xs, k, i + 1, a, h => by
    have := enumD_get xs (k + 1) i a (by simpa using h)
    rw [show k + 1 + i = k + (i + 1) by omega] at this
    exact this
theorem enumD_len : ∀ (xs : List D) (k : Nat), (enumD k xs).length = xs.length
  | [], _ => rfl
  | x :: xs, k => by simp only [enumD, List.length_cons, enumD_len xs]
theorem walkD_enum {a : Addr} {vs : List V} {ds : List D} (h : G a = some (.lst vs)) (r : RA K G vs ds) : WalkD K G (Ite K a) (enumD 0 ds) := by
  refine ⟨fun H => SqL K H a vs, YPair (fun i => some (.int (i : Nat))) (fun i => vs[i]?), by rw [enumD_len, ← r.length]; exact walk_enum (xs := vs), fun H s => sqL_of s h, fun i H x H' hi s y => ?_⟩
  obtain ⟨T, x1, x2, rfl, hT, rfl, q1, q2⟩ := y
  cases q1
  obtain ⟨d2, e2, p2⟩ := r.get' q2
  refine ⟨_, enumD_get _ _ _ _ e2, fun G1 s1 s2 => ?_⟩
  rw [Nat.zero_add]
  exact pair_new s2 hT (.int _) (p2.up s1)

variable {Φ : Phi} {Γ : Str → Option D} {N : List Str} {sc : Scope} {sn : Str → Bool} {k : Nat}
/-- a list or a tuple, walked -/
def iSq (K : PySem.W.Frag) (tl : TE) : TI := fun σ H R => tl σ H fun x H1 => ∃ a, x = .ref a ∧ ((∃ xs, SqL K H1 a xs) ∧ R (Itl K a) H1 ∨ (∃ xs, SqT K H1 a xs) ∧ R (Itt K a) H1)
theorem pi_sq {tg l : Expr} {tl : TE} (hl : PE X l tl) : PI X tg l (iSq X.K tl) := by
  refine ⟨fun pins s σ H R I h => ?_⟩
  refine thn (hl.run pins s σ H _ I h) fun v s1 ⟨x, H1, I1, r1, q1⟩ => ?_
  obtain ⟨a, e, q⟩ := q1
  subst e
  cases r1
  rcases q with ⟨⟨xs, hq⟩, q⟩ | ⟨⟨xs, hq⟩, q⟩
  · obtain ⟨its, rv, p, hz⟩ := I1.list hq
    refine wpAny_pyIter_list p.isList ?_
    refine ⟨s1.heap.objs.size, [s1.heap.objs.size], _, _, H1, rfl, I1.kept (t' := s1.toks) fun b o e => Heap.get?_push_of_some _ e, turn_list a _, ⟨_, Heap.get?_push_size _ rfl, rfl, rfl⟩, fun b hb => ?_, q⟩
    have e : b = s1.heap.objs.size := by simpa using hb
    subst e
    exact I1.fpOk (Nat.le_refl _) (I1.hok.fresh (Nat.le_refl _))
  · obtain ⟨its, rv, p, hz⟩ := I1.tuple hq
    refine wpAny_pyIter_tuple (show s1.heap.IsTuple a its.toArray from p) ?_
    refine ⟨s1.heap.objs.size, [s1.heap.objs.size], _, _, H1, rfl, I1.kept (t' := s1.toks) fun b o e => Heap.get?_push_of_some _ e, turn_tuple a _, ⟨_, Heap.get?_push_size _ rfl, rfl, rfl⟩, fun b hb => ?_, q⟩
    have e : b = s1.heap.objs.size := by simpa using hb
    subst e
    exact I1.fpOk (Nat.le_refl _) (I1.hok.fresh (Nat.le_refl _))
theorem i_seq {tg l : Expr} {f : Ev D} (hl : PE X l (dE X.K e f)) : PI X tg l (dI X.K e (vSeq f)) := by
  refine pi_imp (pi_sq hl) fun σ H Q ⟨G, ρ, ds, ρ', F, hf, q⟩ => ?_
  obtain ⟨x, ρ1, e1, h1⟩ := eB_some hf
  cases es : seqD x with
  | none => rw [es] at h1; cases h1
  | some ys =>
    rw [es] at h1
    cases h1
    refine ⟨G, ρ, x, ρ', F, e1, fun G1 H1 v F1 g1 r1 => ?_⟩
    rcases seqD_some es with rfl | rfl
    · obtain ⟨a, vs, rfl, ha, rv⟩ := r1.lst_inv
      exact ⟨a, rfl, .inl ⟨⟨vs, sqL_of F1.sg ha⟩, q G1 H1 _ F1 g1 (walkD_list ha rv)⟩⟩
    · obtain ⟨a, vs, rfl, ha, rv⟩ := r1.tup_inv
      exact ⟨a, rfl, .inr ⟨⟨vs, sqT_of F1.sg ha⟩, q G1 H1 _ F1 g1 (walkD_tup ha rv)⟩⟩
theorem r62_of {i : Int} (h : r62 i = true) : -(2 ^ 62) ≤ i ∧ i < 2 ^ 62 := by
  unfold r62 at h
  simpa using h
theorem i_range1 (g : Good Φ Γ N sc sn k X) {tg a : Expr} {p pos : Pos} {f : Ev D} (hx : sc.names.lookup (Str.ofString "range") = some .globalImplicit) (hs : notStar a = true) (ha : PE X a (dE X.K e f)) : PI X tg (.Call (.Name "range" p) [a] [] pos) (dI X.K e (vRange1 f)) := by
  refine pi_imp (pi_range1 (g.gl' hx) (g.blt _ (by decide)) (args1 ha hs) (starEach_of hs)) fun σ H Q ⟨G, ρ, ds, ρ', F, hf, q⟩ => ?_
  obtain ⟨x, ρ1, e1, h1⟩ := eB_some hf
  cases x <;> first | (cases h1; done) | skip
  rename_i j
  simp only at h1
  split at h1
  · rename_i hj
    cases h1
    refine ⟨G, ρ, _, ρ', F, e1, fun G1 H1 v F1 g1 r1 => ⟨j, by rw [r1.int_inv], (r62_of hj).1, (r62_of hj).2, q G1 H1 _ F1 g1 walkD_range⟩⟩
  · cases h1
theorem i_range2 (g : Good Φ Γ N sc sn k X) {tg a b : Expr} {p pos : Pos} {f1 f2 : Ev D} (hx : sc.names.lookup (Str.ofString "range") = some .globalImplicit) (hs : notStar a = true) (hs2 : notStar b = true) (ha : PE X a (dE X.K e f1)) (hb : PE X b (dE X.K e f2)) :
    PI X tg (.Call (.Name "range" p) [a, b] [] pos) (dI X.K e (vRange2 f1 f2)) := by
  refine pi_imp (pi_range2 (g.gl' hx) (g.blt _ (by decide)) (args2 ha hb hs hs2) (by rw [starEach_of hs, starEach_of hs2]; rfl) (by rw [starEach_of hs2]; rfl)) fun σ H Q ⟨G, ρ, ds, ρ', F, hf, q⟩ => ?_
  obtain ⟨x, ρ1, e1, h1⟩ := eB_some hf
  obtain ⟨y, ρ2, e2, h2⟩ := eB_some h1
  cases x <;> cases y <;> first | (cases h2; done) | skip
  rename_i i j
  simp only [Bool.and_eq_true] at h2
  split at h2
  · rename_i hj
    cases h2
    exact ⟨G, ρ, _, ρ1, F, e1, fun G1 H1 v F1 g1 r1 => ⟨G1, ρ1, _, ρ', F1, e2, fun G2 H2 w F2 g2 r2 => ⟨i, j, by rw [r1.int_inv, r2.int_inv], ⟨(r62_of hj.1).1, (r62_of hj.1).2, (r62_of hj.2).1, (r62_of hj.2).2⟩, q G2 H2 _ F2 (g1.trans g2) walkD_range⟩⟩⟩
  · cases h2
theorem i_zip (g : Good Φ Γ N sc sn k X) {a b : Expr} {elts : List Expr} {kk : Nat} {p pos tpos : Pos} {f1 f2 : Ev D} (hx : sc.names.lookup (Str.ofString "zip") = some .globalImplicit) (hs : notStar a = true) (hs2 : notStar b = true) (ha : PE X a (dE X.K e f1)) (hb : PE X b (dE X.K e f2)) :
    PI X (.Tuple elts kk tpos) (.Call (.Name "zip" p) [a, b] [] pos) (dI X.K e (vZip f1 f2)) := by
  refine pi_imp (RZ.pi_zipA (g.gl' hx) (g.blt _ (by decide)) (args2 ha hb hs hs2) (starEach_of hs) (noStars_any (by simp [noStars, hs2]))) fun σ H Q ⟨G, ρ, ds, ρ', F, hf, q⟩ => ?_
  obtain ⟨x, ρ1, e1, h1⟩ := eB_some hf
  obtain ⟨y, ρ2, e2, h2⟩ := eB_some h1
  cases x <;> cases y <;> first | (cases h2; done) | skip
  · cases h2
    refine ⟨G, ρ, _, ρ1, F, e1, fun G1 H1 v F1 g1 r1 => ⟨G1, ρ1, _, ρ', F1, e2, fun G2 H2 w F2 g2 r2 => ?_⟩⟩
    obtain ⟨a, vs, rfl, h1, rv⟩ := (r1.up g2.sg).lst_inv
    obtain ⟨b, ws, rfl, h2, rw'⟩ := r2.lst_inv
    exact ⟨a, b, vs, ws, rfl, .inl ⟨sqL_of F2.sg h1, sqL_of F2.sg h2, q G2 H2 _ F2 (g1.trans g2) (walkD_zip h1 h2 rv rw')⟩⟩
  · cases h2
    refine ⟨G, ρ, _, ρ1, F, e1, fun G1 H1 v F1 g1 r1 => ⟨G1, ρ1, _, ρ', F1, e2, fun G2 H2 w F2 g2 r2 => ?_⟩⟩
    obtain ⟨a, vs, rfl, h1, rv⟩ := (r1.up g2.sg).tup_inv
    obtain ⟨b, ws, rfl, h2, rw'⟩ := r2.tup_inv
    exact ⟨a, b, vs, ws, rfl, .inr ⟨sqT_of F2.sg h1, sqT_of F2.sg h2, q G2 H2 _ F2 (g1.trans g2) (walkD_zipT h1 h2 rv rw')⟩⟩
end

/-! Px5b: zip of three lists or tuples, enumerate of a tuple. -/
open PySem PySem.Spec PyProof.Rows

/-- a list, or a tuple -/
def SqA (K : PySem.W.Frag) (t : Bool) (H : Hp) (a : Addr) (xs : List V) : Prop := match t with
  | true => SqT K H a xs
  | false => SqL K H a xs
def ItA (t : Bool) (h : Heap) (it a : Addr) (i : Nat) : Prop := match t with
  | true => h.IsTupleIter it a i
  | false => h.IsListIter it a i
def IsA (t : Bool) (h : Heap) (a : Addr) (items : Array Value) : Prop := match t with
  | true => h.IsTuple a items
  | false => h.IsList a items
theorem draws_a {prog : Program} {w : World} {A : Around} (hh : A.handled = none) (t : Bool) (it a : Addr) (hne : a ≠ it) (items : Array Value) :
    Draws prog w A it [it, a] items.size (fun i v => items[i]? = some v) (fun i h => ItA t h it a i ∧ IsA t h a items) := by
  cases t
  · exact Draws.list hh it a hne items
  · exact Draws.tuple hh it a hne items
theorem ItA.at {t : Bool} {h h' : Heap} {it a : Addr} {i : Nat} (s : ItA t h it a i) (k : ∀ o, h.get? it = some o → h'.get? it = some o) : ItA t h' it a i := by
  cases t
  · exact Heap.IsListIter.at s k
  · exact Heap.IsTupleIter.at s k
theorem ItA.obj {t : Bool} {h : Heap} {it a : Addr} {i : Nat} (s : ItA t h it a i) : ∃ o, h.get? it = some o ∧ ∀ v, o.data ≠ .cell v := by
  cases t <;> obtain ⟨o, e, _, d⟩ := s <;> exact ⟨o, e, fun v z => by rw [d] at z; cases z⟩
def oA (t : Bool) (a : Addr) : Obj := match t with
  | true => { cls := .type "tuple_iterator", data := .fields #[.ref a, .int 0 0] }
  | false => { cls := .type "list_iterator", data := .fields #[.ref a, .int 0 0] }
theorem begins_a (t : Bool) (a : Addr) (items : Array Value) : Begins (.ref a) (oA t a) fun h => IsA t h a items := by
  cases t
  · exact begins_list a items
  · exact begins_tuple a items
theorem ItA.zero {t : Bool} {h : Heap} {it a : Addr} (e : h.get? it = some (oA t a)) : ItA t h it a 0 := by
  cases t
  · exact ⟨_, e, rfl, rfl⟩
  · exact ⟨_, e, rfl, rfl⟩
section
variable {X : Cx} {pins : List (Addr × Obj)} {σ : St} {H : Hp} {s : Shared}
theorem _root_.L2.Inv.seqA (I : Inv X pins σ H s) {t : Bool} {a : Addr} {xs : List V} (h : SqA X.K t H a xs) : ∃ its, Vals xs its ∧ IsA t s.heap a its.toArray := by
  cases t
  · obtain ⟨its, rv, p, _⟩ := I.list h
    exact ⟨its, rv, p.isList⟩
  · obtain ⟨its, rv, p, _⟩ := I.tuple h
    exact ⟨its, rv, p⟩
theorem _root_.L2.Inv.seqA_inj (I : Inv X pins σ H s) {t : Bool} {a : Addr} {xs ys : List V} (h : SqA X.K t H a xs) (h2 : SqA X.K t H a ys) : xs = ys := by
  cases t
  · exact I.list_inj h h2
  · exact I.tuple_inj h h2
end
theorem IsA.lt {t : Bool} {h : Heap} {a : Addr} {items : Array Value} (p : IsA t h a items) : a < h.objs.size := by
  cases t
  · obtain ⟨o, e, _⟩ := p
    exact Heap.lt_size e
  · obtain ⟨o, e, _⟩ := p
    exact Heap.lt_size e

/-- the sequences at a, b, c as they stand at each turn, the items in new triples -/
def Itz3 (K : PySem.W.Frag) (t1 t2 t3 : Bool) (a b c : Addr) : It :=
  ⟨fun i H => ∃ (xs ys zs : List V) (x y z : V), SqA K t1 H a xs ∧ SqA K t2 H b ys ∧ SqA K t3 H c zs ∧ xs[i]? = some x ∧ ys[i]? = some y ∧ zs[i]? = some z,
    fun i H v H' => ∃ T x y z, v = .ref T ∧ H T = none ∧ H' = upd H T (.tup [x, y, z]) ∧ (∀ xs, SqA K t1 H a xs → xs[i]? = some x) ∧ (∀ ys, SqA K t2 H b ys → ys[i]? = some y) ∧ ∀ zs, SqA K t3 H c zs → zs[i]? = some z,
    fun i H => ∃ xs ys zs : List V, SqA K t1 H a xs ∧ SqA K t2 H b ys ∧ SqA K t3 H c zs ∧ min (min xs.length ys.length) zs.length = i⟩
theorem turn_zip3 {P : Program} {w : World} {K : PySem.W.Frag} {elts : List Expr} {kk : Nat} {tpos : Pos} {t1 t2 t3 : Bool} {a b c z TI TO i1 i2 i3 : Addr} (S : ZipSep3 z TI TO i1 i2 i3 [i1, a] [i2, b] [i3, c]) (n1 : a ≠ i1) (n2 : b ≠ i2) (n3 : c ≠ i3) :
    Turn P w K (.Tuple elts kk tpos) (Itz3 K t1 t2 t3 a b c) [z, TI, TO, i1, i2, i3] z (fun i h => IsZip h z TI TO .none ∧ IsTupOf3 h TI (.ref i1) (.ref i2) (.ref i3) ∧ (∃ x y u, IsTupOf3 h TO x y u) ∧ ItA t1 h i1 a i ∧ ItA t2 h i2 b i ∧ ItA t3 h i3 c i) where
  mem := by simp
  obj := fun i h st q hq => by
    obtain ⟨hz, hTI, ⟨x, y, u, hTO⟩, j1, j2, j3⟩ := st
    have e' : q = z ∨ q = TI ∨ q = TO ∨ q = i1 ∨ q = i2 ∨ q = i3 := by simpa using hq
    rcases e' with e | e | e | e | e | e
    · rw [e]; exact ⟨_, hz, fun v q => nomatch q⟩
    · rw [e]; exact ⟨_, hTI, fun v q => nomatch q⟩
    · rw [e]; exact ⟨_, hTO, fun v q => nomatch q⟩
    · rw [e]; exact j1.obj
    · rw [e]; exact j2.obj
    · rw [e]; exact j3.obj
  keep := fun i h h' st k => by
    obtain ⟨hz, hTI, ⟨x, y, u, hTO⟩, j1, j2, j3⟩ := st
    exact ⟨k z (by simp) _ hz, k TI (by simp) _ hTI, ⟨x, y, u, k TO (by simp) _ hTO⟩, j1.at fun o q => k i1 (by simp) o q, j2.at fun o q => k i2 (by simp) o q, j3.at fun o q => k i3 (by simp) o q⟩
  item := by
    intro X hP hw hK hc i pins s σ H E I hf st hg
    subst hP hw hK
    obtain ⟨hz, hTI, hTO, j1, j2, j3⟩ := id st
    obtain ⟨xs, ys, zs, x, y, u, q1, q2, q3, e1, e2, e3⟩ := hg
    obtain ⟨its1, r1, p1⟩ := I.seqA q1
    obtain ⟨its2, r2, p2⟩ := I.seqA q2
    obtain ⟨its3, r3, p3⟩ := I.seqA q3
    obtain ⟨u1, hu1, ru1⟩ := r1.get e1
    obtain ⟨u2, hu2, ru2⟩ := r2.get e2
    obtain ⟨u3, hu3, ru3⟩ := r3.get e3
    have hh : X.A.in1.handled = none := I.ok.hd hc
    have W := WalksT.zipD3 (prog := X.prog) (w := X.w) (A := X.A) S (draws_a hh t1 i1 a n1 its1.toArray) (draws_a hh t2 i2 b n2 its2.toArray) (draws_a hh t3 i3 c n3 its3.toArray)
    have l1 := (List.getElem?_eq_some_iff.mp hu1).1
    have l2 := (List.getElem?_eq_some_iff.mp hu2).1
    have l3 := (List.getElem?_eq_some_iff.mp hu3).1
    refine W.item i s _ _ (by simp only [List.size_toArray]; omega) ⟨hz, hTI, hTO, ⟨j1, p1⟩, ⟨j2, p2⟩, ⟨j3, p3⟩⟩ fun T vals h' tk hv hle hT hmid hk => ?_
    obtain ⟨w1, w2, w3, f1, f2, f3, rfl⟩ := hv
    have g1 : u1 = w1 := by
      have : its1[i]? = some w1 := by simpa using f1
      rw [hu1] at this; exact Option.some.inj this
    have g2 : u2 = w2 := by
      have : its2[i]? = some w2 := by simpa using f2
      rw [hu2] at this; exact Option.some.inj this
    have g3 : u3 = w3 := by
      have : its3[i]? = some w3 := by simpa using f3
      rw [hu3] at this; exact Option.some.inj this
    subst g1 g2 g3
    have hap := W.apart _ _ _ hmid
    refine ⟨_, rfl, W.go elts kk tpos i T { s with heap := h', toks := tk } _ _ hmid fun h'' st' hk2 => ?_⟩
    have hT2 : h''.IsTuple T #[u1, u2, u3] := hT.at fun o e => hk2 T o hap e
    have new : ObjOk X.prog X.w (upd H T (.tup [x, y, u])) h'' T (.tup [x, y, u]) :=
      ⟨by show 3 ≤ sizeLine; decide, [u1, u2, u3], .cons ru1 (.cons ru2 (.cons ru3 .nil)), hT2⟩
    have hsub : ∀ q, q ∈ [z, TO, i1, i2, i3] → q ∈ [z, TI, TO, i1, i2, i3] := fun q hq => by
      simp only [List.mem_cons, List.not_mem_nil, or_false] at hq ⊢
      rcases hq with e | e | e | e | e <;> simp [e]
    have I1 : Inv X pins σ (upd H T (.tup [x, y, u])) { s with heap := h'', toks := tk } :=
      I.turnedNew (ch := [z, TO, i1, i2, i3]) (fun q o hb e => hk2 q o hb (hk q o hb e)) (fun q hq => hf q (hsub q hq)) hle new
    obtain ⟨hz', hTI', hTO', ⟨j1', _⟩, ⟨j2', _⟩, ⟨j3', _⟩⟩ := st'
    refine ⟨.ref T, _, I1, rfl, ⟨T, x, y, u, rfl, I.hok.fresh hle, rfl, fun l hl => by rw [I.seqA_inj hl q1]; exact e1, fun l hl => by rw [I.seqA_inj hl q2]; exact e2, fun l hl => by rw [I.seqA_inj hl q3]; exact e3⟩, ⟨hz', hTI', hTO', j1', j2', j3'⟩, fun q hq => ?_⟩
    have hlt : q < s.heap.objs.size := by
      obtain ⟨x0, y0, u0, hTO⟩ := hTO
      have e' : q = z ∨ q = TI ∨ q = TO ∨ q = i1 ∨ q = i2 ∨ q = i3 := by simpa using hq
      rcases e' with e | e | e | e | e | e
      · rw [e]; exact Heap.lt_size hz
      · rw [e]; exact Heap.lt_size hTI
      · rw [e]; exact Heap.lt_size hTO
      · rw [e]; obtain ⟨_, e1, _⟩ := j1.obj; exact Heap.lt_size e1
      · rw [e]; obtain ⟨_, e1, _⟩ := j2.obj; exact Heap.lt_size e1
      · rw [e]; obtain ⟨_, e1, _⟩ := j3.obj; exact Heap.lt_size e1
    rw [upd_ne (Nat.ne_of_lt (Nat.lt_of_lt_of_le hlt hle))]
    exact (hf q hq).1
  done := by
    intro X hP hw hK hc i pins s σ H E I hf st hg
    subst hP hw hK
    obtain ⟨hz, hTI, hTO, j1, j2, j3⟩ := id st
    obtain ⟨xs, ys, zs, q1, q2, q3, hend⟩ := hg
    obtain ⟨its1, r1, p1⟩ := I.seqA q1
    obtain ⟨its2, r2, p2⟩ := I.seqA q2
    obtain ⟨its3, r3, p3⟩ := I.seqA q3
    have hh : X.A.in1.handled = none := I.ok.hd hc
    have W := WalksT.zipD3 (prog := X.prog) (w := X.w) (A := X.A) S (draws_a hh t1 i1 a n1 its1.toArray) (draws_a hh t2 i2 b n2 its2.toArray) (draws_a hh t3 i3 c n3 its3.toArray)
    have hi : i = min (min its1.toArray.size its2.toArray.size) its3.toArray.size := by
      simp only [List.size_toArray, ← r1.length, ← r2.length, ← r3.length]
      exact hend.symm
    subst hi
    have hsub : ∀ q, q ∈ [z, TO, i1, i2, i3] → q ∈ [z, TI, TO, i1, i2, i3] := fun q hq => by
      simp only [List.mem_cons, List.not_mem_nil, or_false] at hq ⊢
      rcases hq with e | e | e | e | e <;> simp [e]
    exact W.done s _ _ ⟨hz, hTI, hTO, ⟨j1, p1⟩, ⟨j2, p2⟩, ⟨j3, p3⟩⟩ fun h' tk hk => ⟨rfl, I.turnedL (ch := [z, TO, i1, i2, i3]) hk fun q hq => hf q (hsub q hq)⟩
  self := fun A i s Q E st h => wpAny_pyIter_zip st.1 h

def iZip3 (K : PySem.W.Frag) (ta : TA) : TI := fun σ H R => ta σ H fun vs H1 => ∃ t1 t2 t3 a b c xs ys zs, vs = [.ref a, .ref b, .ref c] ∧ SqA K t1 H1 a xs ∧ SqA K t2 H1 b ys ∧ SqA K t3 H1 c zs ∧ R (Itz3 K t1 t2 t3 a b c) H1
theorem pi_zip3 {X : Cx} {e1 e2 e3 : Expr} {ta : TA} {p pos tpos : Pos} {elts : List Expr} {kk : Nat} (hg : Gl X "zip") (hm : X.mg "zip" = none) (ha : PA X [e1, e2, e3] ta)
    (hs : starEach [e1, e2, e3] X.env = (false, eval e1 X.env) :: starEach [e2, e3] X.env := by rfl) (hpl : (backTo pos (starEach [e2, e3] X.env)).any (·.1) = false := by rfl) :
    PI X (.Tuple elts kk tpos) (.Call (.Name "zip" p) [e1, e2, e3] [] pos) (iZip3 X.K ta) := by
  refine ⟨fun pins s σ H R I h => ?_⟩
  refine Call_ (ld_blt I hg hm PyProof.Rows.boot_zip (PyProof.Rows.callWith_type1 (thn (ha.run pos pins s σ H _ I h) fun us s1 ⟨vs, H1, I1, r1, q1⟩ => ?_) hs hpl))
  obtain ⟨t1, t2, t3, a, b, c, xs, ys, zs, ex, h1, h2, h3, q⟩ := q1
  subst ex
  cases r1 with
  | cons r rr =>
    cases rr with
    | cons r' rr =>
      cases rr with
      | cons r'' rr =>
        cases rr
        cases r
        cases r'
        cases r''
        obtain ⟨its1, rv1, p1⟩ := I1.seqA h1
        obtain ⟨its2, rv2, p2⟩ := I1.seqA h2
        obtain ⟨its3, rv3, p3⟩ := I1.seqA h3
        have la := p1.lt
        have lb := p2.lt
        have lc := p3.lt
        refine zip_begins3 (begins_a t1 a its1.toArray) (begins_a t2 b its2.toArray) (begins_a t3 c its3.toArray) p1 p2 p3 fun h' hz hTI hTO g1 g2 g3 hsz hk => wpAny_pyIter_zip hz ?_
        have I2 : Inv X pins σ H1 { s1 with heap := h' } := I1.kept (t' := s1.toks) hk
        have S := zip_sep3 (N := s1.heap.objs.size) (fp1 := [a]) (fp2 := [b]) (fp3 := [c]) (fun q hq => by rw [List.mem_singleton.mp hq]; exact la) (fun q hq => by rw [List.mem_singleton.mp hq]; exact lb) (fun q hq => by rw [List.mem_singleton.mp hq]; exact lc)
        refine ⟨s1.heap.objs.size + 5, [s1.heap.objs.size + 5, s1.heap.objs.size + 3, s1.heap.objs.size + 4, s1.heap.objs.size, s1.heap.objs.size + 1, s1.heap.objs.size + 2], _, _, H1, rfl, I2, turn_zip3 (t1 := t1) (t2 := t2) (t3 := t3) S (Nat.ne_of_lt la) (Nat.ne_of_lt (Nat.lt_of_lt_of_le lb (Nat.le_add_right _ _))) (Nat.ne_of_lt (Nat.lt_of_lt_of_le lc (Nat.le_add_right _ _))), ⟨hz, hTI, ⟨_, _, _, hTO⟩, .zero g1, .zero g2, .zero g3⟩, fun q hq => ?_, q⟩
        have hle : s1.heap.objs.size ≤ q := by
          simp only [List.mem_cons, List.not_mem_nil, or_false] at hq
          rcases hq with e | e | e | e | e | e <;> rw [e] <;> first | exact Nat.le_refl _ | exact Nat.le_add_right _ _
        exact I1.fpOk hle (I1.hok.fresh hle)

/-! ### enumerate of a tuple -/
def IteT (K : PySem.W.Frag) (a : Addr) : It :=
  ⟨fun i H => ∃ (xs : List V) (x : V), SqT K H a xs ∧ xs[i]? = some x, fun i H v H' => ∃ T x, v = .ref T ∧ H T = none ∧ H' = upd H T (.tup [.int (i : Nat), x]) ∧ ∀ xs, SqT K H a xs → xs[i]? = some x, fun i H => ∃ xs : List V, SqT K H a xs ∧ xs.length = i⟩
theorem turn_enumT {P : Program} {w : World} {K : PySem.W.Frag} {elts : List Expr} {kk : Nat} {tpos : Pos} {a e it : Addr} (hei : e ≠ it) (hea : e ≠ a) (hai : a ≠ it) :
    Turn P w K (.Tuple elts kk tpos) (IteT K a) [e, it] e (fun i h => (∃ old, IsEnum h e it ((0 : Int) + (i : Int)) old) ∧ h.IsTupleIter it a i) where
  mem := by simp
  obj := fun i h st b hb => by
    obtain ⟨⟨old, he⟩, ⟨o, ho, hc, hd⟩⟩ := st
    have e' : b = e ∨ b = it := by simpa using hb
    rcases e' with z | z
    · rw [z]; exact ⟨_, he, fun v q => nomatch q⟩
    · rw [z]; exact ⟨o, ho, fun v q => by rw [hd] at q; cases q⟩
  keep := fun i h h' st k => let ⟨⟨old, he⟩, hi⟩ := st; ⟨⟨old, k e (by simp) _ he⟩, hi.at fun o q => k it (by simp) o q⟩
  item := by
    intro X hP hw hK hc i pins s σ H E I hf st hg
    subst hP hw hK
    obtain ⟨he, hit⟩ := id st
    obtain ⟨xs, x, hq, hx⟩ := hg
    obtain ⟨its, rv, p, hz⟩ := I.tuple hq
    obtain ⟨u, hu, ru⟩ := rv.get hx
    have hh : X.A.in1.handled = none := I.ok.hd hc
    have W := WalksT.enumFrom (prog := X.prog) (w := X.w) (A := X.A) 0 (Draws.tuple hh it a hai its.toArray) e hei (by simp [hei, hea]) (by simp)
    have l1 := (List.getElem?_eq_some_iff.mp hu).1
    refine W.item i s _ _ (by simpa using l1) ⟨he, hit, p⟩ fun T vals h' tk hv hle hT hmid hk => ?_
    obtain ⟨t, w1, f1, rfl⟩ := hv
    have g1 : u = w1 := by
      have : its[i]? = some w1 := by simpa using f1
      rw [hu] at this; exact Option.some.inj this
    subst g1
    have hap := W.apart _ _ _ hmid
    refine ⟨_, rfl, W.go elts kk tpos i T { s with heap := h', toks := tk } _ _ hmid fun h'' st' hk2 => ?_⟩
    have hT2 : h''.IsTuple T #[.int ((0 : Int) + (i : Int)) t, u] := hT.at fun o e => hk2 T o hap e
    have new : ObjOk X.prog X.w (upd H T (.tup [.int (i : Nat), x])) h'' T (.tup [.int (i : Nat), x]) :=
      ⟨by show 2 ≤ sizeLine; decide, [.int ((0 : Int) + (i : Int)) t, u], .cons ⟨t, by rw [Int.zero_add]⟩ (.cons ru .nil), hT2⟩
    have I1 : Inv X pins σ (upd H T (.tup [.int (i : Nat), x])) { s with heap := h'', toks := tk } :=
      I.turnedNew (ch := [e, it]) (fun q o hb e => hk2 q o hb (hk q o hb e)) hf hle new
    obtain ⟨he', hit', _⟩ := st'
    refine ⟨.ref T, _, I1, rfl, ⟨T, x, rfl, I.hok.fresh hle, rfl, fun l hl => by rw [I.tuple_inj hl hq]; exact hx⟩, ⟨he', hit'⟩, fun q hq => ?_⟩
    have hlt : q < s.heap.objs.size := by
      obtain ⟨old, he⟩ := he
      have e' : q = e ∨ q = it := by simpa using hq
      rcases e' with z | z
      · rw [z]; exact Heap.lt_size he
      · rw [z]; obtain ⟨_, q, _⟩ := hit; exact Heap.lt_size q
    rw [upd_ne (Nat.ne_of_lt (Nat.lt_of_lt_of_le hlt hle))]
    exact (hf q hq).1
  done := by
    intro X hP hw hK hc i pins s σ H E I hf st hg
    subst hP hw hK
    obtain ⟨he, hit⟩ := id st
    obtain ⟨xs, hq, hx⟩ := hg
    obtain ⟨its, rv, p, hz⟩ := I.tuple hq
    have hh : X.A.in1.handled = none := I.ok.hd hc
    have W := WalksT.enumFrom (prog := X.prog) (w := X.w) (A := X.A) 0 (Draws.tuple hh it a hai its.toArray) e hei (by simp [hei, hea]) (by simp)
    have hi : i = its.toArray.size := by
      simp only [List.size_toArray, ← rv.length]
      exact hx.symm
    subst hi
    exact W.done s _ _ ⟨he, hit, p⟩ fun h' tk hk => ⟨rfl, I.turnedL (ch := [e, it]) hk hf⟩
  self := fun A i s Q E st h => let ⟨⟨_, he⟩, _⟩ := st; wpAny_pyIter_enum he h
theorem meets_enum_newT {v : Value} {o : Obj} {H : Heap → Prop} (B : Begins v o H) :
    Meets (Builtin.«enumerate.__new__» ⟨[.type "enumerate", v], []⟩) (fun _ R s => H s.heap ∧
      R (.ok (.ret (.ref (s.heap.push o).objs.size))) { s with heap := (s.heap.push o).push { cls := .type "enumerate", data := .fields #[.none, .bool false, .ref s.heap.objs.size, rawInt 0, .none, .none] } }) :=
  .of_wp fun prog w A R s h => by
    obtain ⟨hp, g, d, tk, os⟩ := s; obtain ⟨h1, h⟩ := h
    have hsub := sub_enumerate
    have q1 : ∀ {A' : Around} {E : Value → Shared → Prop} {Q : Value → Shared → Prop}, Q (.ref hp.objs.size) ⟨hp.push o, g, d, tk, os⟩ → wpAny (model prog w) A' (pyIter v) Q E ⟨hp, g, d, tk, os⟩ :=
      fun q => B.iter prog w _ _ ⟨hp, g, d, tk, os⟩ _ h1 q
    wp_walk using q1
    refine wpAny_stack_any fun st => wpAny_pure ?_
    split
    · rename_i c _ _ _ _ _
      cases (c == Value.type "enumerate")
      · wp_walk using q1
        exact ⟨_, rfl, h⟩
      · wp_walk using q1
        exact ⟨_, rfl, h⟩
    · wp_walk using q1
      exact ⟨_, rfl, h⟩
theorem call_enum_1 {prog : Program} {w : World} {A : Around} {E : Value → Shared → Prop} {s : Shared} {v : Value} {o : Obj} {H : Heap → Prop} {Q : Value → Shared → Prop} (B : Begins v o H) (h1 : H s.heap)
    (h : ∀ h', IsEnum h' (s.heap.objs.size + 1) s.heap.objs.size 0 .none → h'.get? s.heap.objs.size = some o → h'.objs.size = s.heap.objs.size + 2 →
      (∀ b o, s.heap.get? b = some o → h'.get? b = some o) → Q (.ref (s.heap.objs.size + 1)) { s with heap := h' }) :
    wpAny (model prog w) A (call (.type "enumerate") [v]) Q E s := by
  refine callType_new F.called_enumerate (by decide) (F.typeCall_enumerate_1 _) (F.newCall_enumerate_1 _) (fun obj => F.args_object_init_2 obj _) F.entry_enumerate_new
    (meets_enum_newT B) ⟨h1, ?_⟩
  have hz : (s.heap.push o).objs.size = s.heap.objs.size + 1 := Heap.size_push ..
  show _ ∧ _
  rw [hz]
  have he : IsEnum ((s.heap.push o).push { cls := .type "enumerate", data := .fields #[.none, .bool false, .ref s.heap.objs.size, rawInt 0, .none, .none] }) (s.heap.objs.size + 1) s.heap.objs.size 0 .none := by
    have := Heap.get?_push_size (s.heap.push o) (o := { cls := .type "enumerate", data := .fields #[.none, .bool false, .ref s.heap.objs.size, rawInt 0, .none, .none] }) rfl
    rw [hz] at this; exact this
  refine ⟨⟨_, he, rfl⟩, h _ he (Heap.get?_push_of_some _ (Heap.get?_push_size _ B.free)) (by rw [Heap.size_push, hz]) fun b o x => Heap.get?_push_of_some _ (Heap.get?_push_of_some _ x)⟩
def iEnumA (K : PySem.W.Frag) (ta : TA) : TI := fun σ H R => ta σ H fun vs H1 => ∃ a xs, vs = [.ref a] ∧ ((SqL K H1 a xs ∧ R (Ite K a) H1) ∨ (SqT K H1 a xs ∧ R (IteT K a) H1))
theorem pi_enumA {X : Cx} {e : Expr} {ta : TA} {p pos tpos : Pos} {elts : List Expr} {kk : Nat} (hg : Gl X "enumerate") (hm : X.mg "enumerate" = none) (ha : PA X [e] ta) (hs : starEach [e] X.env = [(false, eval e X.env)] := by rfl) :
    PI X (.Tuple elts kk tpos) (.Call (.Name "enumerate" p) [e] [] pos) (iEnumA X.K ta) := by
  refine ⟨fun pins s σ H R I h => ?_⟩
  refine Call_ (ld_blt I hg hm boot_enumerate (PyProof.Rows.callWith_type1 (thn (ha.run pos pins s σ H _ I h) fun us s1 ⟨vs, H1, I1, r1, q1⟩ => ?_) hs rfl))
  obtain ⟨a, xs, ex, q1⟩ := q1
  subst ex
  cases r1 with
  | cons r rr =>
    cases rr
    cases r
    have fresh : ∀ b, b ∈ [s1.heap.objs.size + 1, s1.heap.objs.size] → FpOk X pins H1 b := fun b hb => by
      have e' : b = s1.heap.objs.size + 1 ∨ b = s1.heap.objs.size := by simpa using hb
      have hle : s1.heap.objs.size ≤ b := by
        rcases e' with z | z
        · rw [z]; exact Nat.le_add_right _ _
        · rw [z]; exact Nat.le_refl _
      exact I1.fpOk hle (I1.hok.fresh hle)
    rcases q1 with ⟨hq, q⟩ | ⟨hq, q⟩
    · obtain ⟨its, rv, p', hz⟩ := I1.list hq
      refine call_enumerate_list p'.isList fun h' he hit hsz hk => wpAny_pyIter_enum he ?_
      exact ⟨s1.heap.objs.size + 1, [s1.heap.objs.size + 1, s1.heap.objs.size], _, _, H1, rfl, I1.kept (t' := s1.toks) hk, turn_enum a (s1.heap.objs.size + 1) s1.heap.objs.size, ⟨⟨.none, he⟩, hit, Nat.succ_ne_self _⟩, fresh, q⟩
    · obtain ⟨its, rv, p', hz⟩ := I1.tuple hq
      have la : a < s1.heap.objs.size := by obtain ⟨o, e, _⟩ := id p'; exact Heap.lt_size e
      refine call_enum_1 (begins_tuple a its.toArray) p' fun h' he hit hsz hk => wpAny_pyIter_enum he ?_
      exact ⟨s1.heap.objs.size + 1, [s1.heap.objs.size + 1, s1.heap.objs.size], _, _, H1, rfl, I1.kept (t' := s1.toks) hk, turn_enumT (Nat.succ_ne_self _) (Nat.ne_of_gt (Nat.lt_of_lt_of_le la (Nat.le_add_right _ _))) (Nat.ne_of_lt la), ⟨⟨.none, he⟩, ⟨_, hit, rfl, rfl⟩⟩, fresh, q⟩

/-! ### what they walk, as data -/
section
variable {X : Cx} {K : PySem.W.Frag} {e : Ent} {G : Hp}
theorem SqA.of {t : Bool} {H : Hp} {a : Addr} {vs : List V} (s : Same G H) (h : SqA K t G a vs) (hl : t = false → G a = some (.lst vs)) : SqA K t H a vs := by
  cases t
  · exact sqL_of s (hl rfl)
  · exact sqT_of s h
theorem seqD_ra {x : V} {d : D} {ds : List D} (es : seqD d = some ds) (r : R K G x d) : ∃ (t : Bool) (a : Addr) (vs : List V), x = .ref a ∧ (∀ H, Same G H → SqA K t H a vs) ∧ RA K G vs ds := by
  rcases seqD_some es with rfl | rfl
  · obtain ⟨a, vs, rfl, ha, rv⟩ := r.lst_inv
    exact ⟨false, a, vs, rfl, fun H s => sqL_of s ha, rv⟩
  · obtain ⟨a, vs, rfl, ha, rv⟩ := r.tup_inv
    exact ⟨true, a, vs, rfl, fun H s => sqT_of s ha, rv⟩
theorem zip3D_len : ∀ xs ys zs : List D, (zip3D xs ys zs).length = min (min xs.length ys.length) zs.length
  | [], _, _ => by simp [zip3D]
  | _ :: _, [], _ => by simp [zip3D]
  | _ :: _, _ :: _, [] => by simp [zip3D]
  | x :: xs, y :: ys, z :: zs => by
    have := zip3D_len xs ys zs
    simp only [zip3D, List.length_cons]
    omega
theorem zip3D_get : ∀ (xs ys zs : List D) (i : Nat) (a b c : D), xs[i]? = some a → ys[i]? = some b → zs[i]? = some c → (zip3D xs ys zs)[i]? = some (.tuple [a, b, c])
  | [], _, _, _, _, _, _, h, _, _ => by simp at h
  | _ :: _, [], _, _, _, _, _, _, h, _ => by simp at h
  | _ :: _, _ :: _, [], _, _, _, _, _, _, h => by simp at h
  | x :: xs, y :: ys, z :: zs, 0, a, b, c, h1, h2, h3 => by
    simp at h1 h2 h3
    subst h1 h2 h3
    rfl
  | x :: xs, y :: ys, z :: zs, i + 1, a, b, c, h1, h2, h3 => zip3D_get xs ys zs i a b c (by simpa using h1) (by simpa using h2) (by simpa using h3)
theorem trip_new {G1 H : Hp} {T : Addr} {x y z : V} {a b c : D} (s : Same G1 H) (n : H T = none) (r1 : R K G1 x a) (r2 : R K G1 y b) (r3 : R K G1 z c) : ∃ G2, Ext G1 H G2 (upd H T (.tup [x, y, z])) ∧ R K G2 (.ref T) (.tuple [a, b, c]) := by
  have s2 := same_new (o := HO.tup [x, y, z]) (none_of_same s n)
  exact ⟨upd G1 T (.tup [x, y, z]), Ext.new s n, .tup (.inl (.inl upd_same)) (.cons (r1.up s2) (.cons (r2.up s2) (.cons (r3.up s2) .nil)))⟩
theorem walkD_zip3 {t1 t2 t3 : Bool} {a b c : Addr} {vs ws us : List V} {xs ys zs : List D} (h1 : ∀ H, Same G H → SqA K t1 H a vs) (h2 : ∀ H, Same G H → SqA K t2 H b ws) (h3 : ∀ H, Same G H → SqA K t3 H c us) (r1 : RA K G vs xs) (r2 : RA K G ws ys) (r3 : RA K G us zs) :
    WalkD K G (Itz3 K t1 t2 t3 a b c) (zip3D xs ys zs) := by
  refine ⟨fun H => SqA K t1 H a vs ∧ SqA K t2 H b ws ∧ SqA K t3 H c us, fun i H v H' => ∃ T x y z, v = .ref T ∧ H T = none ∧ H' = upd H T (.tup [x, y, z]) ∧ vs[i]? = some x ∧ ws[i]? = some y ∧ us[i]? = some z, ?_, fun H s => ⟨h1 H s, h2 H s, h3 H s⟩, fun i H x H' hi s y => ?_⟩
  · rw [zip3D_len, ← r1.length, ← r2.length, ← r3.length]
    refine ⟨fun i _ hi q => ?_, fun _ q => ⟨vs, ws, us, q.1, q.2.1, q.2.2, rfl⟩, fun i H v H' _ q y => ?_⟩
    · have l1 : i < vs.length := by omega
      have l2 : i < ws.length := by omega
      have l3 : i < us.length := by omega
      exact ⟨vs, ws, us, vs[i], ws[i], us[i], q.1, q.2.1, q.2.2, by simp [l1], by simp [l2], by simp [l3]⟩
    · obtain ⟨T, x, y, z, e1, e2, e3, e4, e5, e6⟩ := y
      exact ⟨T, x, y, z, e1, e2, e3, e4 _ q.1, e5 _ q.2.1, e6 _ q.2.2⟩
  · obtain ⟨T, x1, x2, x3, rfl, hT, rfl, q1, q2, q3⟩ := y
    obtain ⟨d1, e1, p1⟩ := r1.get' q1
    obtain ⟨d2, e2, p2⟩ := r2.get' q2
    obtain ⟨d3, e3, p3⟩ := r3.get' q3
    exact ⟨_, zip3D_get _ _ _ _ _ _ _ e1 e2 e3, fun G1 s1 s2 => trip_new s2 hT (p1.up s1) (p2.up s1) (p3.up s1)⟩
theorem walkD_enumT {a : Addr} {vs : List V} {ds : List D} (h : SqT K G a vs) (r : RA K G vs ds) : WalkD K G (IteT K a) (enumD 0 ds) := by
  refine ⟨fun H => SqT K H a vs, YPair (fun i => some (.int (i : Nat))) (fun i => vs[i]?), ?_, fun H s => sqT_of s h, fun i H x H' hi s y => ?_⟩
  · rw [enumD_len, ← r.length]
    refine ⟨fun i _ hi q => ⟨vs, vs[i], q, by simp [hi]⟩, fun _ q => ⟨vs, q, rfl⟩, fun i H v H' _ q y => ?_⟩
    obtain ⟨T, x, e1, e2, e3, e4⟩ := y
    exact ⟨T, _, x, e1, e2, e3, rfl, e4 _ q⟩
  · obtain ⟨T, x1, x2, rfl, hT, rfl, q1, q2⟩ := y
    cases q1
    obtain ⟨d2, e2, p2⟩ := r.get' q2
    refine ⟨_, enumD_get _ _ _ _ e2, fun G1 s1 s2 => ?_⟩
    rw [Nat.zero_add]
    exact pair_new s2 hT (.int _) (p2.up s1)
variable {Φ : Phi} {Γ : Str → Option D} {N : List Str} {sc : Scope} {sn : Str → Bool} {k : Nat}
theorem i_zip3 (g : Good Φ Γ N sc sn k X) {a b c : Expr} {elts : List Expr} {kk : Nat} {p pos tpos : Pos} {f1 f2 f3 : Ev D} (hx : sc.names.lookup (Str.ofString "zip") = some .globalImplicit) (hs : notStar a = true) (hs2 : notStar b = true) (hs3 : notStar c = true)
    (ha : PE X a (dE X.K e f1)) (hb : PE X b (dE X.K e f2)) (hc : PE X c (dE X.K e f3)) : PI X (.Tuple elts kk tpos) (.Call (.Name "zip" p) [a, b, c] [] pos) (dI X.K e (vZip3 f1 f2 f3)) := by
  refine pi_imp (pi_zip3 (g.gl' hx) (g.blt _ (by decide)) (pa_cons ha (args2 hb hc hs2 hs3) (starEach_of hs)) (starEach_of hs) (noStars_any (by simp [noStars, hs2, hs3]))) fun σ H Q ⟨G, ρ, ds, ρ', F, hf, q⟩ => ?_
  obtain ⟨x, ρ1, e1, h1⟩ := eB_some hf
  obtain ⟨y, ρ2, e2, h2⟩ := eB_some h1
  obtain ⟨z, ρ3, e3, h3⟩ := eB_some h2
  revert h3
  cases ex : seqD x with
  | none => intro h3; cases h3
  | some xs =>
    cases ey : seqD y with
    | none => intro h3; cases h3
    | some ys =>
      cases ez : seqD z with
      | none => intro h3; cases h3
      | some zs =>
        intro h3
        cases h3
        refine ⟨G, ρ, _, ρ1, F, e1, fun G1 H1 v F1 g1 r1 => ⟨G1, ρ1, _, ρ2, F1, e2, fun G2 H2 w F2 g2 r2 => ⟨G2, ρ2, _, ρ', F2, e3, fun G3 H3 u F3 g3 r3 => ?_⟩⟩⟩
        obtain ⟨t1, a1, vs, rfl, s1, rv1⟩ := seqD_ra ex ((r1.up g2.sg).up g3.sg)
        obtain ⟨t2, a2, ws, rfl, s2, rv2⟩ := seqD_ra ey (r2.up g3.sg)
        obtain ⟨t3, a3, us, rfl, s3, rv3⟩ := seqD_ra ez r3
        exact ⟨t1, t2, t3, a1, a2, a3, vs, ws, us, rfl, s1 _ F3.sg, s2 _ F3.sg, s3 _ F3.sg, q G3 H3 _ F3 ((g1.trans g2).trans g3) (walkD_zip3 s1 s2 s3 rv1 rv2 rv3)⟩
theorem i_enumA (g : Good Φ Γ N sc sn k X) {a : Expr} {elts : List Expr} {kk : Nat} {p pos tpos : Pos} {f : Ev D} (hx : sc.names.lookup (Str.ofString "enumerate") = some .globalImplicit) (hs : notStar a = true) (ha : PE X a (dE X.K e f)) :
    PI X (.Tuple elts kk tpos) (.Call (.Name "enumerate" p) [a] [] pos) (dI X.K e (vEnum f)) := by
  refine pi_imp (pi_enumA (g.gl' hx) (g.blt _ (by decide)) (args1 ha hs) (starEach_of hs)) fun σ H Q ⟨G, ρ, ds, ρ', F, hf, q⟩ => ?_
  obtain ⟨x, ρ1, e1, h1⟩ := eB_some hf
  revert h1
  cases ex : seqD x with
  | none => intro h1; cases h1
  | some xs =>
    intro h1
    cases h1
    refine ⟨G, ρ, _, ρ', F, e1, fun G1 H1 v F1 g1 r1 => ?_⟩
    rcases seqD_some ex with rfl | rfl
    · obtain ⟨a, vs, rfl, h1, rv⟩ := r1.lst_inv
      exact ⟨a, vs, rfl, .inl ⟨sqL_of F1.sg h1, q G1 H1 _ F1 g1 (walkD_enum h1 rv)⟩⟩
    · obtain ⟨a, vs, rfl, h1, rv⟩ := r1.tup_inv
      exact ⟨a, vs, rfl, .inr ⟨sqT_of F1.sg h1, q G1 H1 _ F1 g1 (walkD_enumT h1 rv)⟩⟩
end

/-! Px5c: sorted(set(list of ints)). -/
open PySem PySem.Spec PyProof.Rows
section
variable {P : Program} {w : World} {A : Around} {E : Value → Shared → Prop} {s : Shared}
theorem call_set_lstI {l : Addr} {items : Array Value} (ns : List Int) {Q : Value → Shared → Prop} (hh : A.handled = none) (hl : s.heap.IsList l items) (hit : IntsAre items.toList ns) (hb : ns.length + 1 < scanBound)
    (h : ∀ (h' : Heap) (tk c : Nat), SetR w h' s.heap.objs.size (fun j => decide (j ∈ ns)) c → c ≤ ns.length → (∀ b o, s.heap.get? b = some o → h'.get? b = some o) → Q (.ref s.heap.objs.size) { s with heap := h', toks := tk }) :
    wpAny (model P w) A (call (.type "set") [.ref l]) Q E s := by
  have hisz : items.size = ns.length := by
    have q := IntsAre.length hit
    rw [Array.length_toList] at q
    exact q
  obtain ⟨c, tl, hmro⟩ := PySem.F.called_set.mro
  have hmade := PySem.F.called_set.made
  have hsub := PySem.F.called_set.sub
  refine wpAny_call (codeAny_of_tree ?_)
  show wpAny _ _ (callAny (.type "set") _) _ _ _
  refine wpAny_pure ⟨Code.quiet_builtin _ (by decide +kernel), codeAny_builtin PySem.F.entry_type_call ?_⟩
  rw [Around.under_plain (weight_type_call_type "set" [.ref l] []) rfl]
  have h1 := PySem.F.called_set.notType
  have h2 := PySem.F.called_set.canCreate
  have hct := PySem.F.typeCall_set_1 (.ref l)
  repeat (any_goals (first | assumption | wp_step))
  refine codeAny_mono (code_set_led1 (.ref l) (E := E) (Q₁ := fun obj s₁ => obj = .ref s.heap.objs.size ∧ s₁ = { s with heap := s.heap.push { cls := .type "set", dict := none, data := .set #[] 0 (.fresh 0 0 (!w.params.followText "set-order")) } }) ⟨rfl, rfl⟩) fun r s₁ hr => ?_
  cases r with
  | error e => exact hr
  | ok fl =>
    cases fl with
    | ret obj =>
      obtain ⟨rfl, rfl⟩ := hr
      have hS : (s.heap.push { cls := .type "set", dict := none, data := .set #[] 0 (.fresh 0 0 (!w.params.followText "set-order")) }).get? s.heap.objs.size = some { cls := .type "set", dict := none, data := .set #[] 0 (.fresh 0 0 (!w.params.followText "set-order")) } := Heap.get?_push_size _ rfl
      have hT : Shared.TypeIs { s with heap := s.heap.push { cls := .type "set", dict := none, data := .set #[] 0 (.fresh 0 0 (!w.params.followText "set-order")) } } (.ref s.heap.objs.size) "set" := ⟨_, hS, rfl⟩
      have hli := PySem.F.called_set.init.lookup
      have hbi := PySem.F.called_set.init.bind (.ref s.heap.objs.size)
      repeat (any_goals (first | assumption | wp_step))
      refine codeAny_mono (codeAny_call_builtin (R := wants (fun r s₂ => r = .none ∧ ∃ h' tk c, s₂ = { s with heap := h', toks := tk } ∧ SetR w h' s.heap.objs.size (fun j => decide (j ∈ ns)) c ∧ c ≤ ns.length ∧
          (∀ b o, s.heap.get? b = some o → h'.get? b = some o)) E) PySem.F.called_set.init.plain PySem.F.entry_set_init (check_set_init_1 hT ?_)) fun r₂ s₂ hr₂ => ?_
      · obtain ⟨ol, hol, hcl, nl, hdl⟩ := hl
        obtain ⟨ocls, odict, odata, oslots⟩ := ol
        simp only at hcl hdl
        subst hcl; subst hdl
        have hol' : (s.heap.push { cls := .type "set", dict := none, data := .set #[] 0 (.fresh 0 0 (!w.params.followText "set-order")) }).get? l = some { cls := .type "list", dict := odict, data := .seq items nl, slots := oslots } := Heap.get?_push_of_some _ hol
        have hsls := PySem.F.sub_list_set
        have hslf := PySem.F.sub_list_frozenset
        have hne : (Value.type "list" == Value.type "dict") = false := by decide
        have hl1 : (s.heap.push { cls := .type "set", dict := none, data := .set #[] 0 (.fresh 0 0 (!w.params.followText "set-order")) }).IsList l items := ⟨_, hol', rfl, nl, rfl⟩
        unfold Builtin.«set.__init__» noKeywords Builtin.Frozenset.updateFrom
        generalize hPI : pyIter = PI
        wp_walk
        subst hPI
        refine wpAny_pyIter_list hl1 ?_
        refine wpAny_bind (wpAny_runValue ?_)
        have hlS : l < s.heap.objs.size := Heap.lt_size hol
        have hh3 : A.in1.in1.in1.handled = none := by simp [hh]
        have hz1 : (s.heap.push { cls := .type "set", dict := none, data := .set #[] 0 (.fresh 0 0 (!w.params.followText "set-order")) }).objs.size = s.heap.objs.size + 1 := Heap.size_push ..
        have hneI : l ≠ (s.heap.push { cls := .type "set", dict := none, data := .set #[] 0 (.fresh 0 0 (!w.params.followText "set-order")) }).objs.size := by
          rw [Heap.size_push]; exact Nat.ne_of_lt (Nat.lt_succ_of_lt hlS)
        have hSf : s.heap.objs.size ∉ [(s.heap.push { cls := .type "set", dict := none, data := .set #[] 0 (.fresh 0 0 (!w.params.followText "set-order")) }).objs.size, l] := by
          rw [Heap.size_push]; simp only [List.mem_cons, List.mem_singleton, List.not_mem_nil, or_false, not_or]
          exact ⟨Nat.ne_of_lt (Nat.lt_succ_self _), Nat.ne_of_gt hlS⟩
        have hval : ∀ (i : Nat) (v : Value), items[i]? = some v → ∃ k t, ns[i]? = some k ∧ v = .int k t := fun i v hv => by
          have hi : i < ns.length := by rw [← hisz]; exact (Array.getElem?_eq_some_iff.mp hv).1
          obtain ⟨t, e⟩ := PyProof.Rows.IntsAre.int_at hit i v (by rw [Array.getElem?_toList]; exact hv)
          refine ⟨ns[i], t, List.getElem?_eq_getElem hi, ?_⟩
          rw [e, List.getD_eq_getElem?_getD, List.getElem?_eq_getElem hi] <;> rfl
        refine set_update_ints ((Walks.list hh3 _ l hneI items).toS) s.heap.objs.size
          hSf ns hisz hb hval (items.size - 0) 0 _ (by omega) (Nat.zero_le _)
          ⟨⟨_, Heap.get?_push_size _ rfl, rfl, rfl⟩, (hl1.push _)⟩ ?hS0 ?hR
        case hS0 =>
          have hget : ((s.heap.push { cls := .type "set", dict := none, data := .set #[] 0 (.fresh 0 0 (!w.params.followText "set-order")) }).push { cls := .type "list_iterator", data := .fields #[.ref l, .int 0 0] }).get? s.heap.objs.size
              = some { cls := .type "set", dict := none, data := .set #[] 0 (.fresh 0 0 (!w.params.followText "set-order")) } := Heap.get?_push_of_some _ hS
          exact ⟨0, Nat.le_refl 0, setR_new_at hget⟩
        case hR =>
          intro s' c' hm hc' hS'
          obtain ⟨h', g2, d', tk', os'⟩ := s'
          have eg : g2 = s.gens := hm.gens
          have ed : d' = s.drawn := hm.drawn
          have eo : os' = s.os := hm.os
          subst eg; subst ed; subst eo
          show wpAny _ _ _ _ _ _
          refine wpAny_pure ?_
          show wpAny _ _ (ret Value.none) _ _ _
          rw [hisz] at hc'
          refine wpAny_pure ⟨rfl, h', tk', c', rfl, hS', hc', fun b o e => ?_⟩
          have hb0 : b < s.heap.objs.size := Heap.lt_size e
          have hb1 : b ≠ s.heap.objs.size := Nat.ne_of_lt hb0
          have hb2 : b ≠ (s.heap.push { cls := .type "set", dict := none, data := .set #[] 0 (.fresh 0 0 (!w.params.followText "set-order")) }).objs.size := by
            rw [Heap.size_push]; exact Nat.ne_of_lt (Nat.lt_succ_of_lt hb0)
          exact hm.heap b o (by simp only [List.mem_cons, List.mem_singleton, List.not_mem_nil, or_false, not_or]; exact ⟨hb1, hb2⟩) (Heap.get?_push_of_some _ (Heap.get?_push_of_some _ e))
      · cases r₂ with
        | error e => exact hr₂
        | ok fl₂ =>
          cases fl₂ with
          | ret r =>
            obtain ⟨rfl, h', tk, c', rfl, hS', hc', hk'⟩ := hr₂
            repeat (any_goals (first | assumption | wp_step))
            exact h _ _ _ hS' hc' hk'
          | _ => exact hr₂.elim
    | _ => exact hr.elim
/-- sorted(set), any number of members -/
theorem sorted_setO {a : Addr} {S : Int → Bool} {n : Nat} {Q : Value → Shared → Prop} (R : SetR w s.heap a S n) (hh : A.handled = none)
    (hQ : ∀ s' p (out : Array Value) (c : Nat) (ns : List Int), (∀ b o, s.heap.get? b = some o → s'.heap.get? b = some o) → s'.gens = s.gens → s'.os = s.os → s.heap.objs.size ≤ p →
      s'.heap.get? p = some (PyProof.Rows.seqObj "list" out c) → IntsAre out.toList ns → ns.Pairwise (· < ·) → (∀ k, k ∈ ns ↔ S k = true) → ns.length = n → Q (.ref p) s') :
    wpAny (model P w) A (call (.builtin "sorted") [.ref a]) Q E s := by
  obtain ⟨o, es, ep, t, ho, hex, hd, g, nd, hm, hb, hf, hn, hr, hl⟩ := R
  refine Calls.call_function_entry kind_sorted plain_sorted entry_sorted (args_sorted1 _) ?_
  unfold Builtin.«sorted»
  refine wpAny_bind (m := checkCount "sorted" 1 1 _) (wpAny_pure ?_)
  refine wpAny_bind (collect_set (A := A.in1) hh ⟨o, ho, hex.1, hd⟩ hf hb hr hl fun s1 vs k1 hz g1 o1 pm => ?_)
  have hvl : vs.length = n := by rw [pm.length_eq, List.length_map, Array.length_toList]; exact hn
  have hI : IntsAre vs (vs.map Builtin.Re.reRawOf) := ints_of vs fun v hv => by
    obtain ⟨e, he, q⟩ := List.mem_map.mp (pm.mem_iff.mp hv)
    obtain ⟨k, tk, h1, _⟩ := g e he
    exact ⟨k, tk, by rw [← q]; exact h1⟩
  have pk : (vs.map Builtin.Re.reRawOf).Perm (es.toList.map keyOf) := by
    have q := pm.map Builtin.Re.reRawOf
    rw [List.map_map] at q
    exact q
  have hzv : vs.length ≤ sizeLine := by rw [hvl, ← hn]; exact fits_of_scanBound hb
  refine wpAny_bind (wpAny_newList ?_ hzv)
  have hoL : (s1.heap.push (PyProof.Rows.seqObj "list" vs.toArray 0)).get? s1.heap.objs.size = some (PyProof.Rows.seqObj "list" vs.toArray 0) := Heap.get?_push_size _ rfl
  refine wpAny_bind (wpAny_holding (wpAny_call_entry slot_list_sort ⟨_, hoL, rfl⟩ entry_list_sort (SrtO.list_sort_ord SrtO.swo_int hoL hzv (fun h2 => SrtO.ints_sortable hI h2) fun out h1 h2 => ⟨_, rfl, ?_⟩) (args_list_sort _)))
  obtain ⟨a1, a2, a3⟩ := SrtO.ints_out hI h1 h2
  obtain ⟨c, hc⟩ := PyProof.Rows.sortedHeap_at (vs := vs) (out := out.toArray) hoL
  have pn : (out.map SrtO.iv).Perm (es.toList.map keyOf) := a2.trans pk
  refine wpAny_pure ⟨_, rfl, hQ _ s1.heap.objs.size out.toArray c (out.map SrtO.iv) (fun b u e => ?_) g1 o1 hz hc a1 (lt_of_le_nodup _ a3 (pn.nodup_iff.mpr nd)) (fun k => by rw [pn.mem_iff, ← hm k]) ?_⟩
  · have q := k1 b u e
    have hlt := Heap.lt_size q
    show (PyProof.Rows.sortedHeap (s1.heap.push (PyProof.Rows.seqObj "list" vs.toArray 0)) s1.heap.objs.size vs out.toArray).get? b = some u
    rw [PyProof.Rows.sortedHeap_old (Nat.ne_of_lt hlt) (by rw [PyProof.Rows.size_push']; exact Nat.lt_succ_of_lt hlt)]
    exact Heap.get?_push_of_some _ q
  · rw [pn.length_eq, List.length_map, Array.length_toList]; exact hn
end
theorem lt_uniq : ∀ (xs ys : List Int), xs.Pairwise (· < ·) → ys.Pairwise (· < ·) → (∀ k, k ∈ xs ↔ k ∈ ys) → xs = ys
  | [], [], _, _, _ => rfl
  | [], y :: ys, _, _, h => by
    have := (h y).mpr List.mem_cons_self
    cases this
  | x :: xs, [], _, _, h => by
    have := (h x).mp List.mem_cons_self
    cases this
  | x :: xs, y :: ys, hx, hy, h => by
    obtain ⟨x1, x2⟩ := List.pairwise_cons.mp hx
    obtain ⟨y1, y2⟩ := List.pairwise_cons.mp hy
    have e : x = y := by
      rcases List.mem_cons.mp ((h x).mp List.mem_cons_self) with e | m
      · exact e
      · rcases List.mem_cons.mp ((h y).mpr List.mem_cons_self) with e | m'
        · exact e.symm
        · have := y1 x m
          have := x1 y m'
          omega
    subst e
    congr 1
    refine lt_uniq xs ys x2 y2 fun k => ⟨fun m => ?_, fun m => ?_⟩
    · rcases List.mem_cons.mp ((h k).mp (List.mem_cons_of_mem _ m)) with e | m'
      · subst e; exact absurd (x1 k m) (by omega)
      · exact m'
    · rcases List.mem_cons.mp ((h k).mpr (List.mem_cons_of_mem _ m)) with e | m'
      · subst e; exact absurd (y1 k m) (by omega)
      · exact m'
theorem insU_mem {k : Int} : ∀ (xs : List Int) (j : Int), j ∈ insU k xs ↔ j = k ∨ j ∈ xs
  | [], j => by simp [insU]
  | x :: xs, j => by
    unfold insU
    split
    · simp
    · split
      · rename_i e
        subst e
        simp
      · rw [List.mem_cons, insU_mem xs j, List.mem_cons]
        constructor
        · rintro (h | h | h)
          · exact .inr (.inl h)
          · exact .inl h
          · exact .inr (.inr h)
        · rintro (h | h | h)
          · exact .inr (.inl h)
          · exact .inl h
          · exact .inr (.inr h)
theorem insU_lt {k : Int} : ∀ (xs : List Int), xs.Pairwise (· < ·) → (insU k xs).Pairwise (· < ·)
  | [], _ => by simp [insU]
  | x :: xs, h => by
    obtain ⟨h1, h2⟩ := List.pairwise_cons.mp h
    unfold insU
    split
    · rename_i hk
      refine List.pairwise_cons.mpr ⟨fun y hy => ?_, h⟩
      rcases List.mem_cons.mp hy with e | m
      · subst e; exact hk
      · have := h1 y m; omega
    · split
      · exact h
      · refine List.pairwise_cons.mpr ⟨fun y hy => ?_, insU_lt xs h2⟩
        rcases (insU_mem xs y).mp hy with e | m
        · omega
        · exact h1 y m
theorem sortU_mem : ∀ (ks : List Int) (j : Int), j ∈ sortU ks ↔ j ∈ ks
  | [], j => by simp [sortU]
  | k :: ks, j => by
    unfold sortU
    rw [insU_mem, sortU_mem ks, List.mem_cons]
theorem sortU_lt : ∀ (ks : List Int), (sortU ks).Pairwise (· < ·)
  | [] => .nil
  | k :: ks => insU_lt _ (sortU_lt ks)
theorem insU_len {k : Int} : ∀ (xs : List Int), (insU k xs).length ≤ xs.length + 1
  | [] => by simp [insU]
  | x :: xs => by
    unfold insU
    split
    · simp
    · split
      · simp
      · have := insU_len (k := k) xs
        simp only [List.length_cons]
        omega
theorem sortU_len : ∀ (ks : List Int), (sortU ks).length ≤ ks.length
  | [] => Nat.le_refl _
  | k :: ks => by
    have := sortU_len ks
    have := insU_len (k := k) (sortU ks)
    unfold sortU
    simp only [List.length_cons]
    omega
theorem sset_fin {X : Cx} {pins : List (Addr × Obj)} {σ : St} {H1 : Hp} {s2 : Shared} {a : Addr} {ns : List Int} {c : Nat} {Q : VK} (hc : X.calm = true) (I2 : Inv X pins σ H1 s2) (R : SetR X.w s2.heap a (fun j => decide (j ∈ ns)) c) (hl : ns.length ≤ 4000)
    (q1 : ∀ p, H1 p = none → Q (.ref p) (upd H1 p (.lst ((sortU ns).map V.int)))) : wpAny (model X.prog X.w) X.A (call (.builtin "sorted") [.ref a]) (EP X pins σ Q) X.xe s2 := by
  refine sorted_setO R (I2.ok.hd hc) fun s' p out c ns' k g o hp hg hi hs hm hl2 => ?_
  have en : ns' = sortU ns := lt_uniq _ _ hs (sortU_lt ns) fun k => by rw [hm k, sortU_mem]; simp
  subst en
  have hlen : ((sortU ns).map V.int).length ≤ sizeLine := by
    have := sortU_len ns
    rw [List.length_map, sizeLine_eq]; omega
  have hn : H1 p = none := I2.hok.fresh hp
  have J : Inv X pins σ (upd H1 p (.lst ((sortU ns).map V.int))) { s2 with heap := s'.heap, gens := s'.gens, drawn := s'.drawn, toks := s'.toks } :=
    I2.call (ch := []) (Un.laid k hp hn) (I2.hok.laid k hp ⟨hlen, out.toList, c, vals_of_ints hi, hg⟩) (by rw [g]; exact I2.bare) (fun _ z => nomatch z)
  have e : s' = { s2 with heap := s'.heap, gens := s'.gens, drawn := s'.drawn, toks := s'.toks } := by
    cases s'
    cases s2
    cases o
    rfl
  rw [e]
  exact ⟨.ref p, _, J, rfl, q1 p hn⟩
def tSset (K : PySem.W.Frag) (ta : TE) : TE := fun σ H Q => ta σ H fun x H1 => ∃ (l : Addr) (ns : List Int), x = .ref l ∧ SqL K H1 l (ns.map V.int) ∧ ns.length ≤ 4000 ∧ ∀ p, H1 p = none → Q (.ref p) (upd H1 p (.lst ((sortU ns).map V.int)))
theorem pe_sset {X : Cx} {a : Expr} {ta : TE} {p p2 q pos : Pos} (hg : Gl X "sorted") (hm : X.mg "sorted" = none) (hg2 : Gl X "set") (hm2 : X.mg "set" = none) (ha : PE X a ta) (hc : X.calm = true)
    (na : starEach [a] X.env = (false, eval a X.env) :: starEach [] X.env := by rfl) : PE X (.Call (.Name "sorted" p) [.Call (.Name "set" p2) [a] [] q] [] pos) (tSset X.K ta) := by
  refine ⟨fun pins s σ H Q I h => ?_⟩
  refine Call_ (ld_blt I hg hm PyProof.Rows.boot_sorted ?_)
  refine PyProof.Rows.callWith_builtin1 (PyProof.Rows.args_cons ?_ rfl) rfl rfl
  refine Call_ (ld_blt I hg2 hm2 PyProof.Rows.boot_set ?_)
  refine PyProof.Rows.callWith_type1 (PyProof.Rows.args_cons (thn (ha.run pins s σ H _ I h) fun v s1 ⟨x, H1, I1, r1, q1⟩ => PyProof.Rows.args_nil ?_) na) na rfl
  obtain ⟨l, ns, rfl, hq, hl, q1⟩ := q1
  cases r1
  obtain ⟨its, r, pl, hz⟩ := I1.list hq
  have hi := r.ints
  refine call_set_lstI (items := its.toArray) ns (I1.ok.hd hc) pl.isList (by simpa using hi) (by unfold scanBound; omega) fun h' tk c R hcl hk => ?_
  refine PyProof.Rows.args_nil ?_
  have I2 : Inv X pins σ H1 { s1 with heap := h', toks := tk } := I1.kept hk
  exact sset_fin hc I2 R hl q1

/-! Px6: comprehensions. -/
open PySem PySem.Spec PyProof.Rows

section
variable {X : Cx} {K : PySem.W.Frag} {e : Ent} {G H : Hp} {Q : VK}
theorem owned_some {σ : St} {ρ : Env} (F : Fr K e G H σ ρ) {b : Addr} (o : Owned σ ρ b) : H b ≠ none := by
  obtain ⟨j, xs, h, s⟩ := o
  obtain ⟨a, vs, a1, a2, _⟩ := F.ow j xs h
  rw [s] at a1; cases a1
  rw [a2]; simp
/-- what a block may change: the lists at O -/
structure GrO (O : Addr → Prop) (G H G' H' : Hp) : Prop where
  sg : Same G G'
  un : ∀ b, H b ≠ none → G b = none → ¬ O b → G' b = none
  kp : ∀ b o, H b = some o → ¬ O b → H' b = some o
  al : ∀ b, H b ≠ none → H' b ≠ none
theorem GrO.refl {O : Addr → Prop} {G H : Hp} : GrO O G H G H := ⟨Same.refl _, fun _ _ h _ => h, fun _ _ h _ => h, fun _ h => h⟩
theorem GrO.step {O : Addr → Prop} {G H G1 H1 G2 H2 : Hp} {σ : St} {ρ ρ' : Env} (a : GrO O G H G1 H1) (g : Gr σ ρ ρ' G1 H1 G2 H2) (h : ∀ b, Owned σ ρ b → O b) : GrO O G H G2 H2 :=
  ⟨a.sg.trans g.sg, fun c h1 h2 h3 => g.un c (a.al c h1) (a.un c h1 h2 h3) fun q => h3 (h c q), fun c o h1 h2 => g.kp c o (a.kp c o h1 h2) fun q => h2 (h c q), fun c q => g.al c (a.al c q)⟩
theorem GrO.other {O : Addr → Prop} {G H G' H' : Hp} {p : Addr} {o : HO} (g : GrO O G H G' H') (h0 : H p = none) : GrO O G H G' (upd H' p o) :=
  ⟨g.sg, g.un, fun b o' q1 q2 => by rw [upd_ne fun z => by rw [z, h0] at q1; cases q1]; exact g.kp b o' q1 q2, fun b q => by rw [upd_ne fun z => q (by rw [z]; exact h0)]; exact g.al b q⟩
theorem GrO.ext {O : Addr → Prop} {G H G1 H1 G2 H2 : Hp} (a : GrO O G H G1 H1) (x : Ext G1 H1 G2 H2) : GrO O G H G2 H2 :=
  a.step (σ := []) (ρ := []) (ρ' := []) x.gr fun b ⟨i, xs, h, _⟩ => by rcases h with h | h <;> simp at h
/-- what a comprehension's loop keeps -/
structure LcI (K : PySem.W.Frag) (e : Ent) (σw : St) (O : Addr → Prop) (G0 G1 H1 : Hp) (Dd : Addr) (vs : List Nat) (tg : Tg) (fc fa : Ev D) (rs : List D) (ρe : Env) (ds : List D) (i : Nat) (H : Hp) : Prop where
  ex : ∃ G ρ acc accD ys, Fr K e G H σw ρ ∧ GrO O G1 H1 G H ∧ (∀ b, Owned σw ρ b → O b) ∧ H Dd = some (.lst acc) ∧ G Dd = none ∧ RA K G acc accD ∧ lcLoop vs tg fc fa (ds.drop i) ρ = some (ys, ρe) ∧ accD ++ ys = rs ∧ Same G0 G
theorem lc_turn {σ : St} {O : Addr → Prop} {G0 G1 H1 : Hp} {Dd : Addr} {vs : List Nat} {tg : Tg} {fc fa : Ev D} {rs : List D} {ρe : Env} {ds : List D} {i : Nat} {Y : Nat → Hp → V → Hp → Prop} {x : V} {H H' : Hp}
    (hw : ∀ i H x H', i < ds.length → Same G0 H → Y i H x H' → ∃ d, ds[i]? = some d ∧ ∀ G2, Same G0 G2 → Same G2 H → ∃ G3, Ext G2 H G3 H' ∧ R K G3 x d) (hD : H1 Dd = none) (h0 : e.H Dd = none) (noD : ¬ O Dd)
    (htg : ∀ i ∈ tgIx tg, i ∈ vs) (hds : rs.length ≤ sizeLine) (hi : i < ds.length) (I : LcI K e (wipe σ vs) O G0 G1 H1 Dd vs tg fc fa rs ρe ds i H) (y : Y i H x H') :
    tgG K tg x (wipe σ vs) H' fun σ2 H2 => wipe σ2 vs = wipe σ vs ∧ dT K e fc σ2 H2 fun b H3 =>
      if b = true then dE K e fa σ2 H3 fun y H4 => ∃ acc, H4 Dd = some (.lst acc) ∧ acc.length < sizeLine ∧ LcI K e (wipe σ vs) O G0 G1 H1 Dd vs tg fc fa rs ρe ds (i + 1) (upd H4 Dd (.lst (acc ++ [y]))) else LcI K e (wipe σ vs) O G0 G1 H1 Dd vs tg fc fa rs ρe ds (i + 1) H3 := by
  obtain ⟨G, ρ, acc, accD, ys, F, g, hO, hacc, hGD, ra, hl, hrs, sg0⟩ := I.ex
  obtain ⟨d, hd, hex⟩ := hw i H x H' hi (sg0.trans F.sg) y
  obtain ⟨G3, ext, rx⟩ := hex G sg0 F.sg
  have hdrop : ds.drop i = d :: ds.drop (i + 1) := by
    rw [List.drop_eq_getElem_cons hi]
    rw [List.getElem?_eq_getElem hi] at hd
    cases hd; rfl
  rw [hdrop] at hl
  unfold lcLoop at hl
  cases hb : bindT tg d ρ with
  | none => rw [hb] at hl; cases hl
  | some ρ1 =>
    rw [hb] at hl
    simp only at hl
    have F3 : Fr K e G3 H' (wipe σ vs) ρ := F.ext ext
    have HD : H Dd ≠ none := by rw [hacc]; simp
    have HD' : H' Dd = some (.lst acc) := ext.sh _ _ hacc
    have G3D : G3 Dd = none := by rw [ext.un Dd HD]; exact hGD
    have g3 : GrO O G1 H1 G3 H' := g.ext ext
    refine tg_ok F3 rx hb fun σ2 F4 a1 a2 a3 => ⟨wipe_eq (by rw [a2, wipe_length]) fun j hj => ?_, ?_⟩
    · rw [a1 j fun z => hj (htg j z)]
    have wσ : wipe σ2 vs = wipe σ vs := wipe_eq (by rw [a2, wipe_length]) fun j hj => by rw [a1 j fun z => hj (htg j z)]
    cases hc : fc ρ1 with
    | none => rw [hc] at hl; cases hl
    | some p =>
      obtain ⟨c, ρ2⟩ := p
      rw [hc] at hl
      cases c <;> first | (cases hl; done) | skip
      rename_i b
      refine ⟨G3, ρ1, b, ρ2, F4, hc, fun G5 H5 F5 g5 => ?_⟩
      have hO1 : ∀ b, Owned σ2 ρ1 b → O b := fun b z => hO b (a3 b z)
      have ownW : ∀ {ρx : Env} {Gx Hx : Hp}, Gr σ2 ρ1 ρx G3 H' Gx Hx → ∀ b, Owned (wipe σ vs) (wipeE vs ρx) b → O b := fun {ρx Gx Hx} gx b z => by
        rw [← wσ] at z
        exact hO1 b (gx.ow b z.wipe)
      have no4 : ¬ Owned σ2 ρ1 Dd := fun z => noD (hO1 _ z)
      have stay : ∀ {ρx : Env} {Gx Hx : Hp}, Gr σ2 ρ1 ρx G3 H' Gx Hx → Hx Dd = some (.lst acc) ∧ Gx Dd = none ∧ ¬ Owned σ2 ρx Dd := fun {ρx Gx Hx} gx => ⟨gx.kp _ _ HD' no4, gx.un _ (by rw [HD']; simp) G3D no4, fun z => no4 (gx.ow _ z)⟩
      cases b with
      | false =>
        refine iteF ?_
        simp only at hl
        obtain ⟨s1, s2, s3⟩ := stay g5
        refine ⟨G5, wipeE vs ρ2, acc, accD, ys, ?_, g3.step g5 hO1, ownW g5, s1, s2, (ra.up ext.sg).up g5.sg, hl, hrs, (sg0.trans ext.sg).trans g5.sg⟩
        rw [← wσ]; exact F5.wipe vs
      | true =>
        refine iteT ?_
        simp only at hl
        cases ha : fa ρ2 with
        | none => rw [ha] at hl; cases hl
        | some p =>
          obtain ⟨yv, ρ3⟩ := p
          rw [ha] at hl
          simp only at hl
          cases hr : lcLoop vs tg fc fa (ds.drop (i + 1)) (wipeE vs ρ3) with
          | none => rw [hr] at hl; cases hl
          | some p =>
            obtain ⟨ys', ρ4⟩ := p
            rw [hr] at hl
            simp only [Option.some.injEq, Prod.mk.injEq] at hl
            obtain ⟨rfl, rfl⟩ := hl
            refine ⟨G5, ρ2, yv, ρ3, F5, ha, fun G6 H6 v F6 g6 r6 => ?_⟩
            obtain ⟨s1, s2, s3⟩ := stay (g5.trans g6)
            have hlen : acc.length < sizeLine := by
              have h1 := ra.length
              have h2 := congrArg List.length hrs
              rw [List.length_append, List.length_cons] at h2
              omega
            refine ⟨acc, s1, hlen, ⟨G6, wipeE vs ρ3, acc ++ [v], accD ++ [yv], ys', ?_, (g3.step (g5.trans g6) hO1).other hD, ownW (g5.trans g6), upd_same, s2, ?_, hr, by rw [List.append_assoc]; exact hrs, ((sg0.trans ext.sg).trans g5.sg).trans g6.sg⟩⟩
            · rw [← wσ]
              exact (F6.other h0 s2 s3).wipe vs
            · exact (((ra.up ext.sg).up g5.sg).up g6.sg).append (.cons r6 .nil)
theorem lcLoop_len {vs : List Nat} {tg : Tg} {fc fa : Ev D} : ∀ {ds : List D} {ρ ρ' : Env} {ys : List D}, lcLoop vs tg fc fa ds ρ = some (ys, ρ') → ys.length ≤ ds.length
  | [], ρ, ρ', ys, h => by
    unfold lcLoop at h
    cases h
    exact Nat.le_refl _
  | d :: ds, ρ, ρ', ys, h => by
    unfold lcLoop at h
    split at h
    · cases h
    · rename_i ρ1 hb
      split at h
      · rename_i ρ2 hc
        split at h
        · cases h
        · rename_i y ρ3 ha
          split at h
          · cases h
          · rename_i zs ρ4 hr
            cases h
            have := lcLoop_len hr
            simp only [List.length_cons]
            omega
      · have := lcLoop_len h
        simp only [List.length_cons]
        omega
      · cases h
end
section
variable {X : Cx} {e : Ent}
/-- [elt for tg in iter if ..] -/
theorem lc_read {σ : St} {H : Hp} {Q : VK} {vs : List Nat} {tg : Tg} {fi : Ev (List D)} {fc fa : Ev D} (htg : ∀ i ∈ tgIx tg, i ∈ vs)
    (h : dF X.K e (eB (lcRun vs tg fi fc fa) fun ds => eP (.list ds)) σ H Q) : tLc (dI X.K e fi) (tgG X.K tg) (dT X.K e fc) (dE X.K e fa) vs σ H Q := by
  obtain ⟨G, ρ, rs, ρ', F, hf, q⟩ := h
  obtain ⟨rs', ρ2, e1, h1⟩ := eB_some hf
  unfold eP at h1
  simp only [Option.some.injEq, Prod.mk.injEq, PyData.list.injEq] at h1
  obtain ⟨rfl, rfl⟩ := h1
  unfold lcRun at e1
  cases hi : fi ρ with
  | none => rw [hi] at e1; cases e1
  | some p =>
    obtain ⟨ds, ρ1⟩ := p
    rw [hi] at e1
    simp only at e1
    split at e1
    · rename_i hok
      rw [Bool.and_eq_true] at hok
      cases hl : lcLoop vs tg fc fa ds (wipeE vs ρ1) with
      | none => rw [hl] at e1; cases e1
      | some p =>
        obtain ⟨ys, ρe⟩ := p
        rw [hl] at e1
        simp only [Option.some.injEq, Prod.mk.injEq] at e1
        obtain ⟨rfl, rfl⟩ := e1
        refine ⟨G, ρ, ds, ρ1, F, hi, fun G1 H1 J F1 g1 ⟨P, Y, w, hp, hy⟩ => fun Dd nD => ?_⟩
        have h0 : e.H Dd = none := F1.fresh nD
        have no1 : ¬ Owned σ ρ1 Dd := fun z => owned_some F1 z nD
        have nG : G1 Dd = none := none_of_same F1.sg nD
        refine lc_it w (fun i => LcI X.K e (wipe σ vs) (Owned σ ρ1) G1 G1 H1 Dd vs tg fc fa ys ρe ds i) ⟨G1, wipeE vs ρ1, [], [], ys, (F1.other h0 nG no1).wipe vs, GrO.refl.other nD, fun b z => z.wipe, upd_same, nG, .nil, hl, rfl, Same.refl _⟩ (fun i H2 _ I => ?_)
          (fun i x H2 H3 hi I y => lc_turn hy nD h0 no1 htg (Nat.le_trans (lcLoop_len hl) (of_decide_eq_true hok.2)) hi I y) fun H2 I => ?_
        · obtain ⟨G2, ρ2, _, _, _, F2, g2, _⟩ := I.ex
          exact hp H2 (g2.sg.trans F2.sg)
        · obtain ⟨G2, ρ2, acc, accD, ys2, F2, g2, hO, hacc, hGD, ra, hl2, hrs, _⟩ := I.ex
          rw [List.drop_length] at hl2
          unfold lcLoop at hl2
          simp only [Option.some.injEq, Prod.mk.injEq] at hl2
          obtain ⟨rfl, rfl⟩ := hl2
          rw [List.append_nil] at hrs
          subst hrs
          obtain ⟨F5, o5⟩ := Fr.back F1 hok.1 F2 g2.sg
          refine q G2 H2 Dd acc F5 (g1.trans ⟨g2.sg, g2.un, g2.kp, g2.al, fun b z => hO b (o5 b z)⟩) ?_ hacc hGD ra
          cases z : H Dd with
          | none => rfl
          | some o => exact absurd nD (g1.al Dd (by rw [z]; simp))
    · cases e1

/-! ### two clauses -/
structure Lc2I (K : PySem.W.Frag) (e : Ent) (σw : St) (O : Addr → Prop) (G1 H1 : Hp) (Dd : Addr) (vs vs1 : List Nat) (tg : Tg) (fc : Ev D) (tg1 : Tg) (fi1 : Ev (List D)) (fc1 fa : Ev D) (rs : List D) (ρe : Env) (ds : List D) (i : Nat) (H : Hp) : Prop where
  ex : ∃ G ρ acc accD ys, Fr K e G H σw ρ ∧ GrO O G1 H1 G H ∧ (∀ b, Owned σw ρ b → O b) ∧ H Dd = some (.lst acc) ∧ G Dd = none ∧ RA K G acc accD ∧ lcLoop2 vs vs1 tg fc tg1 fi1 fc1 fa (ds.drop i) ρ = some (ys, ρe) ∧ accD ++ ys = rs
theorem lc_itG {J : It} {n : Nat} {G : Hp → Prop} {Y : Nat → Hp → V → Hp → Prop} (w : Walk J n G Y) {g : TG} {tt : TT} {vs : List Nat} {σ : St} {H1 : Hp} {D : Addr} {Qd : Hp → Prop} {body : St → Hp → (Hp → Prop) → Prop} (Pv : Nat → Hp → Prop) (h0 : Pv 0 (upd H1 D (.lst []))) (hG : ∀ i H, i ≤ n → Pv i H → G H)
    (hs : ∀ i x H H', i < n → Pv i H → Y i H x H' → g x (wipe σ vs) H' fun σ2 H2 => wipe σ2 vs = wipe σ vs ∧ tt σ2 H2 fun b H3 =>
      if b = true then body σ2 H3 (Pv (i + 1)) else Pv (i + 1) H3) (hd : ∀ H, Pv n H → Qd H) :
    ∃ W : Nat → Nat → Hp → Prop, (∃ m, W 0 m (upd H1 D (.lst []))) ∧ ∀ i m H, W i m H →
      (J.stop i H ∧ Qd H) ∨ (J.go i H ∧ ∃ Nx : Hp → Prop, (∀ H', Nx H' → ∃ m', m' < m ∧ W (i + 1) m' H') ∧ ∀ x H', J.yld i H x H' → g x (wipe σ vs) H' fun σ2 H2 => wipe σ2 vs = wipe σ vs ∧ tt σ2 H2 fun b H3 =>
        if b = true then body σ2 H3 Nx else Nx H3) := by
  refine ⟨fun i m H => m = n - i ∧ i ≤ n ∧ Pv i H, ⟨n, by simp, Nat.zero_le _, h0⟩, ?_⟩
  rintro i m H ⟨rfl, hi, p⟩
  have q := hG i H hi p
  by_cases hlt : i < n
  · refine .inr ⟨w.goes i H hlt q, Pv (i + 1), fun H' p' => ⟨n - (i + 1), by omega, rfl, hlt, p'⟩, fun x H' y => hs i x H H' hlt p (w.yields i H x H' hlt q y)⟩
  · have e : i = n := by omega
    subst e
    exact .inl ⟨w.stops H q, hd H p⟩
theorem lc_itI {J : It} {n : Nat} {G : Hp → Prop} {Y : Nat → Hp → V → Hp → Prop} (w : Walk J n G Y) {g : TG} {tt : TT} {vs : List Nat} {σ : St} {H1 : Hp} {Qd : Hp → Prop} {body : St → Hp → (Hp → Prop) → Prop} (Pv : Nat → Hp → Prop) (h0 : Pv 0 H1) (hG : ∀ i H, i ≤ n → Pv i H → G H)
    (hs : ∀ i x H H', i < n → Pv i H → Y i H x H' → g x (wipe σ vs) H' fun σ2 H2 => wipe σ2 vs = wipe σ vs ∧ tt σ2 H2 fun b H3 =>
      if b = true then body σ2 H3 (Pv (i + 1)) else Pv (i + 1) H3) (hd : ∀ H, Pv n H → Qd H) :
    ∃ W : Nat → Nat → Hp → Prop, (∃ m, W 0 m H1) ∧ ∀ i m H, W i m H →
      (J.stop i H ∧ Qd H) ∨ (J.go i H ∧ ∃ Nx : Hp → Prop, (∀ H', Nx H' → ∃ m', m' < m ∧ W (i + 1) m' H') ∧ ∀ x H', J.yld i H x H' → g x (wipe σ vs) H' fun σ2 H2 => wipe σ2 vs = wipe σ vs ∧ tt σ2 H2 fun b H3 =>
        if b = true then body σ2 H3 Nx else Nx H3) := by
  refine ⟨fun i m H => m = n - i ∧ i ≤ n ∧ Pv i H, ⟨n, by simp, Nat.zero_le _, h0⟩, ?_⟩
  rintro i m H ⟨rfl, hi, p⟩
  have q := hG i H hi p
  by_cases hlt : i < n
  · refine .inr ⟨w.goes i H hlt q, Pv (i + 1), fun H' p' => ⟨n - (i + 1), by omega, rfl, hlt, p'⟩, fun x H' y => hs i x H H' hlt p (w.yields i H x H' hlt q y)⟩
  · have e : i = n := by omega
    subst e
    exact .inl ⟨w.stops H q, hd H p⟩
theorem lcLoop2_len {vs vs1 : List Nat} {tg : Tg} {fc : Ev D} {tg1 : Tg} {fi1 : Ev (List D)} {fc1 fa : Ev D} : ∀ {ds : List D} {ρ ρ' : Env} {ys : List D}, lcLoop2 vs vs1 tg fc tg1 fi1 fc1 fa ds ρ = some (ys, ρ') → ys.length ≤ sizeLine := by
  intro ds ρ ρ' ys h
  induction ds generalizing ρ ρ' ys with
  | nil =>
    unfold lcLoop2 at h
    cases h
    exact Nat.zero_le _
  | cons d ds ih =>
    unfold lcLoop2 at h
    split at h
    · cases h
    · split at h
      · split at h
        · cases h
        · split at h
          · cases h
          · split at h
            · cases h
            · split at h
              · rename_i hok
                cases h
                exact of_decide_eq_true hok
              · cases h
      · exact ih h
      · cases h
theorem lc2_read {σ : St} {H : Hp} {Q : VK} {vs vs1 : List Nat} {tg tg1 : Tg} {fi fi1 : Ev (List D)} {fc fc1 fa : Ev D} (htg : ∀ i ∈ tgIx tg, i ∈ vs) (htg1 : ∀ i ∈ tgIx tg1, i ∈ vs1) (hv : ∀ i ∈ vs1, i ∈ vs)
    (h : dF X.K e (eB (lcRun2 vs vs1 tg fi fc tg1 fi1 fc1 fa) fun ds => eP (.list ds)) σ H Q) : tLc2 (dI X.K e fi) (tgG X.K tg) (dT X.K e fc) (dI X.K e fi1) (tgG X.K tg1) (dT X.K e fc1) (dE X.K e fa) vs vs1 σ H Q := by
  obtain ⟨G, ρ, rs, ρ', F, hf, q⟩ := h
  obtain ⟨rs', ρ2, e1, h1⟩ := eB_some hf
  unfold eP at h1
  simp only [Option.some.injEq, Prod.mk.injEq, PyData.list.injEq] at h1
  obtain ⟨rfl, rfl⟩ := h1
  unfold lcRun2 at e1
  cases hi : fi ρ with
  | none => rw [hi] at e1; cases e1
  | some p =>
    obtain ⟨ds, ρ1⟩ := p
    rw [hi] at e1
    simp only at e1
    split at e1
    · rename_i hok
      rw [Bool.and_eq_true] at hok
      cases hl : lcLoop2 vs vs1 tg fc tg1 fi1 fc1 fa ds (wipeE vs ρ1) with
      | none => rw [hl] at e1; cases e1
      | some p =>
        obtain ⟨ys, ρe⟩ := p
        rw [hl] at e1
        simp only [Option.some.injEq, Prod.mk.injEq] at e1
        obtain ⟨rfl, rfl⟩ := e1
        have hysl := lcLoop2_len hl
        refine ⟨G, ρ, ds, ρ1, F, hi, fun G1 H1 J F1 g1 ⟨P, Y, w, hp, hy⟩ => fun Dd nD => ?_⟩
        have h0 : e.H Dd = none := F1.fresh nD
        have no1 : ¬ Owned σ ρ1 Dd := fun z => owned_some F1 z nD
        have nG : G1 Dd = none := none_of_same F1.sg nD
        refine lc_itG w (Lc2I X.K e (wipe σ vs) (Owned σ ρ1) G1 H1 Dd vs vs1 tg fc tg1 fi1 fc1 fa ys ρe ds) ⟨G1, wipeE vs ρ1, [], [], ys, (F1.other h0 nG no1).wipe vs, GrO.refl.other nD, fun b z => z.wipe, upd_same, nG, .nil, hl, rfl⟩ (fun i H2 _ I => ?_)
          (fun i x H2 H3 hi I y => ?_) fun H2 I => ?_
        · obtain ⟨G2, ρ2, _, _, _, F2, g2, _⟩ := I.ex
          exact hp H2 (g2.sg.trans F2.sg)
        · -- one outer turn
          obtain ⟨G2, ρ2, acc, accD, ys2, F2, g2, hO, hacc, hGD, ra, hl2, hrs⟩ := I.ex
          obtain ⟨d, hd, hex⟩ := hy i H2 x H3 hi (g2.sg.trans F2.sg) y
          obtain ⟨G3, ext, rx⟩ := hex G2 g2.sg F2.sg
          have hdrop : ds.drop i = d :: ds.drop (i + 1) := by
            rw [List.drop_eq_getElem_cons hi]
            rw [List.getElem?_eq_getElem hi] at hd
            cases hd; rfl
          rw [hdrop] at hl2
          unfold lcLoop2 at hl2
          cases hb : bindT tg d ρ2 with
          | none => rw [hb] at hl2; cases hl2
          | some ρ3 =>
            rw [hb] at hl2
            simp only at hl2
            have F3 : Fr X.K e G3 H3 (wipe σ vs) ρ2 := F2.ext ext
            have HD : H2 Dd ≠ none := by rw [hacc]; simp
            have HD' : H3 Dd = some (.lst acc) := ext.sh _ _ hacc
            have G3D : G3 Dd = none := by rw [ext.un Dd HD]; exact hGD
            have g3 := g2.ext ext
            refine tg_ok F3 rx hb fun σ2 F4 a1 a2 a3 => ⟨wipe_eq (by rw [a2, wipe_length]) fun j hj => ?_, ?_⟩
            · rw [a1 j fun z => hj (htg j z)]
            have wσ : wipe σ2 vs = wipe σ vs := wipe_eq (by rw [a2, wipe_length]) fun j hj => by rw [a1 j fun z => hj (htg j z)]
            cases hc : fc ρ3 with
            | none => rw [hc] at hl2; cases hl2
            | some p =>
              obtain ⟨c, ρ4⟩ := p
              rw [hc] at hl2
              cases c <;> first | (cases hl2; done) | skip
              rename_i b
              refine ⟨G3, ρ3, b, ρ4, F4, hc, fun G5 H5 F5 g5 => ?_⟩
              have hO1 : ∀ b, Owned σ2 ρ3 b → Owned σ ρ1 b := fun b z => hO b (a3 b z)
              have ownW : ∀ {ρx : Env} {Gx Hx : Hp}, Gr σ2 ρ3 ρx G3 H3 Gx Hx → ∀ b, Owned (wipe σ vs) (wipeE vs ρx) b → Owned σ ρ1 b := fun {ρx Gx Hx} gx b z => by
                rw [← wσ] at z
                exact hO1 b (gx.ow b z.wipe)
              have no4 : ¬ Owned σ2 ρ3 Dd := fun z => no1 (hO1 _ z)
              have stay : ∀ {ρx : Env} {Gx Hx : Hp}, Gr σ2 ρ3 ρx G3 H3 Gx Hx → Hx Dd = some (.lst acc) ∧ Gx Dd = none ∧ ¬ Owned σ2 ρx Dd := fun {ρx Gx Hx} gx => ⟨gx.kp _ _ HD' no4, gx.un _ (by rw [HD']; simp) G3D no4, fun z => no4 (gx.ow _ z)⟩
              cases b with
              | false =>
                refine iteF ?_
                simp only at hl2
                obtain ⟨s1, s2, s3⟩ := stay g5
                refine ⟨G5, wipeE vs ρ4, acc, accD, ys2, ?_, g3.step g5 hO1, ownW g5, s1, s2, (ra.up ext.sg).up g5.sg, hl2, hrs⟩
                rw [← wσ]; exact F5.wipe vs
              | true =>
                refine iteT ?_
                simp only at hl2
                cases h6 : fi1 ρ4 with
                | none => rw [h6] at hl2; cases hl2
                | some p =>
                  obtain ⟨es, ρ6⟩ := p
                  rw [h6] at hl2
                  simp only at hl2
                  cases h7 : lcLoop vs1 tg1 fc1 fa es (wipeE vs1 ρ6) with
                  | none => rw [h7] at hl2; cases hl2
                  | some p =>
                    obtain ⟨zs, ρ7⟩ := p
                    rw [h7] at hl2
                    simp only at hl2
                    cases h8 : lcLoop2 vs vs1 tg fc tg1 fi1 fc1 fa (ds.drop (i + 1)) (wipeE vs ρ7) with
                    | none => rw [h8] at hl2; cases hl2
                    | some p =>
                      obtain ⟨us, ρ8⟩ := p
                      rw [h8] at hl2
                      simp only at hl2
                      split at hl2
                      · simp only [Option.some.injEq, Prod.mk.injEq] at hl2
                        obtain ⟨rfl, rfl⟩ := hl2
                        refine ⟨G5, ρ4, es, ρ6, F5, h6, fun G6 H6 J1 F6 g6 ⟨P1, Y1, w1, hp1, hy1⟩ => ?_⟩
                        have g56 := g5.trans g6
                        obtain ⟨s1, s2, s3⟩ := stay g56
                        have gg := g3.step g56 hO1
                        have zl := lcLoop_len h7
                        have wv : wipe (wipe σ2 vs1) vs = wipe σ vs := wipe_eq (by rw [wipe_length, a2, wipe_length]) fun j hj => by rw [wipe_at fun z => hj (hv j z), ← wσ, wipe_at hj]
                        refine lc_itI w1 (LcI X.K e (wipe σ2 vs1) (Owned σ ρ1) G6 G1 H1 Dd vs1 tg1 fc1 fa (accD ++ zs) ρ7 es) ⟨G6, wipeE vs1 ρ6, acc, accD, zs, F6.wipe vs1, gg, fun b z => hO1 b (g56.ow b z.wipe), s1, s2, (ra.up ext.sg).up g56.sg, h7, rfl, Same.refl _⟩ (fun j H7 _ I7 => ?_) (fun j x7 H7 H8 hj I7 y7 => lc_turn hy1 nD h0 no1 htg1 (by have := congrArg List.length hrs; simp only [List.length_append] at this ⊢; omega) hj I7 y7) fun H7 I7 => ?_
                        · obtain ⟨G7, ρ9, _, _, _, F7, g7, _, _, _, _, _, _, sg7⟩ := I7.ex
                          exact hp1 H7 (sg7.trans F7.sg)
                        · obtain ⟨G7, ρ9, acc7, accD7, ys7, F7, g7, hO7, hacc7, hGD7, ra7, hl7, hrs7, sg7⟩ := I7.ex
                          rw [List.drop_length] at hl7
                          unfold lcLoop at hl7
                          simp only [Option.some.injEq, Prod.mk.injEq] at hl7
                          obtain ⟨rfl, rfl⟩ := hl7
                          rw [List.append_nil] at hrs7
                          refine ⟨G7, wipeE vs ρ9, acc7, accD7, us, ?_, g7, ?_, hacc7, hGD7, ra7, h8, by rw [hrs7, List.append_assoc]; exact hrs⟩
                          · rw [← wv]; exact F7.wipe vs
                          · intro b z
                            rw [← wv] at z
                            exact hO7 b z.wipe
                      · cases hl2
        · obtain ⟨G2, ρ2, acc, accD, ys2, F2, g2, hO, hacc, hGD, ra, hl2, hrs⟩ := I.ex
          rw [List.drop_length] at hl2
          unfold lcLoop2 at hl2
          simp only [Option.some.injEq, Prod.mk.injEq] at hl2
          obtain ⟨rfl, rfl⟩ := hl2
          rw [List.append_nil] at hrs
          subst hrs
          obtain ⟨F5, o5⟩ := Fr.back F1 hok.1 F2 g2.sg
          refine q G2 H2 Dd acc F5 (g1.trans ⟨g2.sg, g2.un, g2.kp, g2.al, fun b z => hO b (o5 b z)⟩) ?_ hacc hGD ra
          cases z : H Dd with
          | none => rfl
          | some o => exact absurd nD (g1.al Dd (by rw [z]; simp))
    · cases e1
end

/-! Px7: calls of defs by their functions; a def's own promise by its body. -/
open PySem PySem.Spec PyProof.Rows

theorem argSl_get : ∀ {as : List Ar} {ρ : Env} {sl : List Sl}, argSl ρ as = some sl → sl.length = as.length ∧ ∀ (k : Nat), (∀ (d : D), as[k]? = some (.d d) → sl[k]? = some (.val d)) ∧ (∀ (i : Nat), as[k]? = some (.o i) → ∃ xs, heldD i ρ = some xs ∧ sl[k]? = some (.par xs))
  | [], _, _, h => by cases h; exact ⟨rfl, fun k => ⟨fun d h => by simp at h, fun d h => by simp at h⟩⟩
  | .d d :: r, ρ, sl, h => by
    have h' : (argSl ρ r).map (.val d :: ·) = some sl := h
    cases e : argSl ρ r with
    | none => rw [e] at h'; cases h'
    | some s =>
      rw [e] at h'
      cases h'
      obtain ⟨l, q⟩ := argSl_get e
      refine ⟨by simp [l], fun k => ?_⟩
      cases k with
      | zero => exact ⟨fun d' h => by simp at h ⊢; exact h, fun d' h => by simp at h⟩
      | succ k => exact ⟨fun d' h => by simpa using (q k).1 d' (by simpa using h), fun i h => by simpa using (q k).2 i (by simpa using h)⟩
  | .o i :: r, ρ, sl, h => by
    have h' : ((heldD i ρ).bind fun xs => (argSl ρ r).map (.par xs :: ·)) = some sl := h
    obtain ⟨xs, hx, h2⟩ := Option.bind_eq_some_iff.mp h'
    cases e : argSl ρ r with
    | none => rw [e] at h2; cases h2
    | some s =>
      rw [e] at h2
      cases h2
      obtain ⟨l, q⟩ := argSl_get e
      refine ⟨by simp [l], fun k => ?_⟩
      cases k with
      | zero => exact ⟨fun d' h => by simp at h, fun d' h => by simp at h; subst h; exact ⟨xs, hx, rfl⟩⟩
      | succ k => exact ⟨fun d' h => by simpa using (q k).1 d' (by simpa using h), fun i h => by simpa using (q k).2 i (by simpa using h)⟩
theorem mem_arIx : ∀ {as : List Ar} {i : Nat}, i ∈ arIx as ↔ ∃ k : Nat, as[k]? = some (.o i)
  | [], i => by simp [arIx]
  | .d d :: r, i => by
    have := mem_arIx (as := r) (i := i)
    show i ∈ arIx r ↔ _
    rw [this]
    constructor
    · rintro ⟨k, h⟩; exact ⟨k + 1, by simpa using h⟩
    · rintro ⟨k, h⟩
      cases k with
      | zero => simp at h
      | succ k => exact ⟨k, by simpa using h⟩
  | .o j :: r, i => by
    have := mem_arIx (as := r) (i := i)
    show i ∈ j :: arIx r ↔ _
    rw [List.mem_cons, this]
    constructor
    · rintro (rfl | ⟨k, h⟩)
      · exact ⟨0, rfl⟩
      · exact ⟨k + 1, by simpa using h⟩
    · rintro ⟨k, h⟩
      cases k with
      | zero => simp at h; exact .inl h.symm
      | succ k => exact .inr ⟨k, by simpa using h⟩
theorem arIx_inj : ∀ {as : List Ar} {i k l : Nat}, (arIx as).Nodup → as[k]? = some (.o i) → as[l]? = some (.o i) → k = l
  | [], _, _, _, _, h, _ => by simp at h
  | .d d :: r, i, k, l, nd, h1, h2 => by
    cases k with
    | zero => simp at h1
    | succ k =>
      cases l with
      | zero => simp at h2
      | succ l => exact congrArg _ (arIx_inj (as := r) nd (by simpa using h1) (by simpa using h2))
  | .o j :: r, i, k, l, nd, h1, h2 => by
    have nd' : (j :: arIx r).Nodup := nd
    obtain ⟨n1, n2⟩ := List.nodup_cons.mp nd'
    cases k with
    | zero =>
      cases l with
      | zero => rfl
      | succ l =>
        simp at h1
        subst h1
        exact absurd (mem_arIx.mpr ⟨l, by simpa using h2⟩) n1
    | succ k =>
      cases l with
      | zero =>
        simp at h2
        subst h2
        exact absurd (mem_arIx.mpr ⟨k, by simpa using h1⟩) n1
      | succ l => exact congrArg _ (arIx_inj (as := r) n2 (by simpa using h1) (by simpa using h2))
/-- the same kind of slot, a held list's items other -/
def Like (s t : Option Sl) (xs : List D) : Prop := (∀ ys, s = some (.own ys) → t = some (.own xs)) ∧ (∀ ys, s = some (.par ys) → t = some (.par xs))
theorem putHeld_len {i : Nat} {xs : List D} {ρ : Env} : (putHeld i xs ρ).length = ρ.length := by
  unfold putHeld
  split <;> simp
theorem putHeld_ne {i j : Nat} {xs : List D} {ρ : Env} (h : j ≠ i) : (putHeld i xs ρ)[j]? = ρ[j]? := by
  unfold putHeld
  split
  · exact List.getElem?_set_ne (Ne.symm h)
  · exact List.getElem?_set_ne (Ne.symm h)
  · rfl
theorem putHeld_at {i : Nat} {xs : List D} {ρ : Env} : Like ρ[i]? (putHeld i xs ρ)[i]? xs := by
  refine ⟨fun ys h => ?_, fun ys h => ?_⟩
  · unfold putHeld
    rw [h]
    exact List.getElem?_set_self (List.getElem?_eq_some_iff.mp h).1
  · unfold putHeld
    rw [h]
    exact List.getElem?_set_self (List.getElem?_eq_some_iff.mp h).1
theorem argBack_get : ∀ {as : List Ar} {s : List Sl} {ρ ρ2 : Env}, (arIx as).Nodup → argBack as s ρ = some ρ2 → ρ2.length = ρ.length ∧ (∀ i, i ∉ arIx as → ρ2[i]? = ρ[i]?) ∧ ∀ (k i : Nat), as[k]? = some (.o i) → ∃ xs, s[k]? = some (.par xs) ∧ Like ρ[i]? ρ2[i]? xs
  | [], [], ρ, ρ2, _, h => by
    cases h
    exact ⟨rfl, fun _ _ => rfl, fun k i h => by simp at h⟩
  | [], _ :: _, _, _, _, h => by cases h
  | .d _ :: _, [], _, _, _, h => by cases h
  | .o _ :: _, [], _, _, _, h => by cases h
  | .d d :: r, .val v :: s, ρ, ρ2, nd, h => by
    have h' : argBack r s ρ = some ρ2 := h
    obtain ⟨q1, q2, q3⟩ := argBack_get (as := r) nd h'
    refine ⟨q1, q2, fun k i hk => ?_⟩
    cases k with
    | zero => simp at hk
    | succ k => simpa using q3 k i (by simpa using hk)
  | .d d :: r, .non :: s, ρ, ρ2, nd, h => by cases h
  | .d d :: r, .own _ :: s, ρ, ρ2, nd, h => by cases h
  | .d d :: r, .par _ :: s, ρ, ρ2, nd, h => by cases h
  | .d d :: r, .scr _ :: s, ρ, ρ2, nd, h => by cases h
  | .o j :: r, .par xs :: s, ρ, ρ2, nd, h => by
    have h' : argBack r s (putHeld j xs ρ) = some ρ2 := h
    have nd' : (j :: arIx r).Nodup := nd
    obtain ⟨n1, n2⟩ := List.nodup_cons.mp nd'
    obtain ⟨q1, q2, q3⟩ := argBack_get (as := r) n2 h'
    refine ⟨by rw [q1, putHeld_len], fun i hi => ?_, fun k i hk => ?_⟩
    · have hi' : i ∉ j :: arIx r := hi
      rw [List.mem_cons, not_or] at hi'
      rw [q2 i hi'.2, putHeld_ne hi'.1]
    · cases k with
      | zero =>
        simp at hk
        subst hk
        exact ⟨xs, rfl, by rw [q2 j n1]; exact putHeld_at⟩
      | succ k =>
        have hk' : r[k]? = some (.o i) := by simpa using hk
        obtain ⟨ys, a1, a2⟩ := q3 k i hk'
        have hij : i ≠ j := fun z => n1 (by rw [← z]; exact mem_arIx.mpr ⟨k, hk'⟩)
        rw [putHeld_ne hij] at a2
        exact ⟨ys, by simpa using a1, a2⟩
  | .o j :: r, .non :: s, ρ, ρ2, nd, h => by cases h
  | .o j :: r, .val _ :: s, ρ, ρ2, nd, h => by cases h
  | .o j :: r, .own _ :: s, ρ, ρ2, nd, h => by cases h
  | .o j :: r, .scr _ :: s, ρ, ρ2, nd, h => by cases h
theorem paired_get {α β : Type} {F : α → β → Prop} : ∀ {as : List α} {bs : List β} {k : Nat}, Paired F as bs → as.length = bs.length ∧ (∀ a, as[k]? = some a → ∃ b, bs[k]? = some b ∧ F a b) ∧ (∀ b, bs[k]? = some b → ∃ a, as[k]? = some a ∧ F a b)
  | _, _, _, .nil => ⟨rfl, fun a h => by simp at h, fun a h => by simp at h⟩
  | _, _, 0, .cons r t => ⟨by simp [(paired_get (k := 0) t).1], fun a h => by simp at h; subst h; exact ⟨_, rfl, r⟩, fun a h => by simp at h; subst h; exact ⟨_, rfl, r⟩⟩
  | _, _, k + 1, .cons r t => by
    obtain ⟨h1, h2, h3⟩ := paired_get (k := k) t
    exact ⟨by simp [h1], fun a h => by simpa using h2 a (by simpa using h), fun a h => by simpa using h3 a (by simpa using h)⟩
theorem held_none {ρ : Env} {i : Nat} (h : heldD i ρ = none) : ∀ xs, ¬ Held ρ i xs := fun xs q => by
  unfold heldD at h
  rcases q with q | q <;> rw [q] at h <;> cases h
theorem held_iff {ρ : Env} {i : Nat} {xs : List D} (h : Held ρ i xs) : heldD i ρ = some xs := by
  unfold heldD
  rcases h with q | q <;> rw [q]

section
variable {X : Cx} {e : Ent} {Φ : Phi} {Γ : Str → Option D} {N : List Str} {sc : Scope} {sn : Str → Bool} {k : Nat}
theorem a_nil : PA X [] (dA X.K e (eP [])) := pa_imp pa_nil fun σ H Q ⟨G, ρ, d, ρ', F, hf, q⟩ => by cases hf; exact q G H [] F .refl .nil
theorem ArR.up {K : PySem.W.Frag} {G G' : Hp} {σ : St} {v : V} {a : Ar} (h : ArR K G σ v a) (s : Same G G') : ArR K G' σ v a := by
  cases h with
  | d r => exact .d (r.up s)
  | o q => exact .o q
theorem a_cons {ex : Expr} {es : List Expr} {f : Ev D} {fs : Ev (List Ar)} (hs : notStar ex = true) (ha : PE X ex (dE X.K e f)) (hr : PA X es (dA X.K e fs)) : PA X (ex :: es) (dA X.K e (eB f fun x => eB fs fun xs => eP (.d x :: xs))) := by
  refine pa_imp (pa_cons ha hr (starEach_of hs)) fun σ H Q ⟨G, ρ, d, ρ', F, hf, q⟩ => ?_
  obtain ⟨a, ρ1, e1, h1⟩ := eB_some hf
  obtain ⟨as, ρ2, e2, h2⟩ := eB_some h1
  cases h2
  exact ⟨G, ρ, a, ρ1, F, e1, fun G1 H1 v F1 g1 r1 => ⟨G1, ρ1, as, ρ', F1, e2, fun G2 H2 vs F2 g2 r2 => q G2 H2 _ F2 (g1.trans g2) (.cons (.d (r1.up g2.sg)) r2)⟩⟩
theorem a_ref (g : Good Φ Γ N sc sn k X) {i : Nat} {x : Str} {pos : Pos} {es : List Expr} {fs : Ev (List Ar)} (hi : N[i]? = some x) (hv : visB sc x = true) (hd : (x == ("__debug__" : Str)) = false) (hcd : (x == ("__classdict__" : Str)) = false) (hr : PA X es (dA X.K e fs)) :
    PA X (.Name x pos :: es) (dA X.K e (eB (hasHeld i) fun _ => eB fs fun xs => eP (.o i :: xs))) := by
  refine pa_imp (pa_cons (pe_var (i := i) (by rw [g.hN]; exact hi) (by rw [g.hs]; exact vis_of hv) hd hcd) hr (starEach_of rfl)) fun σ H Q ⟨G, ρ, d, ρ', F, hf, q⟩ => ?_
  obtain ⟨u, ρ0, e0, h0⟩ := eB_some hf
  obtain ⟨rfl, xs0, hh0⟩ := hasHeld_some e0
  obtain ⟨as, ρ2, e2, h2⟩ := eB_some h0
  cases h2
  obtain ⟨a, vs0, a1, _⟩ := F.ow i xs0 (heldD_some hh0)
  exact ⟨.ref a, a1, G, ρ, as, ρ', F, e2, fun G2 H2 vs F2 g2 r2 => q G2 H2 _ F2 g2 (.cons (.o a1) r2)⟩

/-- the callee's promise, from the caller's slots -/
theorem sp_of {K : PySem.W.Frag} {σ : St} {G H : Hp} {Q : VK} {E : XK} {ρ ρ2 : Env} {vs : List V} {as : List Ar} {sl out : List Sl} {F : FSem} {d : D} (Fr1 : Fr K e G H σ ρ) (hp : Paired (ArR K G σ) vs as) (hsl : argSl ρ as = some sl) (nd : (arIx as).Nodup)
    (hF : F sl = some (d, out)) (hb : argBack as out ρ = some ρ2) (q : ∀ G' H' v, Fr K e G' H' σ ρ2 → Gr σ ρ ρ2 G H G' H' → R K G' v d → Q v H') : spF K F vs H Q E := by
  obtain ⟨hlen, hget⟩ := argSl_get hsl
  have hvl : vs.length = as.length := (paired_get (k := 0) hp).1
  -- what a held argument is
  have hold : ∀ {i : Nat} {xs : List D}, Held sl i xs → ∃ j : Nat, as[i]? = some (.o j) ∧ heldD j ρ = some xs ∧ ∃ v, vs[i]? = some v ∧ σ[j]? = some (some v) := fun {i xs} h => by
    have hi : i < sl.length := by rcases h with h | h <;> exact (List.getElem?_eq_some_iff.mp h).1
    have hia : i < as.length := by omega
    cases ea : as[i]? with
    | none => rw [List.getElem?_eq_none_iff] at ea; omega
    | some a =>
      cases a with
      | d d' =>
        have := (hget i).1 d' ea
        rcases h with h | h <;> rw [this] at h <;> cases h
      | o j =>
        obtain ⟨xs', h1, h2⟩ := (hget i).2 j ea
        obtain ⟨v, hv, r⟩ := (paired_get (k := i) hp).2.2 _ ea
        have : xs' = xs := by rcases h with h | h <;> rw [h2] at h <;> cases h; rfl
        subst this
        cases r with
        | o hσ => exact ⟨j, rfl, h1, v, hv, hσ⟩
  have ownA : ∀ b, Owned (vs.map some) sl b → ∃ i j : Nat, as[i]? = some (.o j) ∧ (∃ xs, Held ρ j xs) ∧ σ[j]? = some (some (.ref b)) := fun b ⟨i, xs, h, s⟩ => by
    obtain ⟨j, h1, h2, v, h3, h4⟩ := hold h
    rw [List.getElem?_map, h3] at s
    simp at s
    subst s
    exact ⟨i, j, h1, ⟨xs, heldD_some h2⟩, h4⟩
  refine ⟨G, sl, d, out, ⟨Fr1.sg, by simp; omega, fun i d' h => ?_, fun i xs h => ?_, fun i j a xs ys h1 h2 s1 s2 => ?_, fun i ns h => ?_⟩, hF, fun i xs h => ?_, fun G' H' v sg un kp al rv rel => ?_⟩
  · have hia : i < as.length := by have := (List.getElem?_eq_some_iff.mp h).1; omega
    cases ea : as[i]? with
    | none => rw [List.getElem?_eq_none_iff] at ea; omega
    | some a =>
      cases a with
      | d d2 =>
        have := (hget i).1 d2 ea
        rw [this] at h
        cases h
        obtain ⟨v, hv, r⟩ := (paired_get (k := i) hp).2.2 _ ea
        cases r with
        | d r => exact ⟨v, by rw [List.getElem?_map, hv]; rfl, r⟩
      | o j =>
        obtain ⟨xs', h1, h2⟩ := (hget i).2 j ea
        rw [h2] at h
        cases h
  · obtain ⟨j, h1, h2, v, h3, h4⟩ := hold h
    obtain ⟨a, ws, a1, a2, a3, a4⟩ := Fr1.ow j xs (heldD_some h2)
    rw [h4] at a1
    cases a1
    exact ⟨a, ws, by rw [List.getElem?_map, h3]; rfl, a2, a3, a4⟩
  · obtain ⟨j1, h11, h12, v1, h13, h14⟩ := hold h1
    obtain ⟨j2, h21, h22, v2, h23, h24⟩ := hold h2
    rw [List.getElem?_map, h13] at s1
    rw [List.getElem?_map, h23] at s2
    simp at s1 s2
    subst s1 s2
    have := Fr1.ds j1 j2 a xs ys (heldD_some h12) (heldD_some h22) h14 h24
    subst this
    exact arIx_inj nd h11 h21
  · have hia : i < as.length := by have := (List.getElem?_eq_some_iff.mp h).1; omega
    cases ea : as[i]? with
    | none => rw [List.getElem?_eq_none_iff] at ea; omega
    | some a =>
      cases a with
      | d d2 => rw [(hget i).1 d2 ea] at h; cases h
      | o j =>
        obtain ⟨xs', h1, h2⟩ := (hget i).2 j ea
        rw [h2] at h
        cases h
  · have hia : i < as.length := by have := (List.getElem?_eq_some_iff.mp h).1; omega
    cases ea : as[i]? with
    | none => rw [List.getElem?_eq_none_iff] at ea; omega
    | some a =>
      cases a with
      | d d2 => rw [(hget i).1 d2 ea] at h; cases h
      | o j =>
        obtain ⟨xs', h1, h2⟩ := (hget i).2 j ea
        rw [h2] at h
        cases h
  · obtain ⟨b1, b2, b3⟩ := argBack_get nd hb
    -- a held slot behind, ahead
    have back : ∀ {i : Nat}, (∀ xs, ρ2[i]? = some (.own xs) → ∃ ys, ρ[i]? = some (.own ys)) ∧ (∀ xs, ρ2[i]? = some (.par xs) → ∃ ys, ρ[i]? = some (.par ys)) ∧ (∀ s, ρ2[i]? = some s → (∀ xs, s ≠ .own xs) → (∀ xs, s ≠ .par xs) → ρ[i]? = some s) := fun {i} => by
      by_cases hi : i ∈ arIx as
      · obtain ⟨kk, hk⟩ := mem_arIx.mp hi
        obtain ⟨xs', h1, h2⟩ := (hget kk).2 i hk
        obtain ⟨zs, h3, h4⟩ := b3 kk i hk
        rcases heldD_some h1 with o | o
        · have := h4.1 _ o
          refine ⟨fun xs _ => ⟨_, o⟩, (fun xs h => by rw [this] at h; cases h), fun s h n1 n2 => ?_⟩
          rw [this] at h; cases h; exact absurd rfl (n1 _)
        · have := h4.2 _ o
          refine ⟨(fun xs h => by rw [this] at h; cases h), fun xs _ => ⟨_, o⟩, fun s h n1 n2 => ?_⟩
          rw [this] at h; cases h; exact absurd rfl (n2 _)
      · rw [b2 i hi]
        exact ⟨fun xs h => ⟨xs, h⟩, fun xs h => ⟨xs, h⟩, fun s h _ _ => h⟩
    have heldB : ∀ {i : Nat} {xs : List D}, Held ρ2 i xs → ∃ ys, Held ρ i ys := fun {i xs} h => by
      rcases h with h | h
      · obtain ⟨ys, q⟩ := back.1 xs h; exact ⟨ys, .inl q⟩
      · obtain ⟨ys, q⟩ := back.2.1 xs h; exact ⟨ys, .inr q⟩
    refine q G' H' v ⟨⟨rel.sg, by rw [b1]; exact Fr1.len, fun i d' h => ?_, fun i xs h => ?_, fun i j a xs ys h1 h2 s1 s2 => ?_, fun i ns h => ?_⟩, Fr1.g0.trans sg, fun b h1 h2 => un b (Fr1.al b h1) (Fr1.un b h1 h2), fun b o h1 h2 => kp b o (Fr1.kp b o h1 h2) fun z => ?_,
      fun b h => al b (Fr1.al b h), fun i xs a h s => ?_, fun i xs h => ?_⟩ ⟨sg, fun b h1 h2 _ => un b h1 h2, fun b o h1 h2 => kp b o h1 fun z => ?_, al, fun b ⟨i, xs, h, s⟩ => ?_⟩ rv
    · obtain ⟨v', h1, h2⟩ := Fr1.sl i d' (back.2.2 _ h (fun _ z => by cases z) (fun _ z => by cases z))
      exact ⟨v', h1, h2.up sg⟩
    · by_cases hi : i ∈ arIx as
      · obtain ⟨kk, hk⟩ := mem_arIx.mp hi
        obtain ⟨xs', h1, h2⟩ := (hget kk).2 i hk
        obtain ⟨zs, h3, h4⟩ := b3 kk i hk
        have : zs = xs := by
          rcases heldD_some h1 with o | o
          · have z := h4.1 _ o
            rcases h with h | h <;> rw [z] at h <;> cases h; rfl
          · have z := h4.2 _ o
            rcases h with h | h <;> rw [z] at h <;> cases h; rfl
        subst this
        obtain ⟨a, ws, a1, a2, a3, a4⟩ := rel.ow kk zs (.inr h3)
        obtain ⟨v', hv, r⟩ := (paired_get (k := kk) hp).2.2 _ hk
        rw [List.getElem?_map, hv] at a1
        simp at a1
        subst a1
        cases r with
        | o hσ => exact ⟨a, ws, hσ, a2, a3, a4⟩
      · have h' : Held ρ i xs := by
          unfold Held at h
          rw [b2 i hi] at h
          exact h
        obtain ⟨a, ws, a1, a2, a3, a4⟩ := Fr1.ow i xs h'
        refine ⟨a, ws, a1, kp a _ a2 fun z => ?_, un a (by rw [a2]; simp) a3, a4.up sg⟩
        obtain ⟨i2, j2, z1, ⟨ys, z2⟩, z3⟩ := ownA a z
        have := Fr1.ds i j2 a xs ys h' z2 a1 z3
        subst this
        exact hi (mem_arIx.mpr ⟨i2, z1⟩)
    · obtain ⟨ys1, q1⟩ := heldB h1
      obtain ⟨ys2, q2⟩ := heldB h2
      exact Fr1.ds i j a ys1 ys2 q1 q2 s1 s2
    · obtain ⟨a, h1, h2⟩ := Fr1.sc i ns (back.2.2 _ h (fun _ z => by cases z) (fun _ z => by cases z))
      exact ⟨a, h1, sg.seq h2⟩
    · obtain ⟨i2, j2, z1, ⟨ys, z2⟩, z3⟩ := ownA b z
      rcases z2 with z2 | z2
      · have := Fr1.fr j2 ys b z2 z3
        rw [this] at h1; cases h1
      · obtain ⟨p1, ws, p2⟩ := Fr1.pa j2 ys z2
        exact h2 ⟨j2, ws, .inr p2, by rw [← p1]; exact z3⟩
    · obtain ⟨ys, h'⟩ := back.1 xs h
      exact Fr1.fr i ys a h' s
    · obtain ⟨ys, h'⟩ := back.2.1 xs h
      exact Fr1.pa i ys h'
    · obtain ⟨i2, j2, z1, ⟨ys, z2⟩, z3⟩ := ownA b z
      exact h2 ⟨j2, ys, z2, z3⟩
    · obtain ⟨ys, h'⟩ := heldB h
      exact ⟨i, ys, h', s⟩
theorem callD_some {f : Str} {as : List Ar} {ρ ρ' : Env} {d : D} (h : callD Φ f as ρ = some (d, ρ')) : ∃ F sl out, Φ f = some F ∧ argSl ρ as = some sl ∧ (arIx as).Nodup ∧ F sl = some (d, out) ∧ argBack as out ρ = some ρ' := by
  unfold callD at h
  cases e1 : Φ f with
  | none => rw [e1] at h; cases h
  | some F =>
    rw [e1] at h
    simp only at h
    cases e2 : argSl ρ as with
    | none => rw [e2] at h; cases h
    | some sl =>
      rw [e2] at h
      simp only at h
      split at h
      · rename_i nd
        cases e3 : F sl with
        | none => rw [e3] at h; cases h
        | some p =>
          obtain ⟨d', out⟩ := p
          rw [e3] at h
          simp only at h
          cases e4 : argBack as out ρ with
          | none => rw [e4] at h; cases h
          | some ρ1 =>
            rw [e4] at h
            cases h
            exact ⟨F, sl, out, rfl, rfl, nd, e3, e4⟩
      · cases h
theorem callD_none {f : Str} (h : Φ f = none) {as : List Ar} {ρ : Env} : callD Φ f as ρ = none := by
  unfold callD
  rw [h]
theorem d_call (g : Good Φ Γ N sc sn k X) {f : Str} {a : Expr} {es : List Expr} {p pos : Pos} {fs : Ev (List Ar)} (hx : sc.names.lookup f = some .globalImplicit) (hs : noStars (a :: es) = true) (ha : PA X (a :: es) (dA X.K e fs)) :
    PE X (.Call (.Name f p) (a :: es) [] pos) (dE X.K e (eB fs fun as => callD Φ f as)) := by
  have hs' : notStar a = true ∧ noStars es = true := by
    unfold noStars at hs ⊢
    rw [List.all_cons, Bool.and_eq_true] at hs
    exact hs
  cases hF : Φ f with
  | none =>
    refine ⟨fun pins s σ H Q I ⟨G, ρ, d, ρ', F, hf, q⟩ => ?_⟩
    obtain ⟨as, ρ1, e1, h1⟩ := eB_some hf
    rw [callD_none hF] at h1
    cases h1
  | some F =>
    obtain ⟨fa, fd, ps, hm, hk, hb, G, hdb⟩ := g.fns f F hF
    refine pe_imp (pe_call G g.room (g.gl' hx) hm hk hb .nil pass0 ha (by simpa using hdb) (starEach_of hs'.1) (noStars_any hs'.2)) fun σ H Q ⟨G, ρ, d, ρ', F1, hf, q⟩ => ?_
    obtain ⟨as, ρ1, e1, h1⟩ := eB_some hf
    refine ⟨G, ρ, as, ρ1, F1, e1, fun G2 H2 vs F2 g2 r2 => ?_⟩
    obtain ⟨F', sl, out, h2, h3, h4, h5, h6⟩ := callD_some h1
    rw [hF] at h2
    cases h2
    rw [List.append_nil]
    exact sp_of F2 r2 h3 h4 h5 h6 fun G' H' v F' g' r' => q G' H' v F' (g2.trans g') r'
theorem d_call0 (g : Good Φ Γ N sc sn k X) {f : Str} {p pos : Pos} (hx : sc.names.lookup f = some .globalImplicit) : PE X (.Call (.Name f p) [] [] pos) (dE X.K e (eB (eP []) fun as => callD Φ f as)) := by
  cases hF : Φ f with
  | none =>
    refine ⟨fun pins s σ H Q I ⟨G, ρ, d, ρ', F, hf, q⟩ => ?_⟩
    obtain ⟨as, ρ1, e1, h1⟩ := eB_some hf
    rw [callD_none hF] at h1
    cases h1
  | some F =>
    obtain ⟨fa, fd, ps, hm, hk, hb, G, hdb⟩ := g.fns f F hF
    refine pe_imp (pe_call0 G g.room (g.gl' hx) hm hk hb .nil pass0 (by simpa using hdb)) fun σ H Q ⟨G, ρ, d, ρ', F1, hf, q⟩ => ?_
    obtain ⟨as, ρ1, e1, h1⟩ := eB_some hf
    cases e1
    obtain ⟨F', sl, out, h2, h3, h4, h5, h6⟩ := callD_some h1
    rw [hF] at h2
    cases h2
    exact sp_of (E := E0) F1 .nil h3 h4 h5 h6 fun G' H' v F' g' r' => q G' H' v F' g' r'
end

/-! Px8: statements, and a def's promise by its body. -/
open PySem PySem.Spec PyProof.Rows

abbrev Sv := Env → Option (Out × Env)
/-- a statement's reading -/
def dS (K : PySem.W.Frag) (e : Ent) (f : Sv) : TS := fun D σ H => ∃ G ρ o ρ', Fr K e G H σ ρ ∧ f ρ = some (o, ρ') ∧ match o with
  | .nx => ∀ G' H' σ', Fr K e G' H' σ' ρ' → Same G G' → D.nx σ' H'
  | .ret d => ∀ G' H' σ' v, Fr K e G' H' σ' ρ' → Same G G' → R K G' v d → D.rt v H'
theorem sB_some {α : Type} {f : Ev α} {g : α → Sv} {ρ : Env} {r : Out × Env} (h : sB f g ρ = some r) : ∃ a ρ1, f ρ = some (a, ρ1) ∧ g a ρ1 = some r := by
  unfold sB at h
  cases e : f ρ with
  | none => rw [e] at h; cases h
  | some p => rw [e] at h; exact ⟨p.1, p.2, rfl, h⟩
theorem nxO_some {ρ : Option Env} {o : Out} {ρ' : Env} (h : nxO ρ = some (o, ρ')) : o = .nx ∧ ρ = some ρ' := by
  unfold nxO at h
  cases ρ with
  | none => cases h
  | some ρ => cases h; exact ⟨rfl, rfl⟩

section
variable {X : Cx} {e : Ent} {Φ : Phi} {Γ : Str → Option D} {N : List Str} {sc : Scope} {sn : Str → Bool} {k : Nat}
theorem s_skip : PSs X [] (dS X.K e fun ρ => some (.nx, ρ)) := ⟨fun pins s σ H D I ⟨G, ρ, o, ρ', F, hf, q⟩ => by
  cases hf
  exact pss_nil.run pins s σ H D I (q G H σ F (Same.refl _))⟩
def vSeqS (f h : Sv) : Sv := fun ρ => match f ρ with
    | some (.nx, ρ1) => h ρ1
    | some (.ret v, ρ1) => some (.ret v, ρ1)
    | none => none
theorem s_cons {st : Stmt} {rest : List Stmt} {f h : Sv} (h1 : PS X st (dS X.K e f)) (h2 : PSs X rest (dS X.K e h)) : PSs X (st :: rest) (dS X.K e (vSeqS f h)) := by
  have hh := pss_cons h1 h2
  refine pss_imp hh fun D σ H ⟨G, ρ, o, ρ', F, hf, q⟩ => ?_
  show dS X.K e f { D with nx := dS X.K e h D } σ H
  unfold vSeqS at hf
  cases ef : f ρ with
  | none => rw [ef] at hf; cases hf
  | some p =>
    obtain ⟨o1, ρ1⟩ := p
    rw [ef] at hf
    cases o1 with
    | nx =>
      refine ⟨G, ρ, .nx, ρ1, F, ef, fun G' H' σ' F' sg => ⟨G', ρ1, o, ρ', F', hf, ?_⟩⟩
      cases o with
      | nx => exact fun G2 H2 σ2 F2 s2 => q G2 H2 σ2 F2 (sg.trans s2)
      | ret d => exact fun G2 H2 σ2 v F2 s2 r => q G2 H2 σ2 v F2 (sg.trans s2) r
    | ret v =>
      cases hf
      exact ⟨G, ρ, .ret v, ρ', F, ef, q⟩
theorem s_one {st : Stmt} {f : Sv} (h : PS X st (dS X.K e f)) : PSs X [st] (dS X.K e f) := pss_one h
theorem s_pass {pos : Pos} : PS X (.Pass pos) (dS X.K e fun ρ => some (.nx, ρ)) := ps_imp ps_pass fun D σ H ⟨G, ρ, o, ρ', F, hf, q⟩ => by
  cases hf
  exact q G H σ F (Same.refl _)
theorem s_ret {ex : Expr} {pos : Pos} {f : Ev D} (h : PE X ex (dE X.K e f)) : PS X (.Return (some ex) pos) (dS X.K e (sB f fun d ρ => some (.ret d, ρ))) := ps_imp (ps_ret h) fun D σ H ⟨G, ρ, o, ρ', F, hf, q⟩ => by
  obtain ⟨a, ρ1, e1, h1⟩ := sB_some hf
  cases h1
  exact ⟨G, ρ, a, ρ', F, e1, fun G' H' v F' g' r => q G' H' σ v F' g'.sg r⟩
theorem s_expr {ex : Expr} {pos : Pos} {f : Ev D} (h : PE X ex (dE X.K e f)) (hc : notComp ex = true) : PS X (.Expr ex pos) (dS X.K e (sB f fun _ ρ => some (.nx, ρ))) := ps_imp (ps_expr h (swaps_of hc)) fun D σ H ⟨G, ρ, o, ρ', F, hf, q⟩ => by
  obtain ⟨a, ρ1, e1, h1⟩ := sB_some hf
  cases h1
  exact ⟨G, ρ, a, ρ', F, e1, fun G' H' v F' g' r => q G' H' σ F' g'.sg⟩
def vIteS (c : Ev D) (f h : Sv) : Sv := sB c fun x => match x with
    | .bool true => f
    | .bool false => h
    | _ => fun _ => none
theorem s_ite {c : Expr} {a b : List Stmt} {pos : Pos} {fc : Ev D} {f h : Sv} (hc : PT X c (dT X.K e fc)) (ha : PSs X a (dS X.K e f)) (hb : PSs X b (dS X.K e h)) : PS X (.If c a b pos) (dS X.K e (vIteS fc f h)) :=
  ps_imp (ps_if hc ha hb) fun D σ H ⟨G, ρ, o, ρ', F, hf, q⟩ => by
    obtain ⟨x, ρ1, e1, h1⟩ := sB_some hf
    cases x <;> first | (cases h1; done) | skip
    rename_i b
    have tail : ∀ {G1 H1 : Hp} {fh : Sv}, Fr X.K e G1 H1 σ ρ1 → Same G G1 → fh ρ1 = some (o, ρ') → dS X.K e fh D σ H1 := fun {G1 H1 fh} F1 s1 hx => ⟨G1, ρ1, o, ρ', F1, hx, by
      cases o with
      | nx => exact fun G2 H2 σ2 F2 s2 => q G2 H2 σ2 F2 (s1.trans s2)
      | ret d => exact fun G2 H2 σ2 v F2 s2 r => q G2 H2 σ2 v F2 (s1.trans s2) r⟩
    refine ⟨G, ρ, b, ρ1, F, e1, fun G1 H1 F1 g1 => ?_⟩
    cases b with
    | true => exact iteT (tail F1 g1.sg h1)
    | false => exact iteF (tail F1 g1.sg h1)

/-! ### stores -/
theorem st_loc (g : Good Φ Γ N sc sn k X) {x : Str} (h : sn x = true) : Loc X.env.scope x := (g.st x h).1
theorem swapsT_false {elt : Expr} {gs : List Comprehension} {scope : Scope} {pos py : Pos} {y : Str} {l : Nat} {env : PySem.Env} (h : (decide (env.scope.names.lookup y = some .local) && (py.line == pos.line) && !(scope.names.any fun (n, k) => n == y && (k == .local || k == .cell))) = false) :
    swapsWith (.ListComp elt gs scope pos) (some (.Name y py)) l env = pure false := by
  unfold swapsWith
  have hk : (env.kindOf y == some NameKind.local) = decide (env.scope.names.lookup y = some .local) := by
    show (env.scope.names.lookup y == some NameKind.local) = _
    exact Bool.eq_iff_iff.mpr (by simp)
  simp only [hk, Expr.pos]
  rw [Bool.and_assoc, Bool.and_assoc, ← Bool.and_assoc (decide _), h, Bool.and_false]
theorem s_set (g : Good Φ Γ N sc sn k X) {i : Nat} {x : Str} {py pos : Pos} {ex : Expr} {f : Ev D} (hi : N[i]? = some x) (hx : sn x = true) (hsw : swapsWith ex (some (.Name x py)) pos.line X.env = pure false) (h : PE X ex (dE X.K e f)) :
    PS X (.Assign [.Name x py] ex pos) (dS X.K e (sB f fun d ρ => nxO (setV i d ρ))) :=
  ps_imp (ps_set (i := i) (by rw [g.hN]; exact g.nd) (by rw [g.hN]; exact hi) (st_loc g hx) h hsw (g.st x hx).2) fun D σ H ⟨G, ρ, o, ρ', F, hf, q⟩ => by
    obtain ⟨a, ρ1, e1, h1⟩ := sB_some hf
    obtain ⟨rfl, h2⟩ := nxO_some h1
    obtain ⟨hl, rfl⟩ := setV_some h2
    exact ⟨G, ρ, a, ρ1, F, e1, fun G' H' v F' g' r => q G' H' _ (F'.setVal hl r) g'.sg⟩
/-- what a fresh list is, for a slot -/
theorem fresh_facts {K : PySem.W.Frag} {G H G' H' : Hp} {σ : St} {ρ ρ' : Env} {p : Addr} (F : Fr K e G H σ ρ) (g' : Gr σ ρ ρ' G H G' H') (n : H p = none) : e.H p = none ∧ ¬ Owned σ ρ' p :=
  ⟨F.fresh n, fun z => owned_some F (g'.ow p z) n⟩
theorem s_setO (g : Good Φ Γ N sc sn k X) {i : Nat} {x : Str} {py pos : Pos} {ex : Expr} {f : Ev D} (hi : N[i]? = some x) (hx : sn x = true) (hsw : swapsWith ex (some (.Name x py)) pos.line X.env = pure false) (h : PE X ex (dF X.K e f)) :
    PS X (.Assign [.Name x py] ex pos) (dS X.K e (sB f fun d ρ => match d with
    | .list ds => nxO (setO i ds ρ)
    | _ => none)) :=
  ps_imp (ps_set (i := i) (by rw [g.hN]; exact g.nd) (by rw [g.hN]; exact hi) (st_loc g hx) h hsw (g.st x hx).2) fun D σ H ⟨G, ρ, o, ρ', F, hf, q⟩ => by
    obtain ⟨a, ρ1, e1, h1⟩ := sB_some hf
    cases a <;> first | (cases h1; done) | skip
    obtain ⟨rfl, h2⟩ := nxO_some h1
    obtain ⟨hl, rfl⟩ := setO_some h2
    exact ⟨G, ρ, _, ρ1, F, e1, fun G' H' p vs F' g' n hp ng r => q G' H' _ (F'.setOwn hl (fresh_facts F g' n).1 (fresh_facts F g' n).2 hp ng r) g'.sg⟩
/-- name = [..] by a comprehension, the name stored within -/
theorem s_setLc (g : Good Φ Γ N sc sn k X) {i : Nat} {x : Str} {py pos spos : Pos} {elt tg iter : Expr} {ifs : List Expr} {scope : Scope} {own : List (Str × Nat)} {tgt : Tg} {fi : Ev (List D)} {fc fa : Ev D} (hi : N[i]? = some x) (hx : sc.names.lookup x = some .local) (hk : sc.kind = .function)
    (hl : (py.line == pos.line) = true) (hn : (scope.names.any fun (n, k) => n == x && (k == .local || k == .cell)) = false) (hpi : PI X tg iter (dI X.K e fi)) (ok : BlkOk N sc scope own) (hset : notSet iter = true)
    (hg : ∀ (s : Shared) (H : Hp) (C : Addr) (cl : List (Str × Addr)) (fp : List Addr), PG (X.blk s H scope (compEnvC scope cl C X.env) fp) tg (tgG X.K tgt))
    (ht : ∀ (s : Shared) (H : Hp) (C : Addr) (cl : List (Str × Addr)) (fp : List Addr), PTs (X.blk s H scope (compEnvC scope cl C X.env) fp) ifs (dT X.K e fc))
    (he : ∀ (s : Shared) (H : Hp) (C : Addr) (cl : List (Str × Addr)) (fp : List Addr), PE (X.blk s H scope (compEnvC scope cl C X.env) fp) elt (dE X.K e fa)) (htg : ∀ j ∈ tgIx tgt, j ∈ own.map (·.2)) :
    PS X (.Assign [.Name x py] (.ListComp elt [⟨tg, iter, ifs, 0⟩] scope pos) spos) (dS X.K e (sB (eB (lcRun (own.map (·.2)) tgt fi fc fa) fun ds => eP (.list ds)) fun d ρ => nxO (setV i d ρ))) := by
  refine ps_imp (ps_setLc (i := i) g.calm (by rw [g.hN]; exact g.nd) (by rw [g.hN]; exact hi) (by rw [g.hs]; exact hx) (sw_true (by rw [g.hs]; exact hk) (by rw [g.hs]; exact hx) hl hn) hpi (by rw [g.hN, g.hs]; exact ok) hg ht he (folded_of hset)) fun D σ H ⟨G, ρ, o, ρ', F, hf, q⟩ => ?_
  obtain ⟨a, ρ1, e1, h1⟩ := sB_some hf
  obtain ⟨rfl, h2⟩ := nxO_some h1
  obtain ⟨hl', rfl⟩ := setV_some h2
  refine lc_read (Q := fun x H1 => gName i x σ H1 D.nx) htg (dE_of_dF ⟨G, ρ, a, ρ1, F, e1, fun G' H' v F' g' r => q G' H' _ (F'.setVal hl' r) g'.sg⟩ fun ρ d ρ' hh => ?_)
  obtain ⟨b, ρ2, z1, z2⟩ := eB_some hh
  cases z2
  exact ⟨b, rfl⟩
theorem d_lc (g : Good Φ Γ N sc sn k X) {pos : Pos} {elt tg iter : Expr} {ifs : List Expr} {scope : Scope} {own : List (Str × Nat)} {tgt : Tg} {fi : Ev (List D)} {fc fa : Ev D}
    (hpi : PI X tg iter (dI X.K e fi)) (ok : BlkOk N sc scope own) (hset : notSet iter = true)
    (hg : ∀ (s : Shared) (H : Hp) (C : Addr) (cl : List (Str × Addr)) (fp : List Addr), PG (X.blk s H scope (compEnvC scope cl C X.env) fp) tg (tgG X.K tgt))
    (ht : ∀ (s : Shared) (H : Hp) (C : Addr) (cl : List (Str × Addr)) (fp : List Addr), PTs (X.blk s H scope (compEnvC scope cl C X.env) fp) ifs (dT X.K e fc))
    (he : ∀ (s : Shared) (H : Hp) (C : Addr) (cl : List (Str × Addr)) (fp : List Addr), PE (X.blk s H scope (compEnvC scope cl C X.env) fp) elt (dE X.K e fa)) (htg : ∀ j ∈ tgIx tgt, j ∈ own.map (·.2)) :
    PE X (.ListComp elt [⟨tg, iter, ifs, 0⟩] scope pos) (dF X.K e (eB (lcRun (own.map (·.2)) tgt fi fc fa) fun ds => eP (.list ds))) :=
  pe_imp (pe_lc g.calm (by rw [g.hN]; exact g.nd) hpi (by rw [g.hN, g.hs]; exact ok) hg ht he (folded_of hset)) fun σ H Q q => lc_read htg q
/-- a tuple of names gets a tuple -/
theorem s_setT {tgx : Expr} {pos : Pos} {ex : Expr} {tg : Tg} {f : Ev D} (hg : PG X tgx (tgG X.K tg)) (h : PE X ex (dE X.K e f)) (hsw : swapsWithSole [tgx] ex pos.line X.env = pure false) (hst : swappedStores [tgx] ex X.env = pure none) (h1 : (assignEach [tgx] X.env).map (·.2) = [assign tgx X.env]) :
    PS X (.Assign [tgx] ex pos) (dS X.K e (sB f fun d ρ => nxO (bindT tg d ρ))) :=
  ps_imp (ps_asg h hg hsw hst h1) fun D σ H ⟨G, ρ, o, ρ', F, hf, q⟩ => by
    obtain ⟨a, ρ1, e1, h1⟩ := sB_some hf
    obtain ⟨rfl, h2⟩ := nxO_some h1
    exact ⟨G, ρ, a, ρ1, F, e1, fun G' H' v F' g' r => tg_ok F' r h2 fun σ1 F1 _ _ _ => q G' H' σ1 F1 g'.sg⟩
/-- a, b = x, y -/
theorem s_par2 (g : Good Φ Γ N sc sn k X) {i j : Nat} {x y : Str} {a b : Expr} {px py pt pos : Pos} {kt k2 : Nat} {pt2 : Pos} {fs : Ev (List D)} (hi : N[i]? = some x) (hj : N[j]? = some y) (hij : i ≠ j) (hx : sc.names.lookup x = some .local) (hy : sc.names.lookup y = some .local)
    (ha : PA X [a, b] (dL X.K e fs)) (hw : swappedStores [.Tuple [.Name x px, .Name y py] kt pt] (.Tuple [a, b] k2 pt2) X.env = pure (some [x, y])) :
    PS X (.Assign [.Tuple [.Name x px, .Name y py] kt pt] (.Tuple [a, b] k2 pt2) pos) (dS X.K e (sB fs fun ds ρ => nxO (setVs [i, j] ds ρ))) :=
  ps_imp (ps_par (i := i) (j := j) g.calm (by rw [g.hN]; exact g.nd) (by rw [g.hN]; exact hi) (by rw [g.hN]; exact hj) hij (by rw [g.hs]; exact hx) (by rw [g.hs]; exact hy) ha hw rfl) fun D σ H ⟨G, ρ, o, ρ', F, hf, q⟩ => by
    obtain ⟨ds, ρ1, e1, h1⟩ := sB_some hf
    obtain ⟨rfl, h2⟩ := nxO_some h1
    · skip
      refine ⟨G, ρ, ds, ρ1, F, e1, fun G' H' vs F' g' r => ?_⟩
      have hl := setVs_len h2
      match ds, vs, r, hl with
      | [d1, d2], [v1, v2], .cons r1 (.cons r2 .nil), _ =>
        refine ⟨v1, v2, rfl, ?_⟩
        have h2' : (setV i d1 ρ1).bind (fun ρ2 => (setV j d2 ρ2).bind (fun ρ3 => some ρ3)) = some ρ' := h2
        obtain ⟨ρ2, a1, h3⟩ := Option.bind_eq_some_iff.mp h2'
        obtain ⟨ρ3, a2, h4⟩ := Option.bind_eq_some_iff.mp h3
        cases h4
        obtain ⟨l1, rfl⟩ := setV_some a1
        obtain ⟨l2, rfl⟩ := setV_some a2
        exact q G' H' _ ((F'.setVal l1 r1).setVal l2 r2) g'.sg
theorem s_par3 (g : Good Φ Γ N sc sn k X) {i j l : Nat} {x y z : Str} {a b c : Expr} {px py pz pt pos : Pos} {kt k2 : Nat} {pt2 : Pos} {fs : Ev (List D)} (hi : N[i]? = some x) (hj : N[j]? = some y) (hl : N[l]? = some z) (hij : i ≠ j) (hil : i ≠ l) (hjl : j ≠ l)
    (hx : sc.names.lookup x = some .local) (hy : sc.names.lookup y = some .local) (hz : sc.names.lookup z = some .local)
    (ha : PA X [a, b, c] (dL X.K e fs)) (hw : swappedStores [.Tuple [.Name x px, .Name y py, .Name z pz] kt pt] (.Tuple [a, b, c] k2 pt2) X.env = pure (some [x, y, z])) :
    PS X (.Assign [.Tuple [.Name x px, .Name y py, .Name z pz] kt pt] (.Tuple [a, b, c] k2 pt2) pos) (dS X.K e (sB fs fun ds ρ => nxO (setVs [i, j, l] ds ρ))) :=
  ps_imp (ps_par3 (i := i) (j := j) (l := l) g.calm (by rw [g.hN]; exact g.nd) (by rw [g.hN]; exact hi) (by rw [g.hN]; exact hj) (by rw [g.hN]; exact hl) hij hil hjl (by rw [g.hs]; exact hx) (by rw [g.hs]; exact hy) (by rw [g.hs]; exact hz) ha hw rfl) fun D σ H ⟨G, ρ, o, ρ', F, hf, q⟩ => by
    obtain ⟨ds, ρ1, e1, h1⟩ := sB_some hf
    obtain ⟨rfl, h2⟩ := nxO_some h1
    · skip
      refine ⟨G, ρ, ds, ρ1, F, e1, fun G' H' vs F' g' r => ?_⟩
      have hl := setVs_len h2
      match ds, vs, r, hl with
      | [d1, d2, d3], [v1, v2, v3], .cons r1 (.cons r2 (.cons r3 .nil)), _ =>
        refine ⟨v1, v2, v3, rfl, ?_⟩
        have h2' : (setV i d1 ρ1).bind (fun ρ2 => (setV j d2 ρ2).bind (fun ρ3 => (setV l d3 ρ3).bind fun ρ4 => some ρ4)) = some ρ' := h2
        obtain ⟨ρ2, a1, h3⟩ := Option.bind_eq_some_iff.mp h2'
        obtain ⟨ρ3, a2, h4⟩ := Option.bind_eq_some_iff.mp h3
        obtain ⟨ρ4, a3, h5⟩ := Option.bind_eq_some_iff.mp h4
        cases h5
        obtain ⟨l1, rfl⟩ := setV_some a1
        obtain ⟨l2, rfl⟩ := setV_some a2
        obtain ⟨l3, rfl⟩ := setV_some a3
        exact q G' H' _ (((F'.setVal l1 r1).setVal l2 r2).setVal l3 r3) g'.sg
/-- a, b = [..], y: the first a new list of its own -/
theorem s_parO (g : Good Φ Γ N sc sn k X) {i j : Nat} {x y : Str} {a b : Expr} {px py pt pos : Pos} {kt k2 : Nat} {pt2 : Pos} {f1 f2 : Ev D} (hi : N[i]? = some x) (hj : N[j]? = some y) (hij : i ≠ j) (hx : sc.names.lookup x = some .local) (hy : sc.names.lookup y = some .local)
    (na : notStar a = true) (nb : notStar b = true) (ha : PE X a (dF X.K e f1)) (hb : PE X b (dE X.K e f2)) (hw : swappedStores [.Tuple [.Name x px, .Name y py] kt pt] (.Tuple [a, b] k2 pt2) X.env = pure (some [x, y])) :
    PS X (.Assign [.Tuple [.Name x px, .Name y py] kt pt] (.Tuple [a, b] k2 pt2) pos) (dS X.K e (sB f1 fun x => sB f2 fun y ρ => match x with
    | .list ds => (match setV j y ρ with
      | some ρ1 => nxO (setO i ds ρ1)
      | none => none)
    | _ => none)) :=
  ps_imp (ps_par (i := i) (j := j) g.calm (by rw [g.hN]; exact g.nd) (by rw [g.hN]; exact hi) (by rw [g.hN]; exact hj) hij (by rw [g.hs]; exact hx) (by rw [g.hs]; exact hy) (args2 ha hb na nb) hw rfl) fun D σ H ⟨G, ρ, o, ρ', F, hf, q⟩ => by
    obtain ⟨xv, ρ1, e1, h1⟩ := sB_some hf
    obtain ⟨yv, ρ2, e2, h2⟩ := sB_some h1
    cases xv <;> first | (cases h2; done) | skip
    rename_i ds
    simp only at h2
    cases e3 : setV j yv ρ2 with
    | none => rw [e3] at h2; cases h2
    | some ρ3 =>
      rw [e3] at h2
      obtain ⟨rfl, h4⟩ := nxO_some h2
      obtain ⟨lj, rfl⟩ := setV_some e3
      obtain ⟨li, rfl⟩ := setO_some h4
      refine ⟨G, ρ, ds, ρ1, F, e1, fun G1 H1 p vs F1 g1 n hp ng r => ⟨G1, ρ1, yv, ρ2, F1, e2, fun G2 H2 w F2 g2 r2 => ⟨.ref p, w, rfl, ?_⟩⟩⟩
      have no1 : ¬ Owned σ ρ1 p := (fresh_facts F g1 n).2
      have hp2 : H2 p = some (.lst vs) := g2.kp p _ hp no1
      have ng2 : G2 p = none := g2.un p (by rw [hp]; simp) ng no1
      have no2 : ¬ Owned σ ρ2 p := fun z => no1 (g2.ow p z)
      have no3 : ¬ Owned (σ.set j (some w)) (ρ2.set j (.val yv)) p := fun ⟨jj, xs, hh, ss⟩ => by
        obtain ⟨hj', hh'⟩ := hh.of_set lj fun ys => ⟨(fun z => by cases z), (fun z => by cases z)⟩
        rw [List.getElem?_set_ne (Ne.symm hj')] at ss
        exact no2 ⟨jj, xs, hh', ss⟩
      have := (F2.setVal lj r2).setOwn li (F.fresh n) no3 hp2 ng2 (r.up g2.sg)
      rw [List.set_comm _ _ (Ne.symm hij)] at this
      exact q G2 H2 _ this (g1.sg.trans g2.sg)
/-- a, b = x, [..]: the second -/
theorem s_parO2 (g : Good Φ Γ N sc sn k X) {i j : Nat} {x y : Str} {a b : Expr} {px py pt pos : Pos} {kt k2 : Nat} {pt2 : Pos} {f1 f2 : Ev D} (hi : N[i]? = some x) (hj : N[j]? = some y) (hij : i ≠ j) (hx : sc.names.lookup x = some .local) (hy : sc.names.lookup y = some .local)
    (na : notStar a = true) (nb : notStar b = true) (ha : PE X a (dE X.K e f1)) (hb : PE X b (dF X.K e f2)) (hw : swappedStores [.Tuple [.Name x px, .Name y py] kt pt] (.Tuple [a, b] k2 pt2) X.env = pure (some [x, y])) :
    PS X (.Assign [.Tuple [.Name x px, .Name y py] kt pt] (.Tuple [a, b] k2 pt2) pos) (dS X.K e (sB f1 fun x => sB f2 fun y ρ => match y with
    | .list ds => (match setO j ds ρ with
      | some ρ1 => nxO (setV i x ρ1)
      | none => none)
    | _ => none)) :=
  ps_imp (ps_par (i := i) (j := j) g.calm (by rw [g.hN]; exact g.nd) (by rw [g.hN]; exact hi) (by rw [g.hN]; exact hj) hij (by rw [g.hs]; exact hx) (by rw [g.hs]; exact hy) (args2 ha hb na nb) hw rfl) fun D σ H ⟨G, ρ, o, ρ', F, hf, q⟩ => by
    obtain ⟨xv, ρ1, e1, h1⟩ := sB_some hf
    obtain ⟨yv, ρ2, e2, h2⟩ := sB_some h1
    cases yv <;> first | (cases h2; done) | skip
    rename_i ds
    simp only at h2
    cases e3 : setO j ds ρ2 with
    | none => rw [e3] at h2; cases h2
    | some ρ3 =>
      rw [e3] at h2
      obtain ⟨rfl, h4⟩ := nxO_some h2
      obtain ⟨lj, rfl⟩ := setO_some e3
      obtain ⟨li, rfl⟩ := setV_some h4
      refine ⟨G, ρ, xv, ρ1, F, e1, fun G1 H1 v F1 g1 r => ⟨G1, ρ1, ds, ρ2, F1, e2, fun G2 H2 p vs F2 g2 n hp ng r2 => ⟨v, .ref p, rfl, ?_⟩⟩⟩
      have := (F2.setOwn lj (F1.fresh n) (fresh_facts F1 g2 n).2 hp ng r2).setVal li (r.up g2.sg)
      rw [List.set_comm _ _ (Ne.symm hij)] at this
      exact q G2 H2 _ this (g1.sg.trans g2.sg)
end

/-! Px9: held lists changed, for loops, a def's promise. -/
open PySem PySem.Spec PyProof.Rows

section
variable {K : PySem.W.Frag} {e : Ent} {G H : Hp} {σ : St} {ρ : Env}
theorem putHeld_back {i j : Nat} {xs : List D} {s : Sl} (h : (putHeld i xs ρ)[j]? = some s) : (∀ ys, s = .own ys → ∃ zs, ρ[j]? = some (.own zs)) ∧ (∀ ys, s = .par ys → ∃ zs, ρ[j]? = some (.par zs)) ∧ ((∀ ys, s ≠ .own ys) → (∀ ys, s ≠ .par ys) → ρ[j]? = some s) := by
  by_cases hj : j = i
  · subst hj
    unfold putHeld at h
    split at h
    · rename_i zs q
      rw [List.getElem?_set_self (List.getElem?_eq_some_iff.mp q).1] at h
      cases h
      exact ⟨fun ys _ => ⟨_, q⟩, (fun ys z => by cases z), fun n _ => absurd rfl (n _)⟩
    · rename_i zs q
      rw [List.getElem?_set_self (List.getElem?_eq_some_iff.mp q).1] at h
      cases h
      exact ⟨(fun ys z => by cases z), fun ys _ => ⟨_, q⟩, fun _ n => absurd rfl (n _)⟩
    · exact ⟨fun ys z => ⟨ys, by rw [← z]; exact h⟩, fun ys z => ⟨ys, by rw [← z]; exact h⟩, fun _ _ => h⟩
  · rw [putHeld_ne hj] at h
    exact ⟨fun ys z => ⟨ys, by rw [← z]; exact h⟩, fun ys z => ⟨ys, by rw [← z]; exact h⟩, fun _ _ => h⟩
theorem held_back {i j : Nat} {xs ys : List D} (h : Held (putHeld i xs ρ) j ys) : ∃ zs, Held ρ j zs := by
  rcases h with h | h
  · obtain ⟨zs, q⟩ := (putHeld_back h).1 _ rfl; exact ⟨zs, .inl q⟩
  · obtain ⟨zs, q⟩ := (putHeld_back h).2.1 _ rfl; exact ⟨zs, .inr q⟩
theorem Fr.put {i : Nat} {xs ys : List D} {a : Addr} {vs ws : List V} (F : Fr K e G H σ ρ) (hh : Held ρ i xs) (hs : σ[i]? = some (some (.ref a))) (hH : H a = some (.lst vs)) (hG : G a = none) (r : RA K G ws ys) : Fr K e G (upd H a (.lst ws)) σ (putHeld i ys ρ) := by
  refine ⟨⟨fun b x q => by rw [upd_ne fun z => by rw [z, hG] at q; cases q]; exact F.sg b x q, by rw [putHeld_len]; exact F.len, fun j d h => ?_, fun j zs h => ?_, fun j l b zs zs' h1 h2 => ?_, fun j ns h => ?_⟩, F.g0, F.un, fun b o q1 q2 => ?_, fun b q => ?_, fun j zs b h s => ?_, fun j zs h => ?_⟩
  · exact F.sl j d ((putHeld_back h).2.2 (fun _ z => by cases z) (fun _ z => by cases z))
  · by_cases hj : j = i
    · subst hj
      have lk := putHeld_at (i := j) (xs := ys) (ρ := ρ)
      have : zs = ys := by
        rcases hh with q | q
        · have z := lk.1 _ q
          rcases h with h | h <;> rw [z] at h <;> cases h; rfl
        · have z := lk.2 _ q
          rcases h with h | h <;> rw [z] at h <;> cases h; rfl
      subst this
      exact ⟨a, ws, hs, upd_same, hG, r⟩
    · unfold Held at h
      rw [putHeld_ne hj] at h
      obtain ⟨b, us, a1, a2, a3, a4⟩ := F.ow j zs h
      refine ⟨b, us, a1, ?_, a3, a4⟩
      rw [upd_ne fun z => hj (F.ds j i b zs xs h hh a1 (by rw [z]; exact hs))]
      exact a2
  · obtain ⟨y1, z1⟩ := held_back h1
    obtain ⟨y2, z2⟩ := held_back h2
    exact F.ds j l b y1 y2 z1 z2
  · exact F.sc j ns ((putHeld_back h).2.2 (fun _ z => by cases z) (fun _ z => by cases z))
  · rw [upd_ne fun z => ?_]
    · exact F.kp b o q1 q2
    · subst z
      rcases hh with hh | hh
      · rw [F.fr i xs b hh hs] at q1; cases q1
      · obtain ⟨p1, zs, p2⟩ := F.pa i xs hh
        exact q2 ⟨i, zs, .inr p2, by rw [← p1]; exact hs⟩
  · by_cases hb : b = a
    · subst hb; rw [upd_same]; simp
    · rw [upd_ne hb]; exact F.al b q
  · obtain ⟨ys', q⟩ := (putHeld_back h).1 _ rfl
    exact F.fr j ys' b q s
  · obtain ⟨ys', q⟩ := (putHeld_back h).2.1 _ rfl
    exact F.pa j ys' q
theorem chHeld_some {i : Nat} {g : List D → Option (List D)} {o : Out} {ρ' : Env} (h : chHeld i g ρ = some (o, ρ')) : ∃ xs ys, heldD i ρ = some xs ∧ g xs = some ys ∧ o = .nx ∧ ρ' = putHeld i ys ρ := by
  unfold chHeld at h
  cases e1 : (heldD i ρ).bind g with
  | none => rw [e1] at h; cases h
  | some ys =>
    rw [e1] at h
    cases h
    obtain ⟨xs, h1, h2⟩ := Option.bind_eq_some_iff.mp e1
    exact ⟨xs, ys, h1, h2, rfl, rfl⟩
end

section
variable {X : Cx} {e : Ent} {Φ : Phi} {Γ : Str → Option D} {N : List Str} {sc : Scope} {sn : Str → Bool} {k : Nat}
theorem assign_sub {o i : Expr} {pos : Pos} {env : PySem.Env} (h : notSlice i = true) : ∀ v, assign (.Subscript o i pos) env v = (do
      let ov ← holding [v] (eval o env)
      let iv ← holding [v, ov] (eval i env)
      standAt pos
      holding [v, ov, iv] (setItem ov iv v)
      release [v, ov, iv] []) := by
  intro v
  cases i <;> first | rfl | (simp [notSlice] at h)
theorem s_put (g : Good Φ Γ N sc sn k X) {i : Nat} {x : Str} {p p2 pos : Pos} {b ex : Expr} {f1 f2 : Ev D} (hi : N[i]? = some x) (hv : visB sc x = true) (hd : (x == ("__debug__" : Str)) = false) (hcd : (x == ("__classdict__" : Str)) = false) (hb : notSlice b = true) (hc : notComp ex = true)
    (h1 : PE X ex (dE X.K e f1)) (h2 : PE X b (dE X.K e f2)) : PS X (.Assign [.Subscript (.Name x p) b p2] ex pos) (dS X.K e (sB f1 fun v => sB (hasHeld i) fun _ => sB f2 fun n => chHeld i (putX n v))) :=
  ps_imp (ps_asg h1 (pg_sub (pe_var (i := i) (by rw [g.hN]; exact hi) (by rw [g.hs]; exact vis_of hv) hd hcd) h2 set_list (assign_sub hb)) (by cases ex <;> first | rfl | (simp [notComp] at hc)) rfl rfl) fun D σ H ⟨G, ρ, o, ρ', F, hf, q⟩ => by
    obtain ⟨v, ρ1, e1, hf⟩ := sB_some hf
    obtain ⟨u, ρ2, e2, hf⟩ := sB_some hf
    obtain ⟨rfl, xs0, hh0⟩ := hasHeld_some e2
    obtain ⟨n, ρ3, e3, hf⟩ := sB_some hf
    obtain ⟨xs, ys, h4, h5, rfl, rfl⟩ := chHeld_some hf
    refine ⟨G, ρ, v, ρ1, F, e1, fun G1 H1 vv F1 g1 r1 => ?_⟩
    obtain ⟨a, vs0, a1, _⟩ := F1.ow i xs0 (heldD_some hh0)
    refine ⟨.ref a, a1, G1, ρ1, n, ρ3, F1, e3, fun G2 H2 nv F2 g2 r2 => ?_⟩
    obtain ⟨a', vs, b1, b2, b3, b4⟩ := F2.ow i xs (heldD_some h4)
    rw [a1] at b1
    cases b1
    unfold putX at h5
    cases n <;> first | (cases h5; done) | skip
    rename_i m
    simp only at h5
    cases ej : ixN xs.length m with
    | none => rw [ej] at h5; cases h5
    | some j =>
      rw [ej] at h5
      cases h5
      refine ⟨a, vs, m, j, rfl, r2.int_inv, b2, by rw [b4.length]; exact ej, ?_⟩
      exact q G2 _ σ (F2.put (heldD_some h4) a1 b2 b3 (RA.set (r1.up g2.sg) j b4)) (g1.sg.trans g2.sg)
/-- x.append(e) -/
theorem s_app (g : Good Φ Γ N sc sn k X) {i : Nat} {x : Str} {p ap cp pos : Pos} {ex : Expr} {f : Ev D} (hi : N[i]? = some x) (hv : visB sc x = true) (hd : (x == ("__debug__" : Str)) = false) (hcd : (x == ("__classdict__" : Str)) = false) (hs : notStar ex = true) (hl : (ap.endLine == cp.line) = true) (h : PE X ex (dE X.K e f)) :
    PS X (.Expr (.Call (.Attribute (.Name x p) "append" ap) [ex] [] cp) pos) (dS X.K e (sB (hasHeld i) fun _ => sB f fun v => chHeld i (appX v))) :=
  ps_imp (ps_expr (pe_bm PySem.F.plainAttrs_list PySem.F.slot_list_append PySem.F.type_list_append mt_append (pe_var (i := i) (by rw [g.hN]; exact hi) (by rw [g.hs]; exact vis_of hv) hd hcd) (args1 h hs) rfl (by rw [starEach_of hs]; rfl) hl (starEach_of hs) rfl) rfl) fun D σ H ⟨G, ρ, o, ρ', F, hf, q⟩ => by
    obtain ⟨u, ρ2, e2, hf⟩ := sB_some hf
    obtain ⟨rfl, xs0, hh0⟩ := hasHeld_some e2
    obtain ⟨v, ρ3, e3, hf⟩ := sB_some hf
    obtain ⟨xs, ys, h4, h5, rfl, rfl⟩ := chHeld_some hf
    obtain ⟨a, vs0, a1, a2, _⟩ := F.ow i xs0 (heldD_some hh0)
    refine ⟨.ref a, a1, .inl ⟨rfl, vs0, .inl (.inl a2)⟩, G, ρ, v, ρ3, F, e3, fun G2 H2 nv F2 g2 r2 => ?_⟩
    obtain ⟨a', vs, b1, b2, b3, b4⟩ := F2.ow i xs (heldD_some h4)
    rw [a1] at b1
    cases b1
    unfold appX at h5
    split at h5
    · rename_i hlt
      cases h5
      exact ⟨a, vs, nv, rfl, rfl, b2, by rw [b4.length]; exact hlt, q G2 _ σ (F2.put (heldD_some h4) a1 b2 b3 (b4.append (.cons r2 .nil))) g2.sg⟩
    · cases h5
/-- x.pop(k), dropped -/
theorem s_pop (g : Good Φ Γ N sc sn k X) {i : Nat} {x : Str} {p ap cp pos : Pos} {ex : Expr} {f : Ev D} (hi : N[i]? = some x) (hv : visB sc x = true) (hd : (x == ("__debug__" : Str)) = false) (hcd : (x == ("__classdict__" : Str)) = false) (hs : notStar ex = true) (hl : (ap.endLine == cp.line) = true) (h : PE X ex (dE X.K e f)) :
    PS X (.Expr (.Call (.Attribute (.Name x p) "pop" ap) [ex] [] cp) pos) (dS X.K e (sB (hasHeld i) fun _ => sB f fun v => chHeld i (popX v))) :=
  ps_imp (ps_expr (pe_bm PySem.F.plainAttrs_list PySem.F.slot_list_pop PySem.F.type_list_pop mt_popAt (pe_var (i := i) (by rw [g.hN]; exact hi) (by rw [g.hs]; exact vis_of hv) hd hcd) (args1 h hs) rfl (by rw [starEach_of hs]; rfl) hl (starEach_of hs) rfl) rfl) fun D σ H ⟨G, ρ, o, ρ', F, hf, q⟩ => by
    obtain ⟨u, ρ2, e2, hf⟩ := sB_some hf
    obtain ⟨rfl, xs0, hh0⟩ := hasHeld_some e2
    obtain ⟨v, ρ3, e3, hf⟩ := sB_some hf
    obtain ⟨xs, ys, h4, h5, rfl, rfl⟩ := chHeld_some hf
    obtain ⟨a, vs0, a1, a2, _⟩ := F.ow i xs0 (heldD_some hh0)
    refine ⟨.ref a, a1, .inl ⟨rfl, vs0, .inl (.inl a2)⟩, G, ρ, v, ρ3, F, e3, fun G2 H2 nv F2 g2 r2 => ?_⟩
    obtain ⟨a', vs, b1, b2, b3, b4⟩ := F2.ow i xs (heldD_some h4)
    rw [a1] at b1
    cases b1
    unfold popX at h5
    cases v <;> first | (cases h5; done) | skip
    rename_i m
    simp only at h5
    split at h5
    · rename_i hok
      cases ej : ixN xs.length m with
      | none => rw [ej] at h5; cases h5
      | some j =>
        rw [ej] at h5
        cases h5
        obtain ⟨s1, s2, s3, s4⟩ := ixN_seq ej
        have hl : xs.length ≤ sizeLine := of_decide_eq_true hok
        have hz := sizeLine_eq
        have hjl : j < vs.length := by rw [b4.length]; exact s2
        refine ⟨a, vs, m, j, vs[j], rfl, by rw [r2.int_inv], b2, by omega, by omega, by rw [b4.length]; exact s1, List.getElem?_eq_getElem hjl, ?_⟩
        exact q G2 _ σ (F2.put (heldD_some h4) a1 b2 b3 (b4.erase j)) g2.sg
    · cases h5
/-- x.insert(k, e) -/
theorem s_ins (g : Good Φ Γ N sc sn k X) {i : Nat} {x : Str} {p ap cp pos : Pos} {kx ex : Expr} {f1 f2 : Ev D} (hi : N[i]? = some x) (hv : visB sc x = true) (hd : (x == ("__debug__" : Str)) = false) (hcd : (x == ("__classdict__" : Str)) = false) (hs1 : notStar kx = true) (hs : notStar ex = true) (hl : (ap.endLine == cp.line) = true)
    (h1 : PE X kx (dE X.K e f1)) (h : PE X ex (dE X.K e f2)) :
    PS X (.Expr (.Call (.Attribute (.Name x p) "insert" ap) [kx, ex] [] cp) pos) (dS X.K e (sB (hasHeld i) fun _ => sB f1 fun n => sB f2 fun v => chHeld i (insX n v))) :=
  ps_imp (ps_expr (pe_bm PySem.F.plainAttrs_list PySem.F.slot_list_insert PySem.F.type_list_insert mt_insert (pe_var (i := i) (by rw [g.hN]; exact hi) (by rw [g.hs]; exact vis_of hv) hd hcd) (args2 h1 h hs1 hs) rfl (by rw [starEach_of hs1, starEach_of hs]; rfl) hl (starEach_of hs1) (by rw [starEach_of hs]; rfl)) rfl) fun D σ H ⟨G, ρ, o, ρ', F, hf, q⟩ => by
    obtain ⟨u, ρ2, e2, hf⟩ := sB_some hf
    obtain ⟨rfl, xs0, hh0⟩ := hasHeld_some e2
    obtain ⟨n, ρ4, e4, hf⟩ := sB_some hf
    obtain ⟨v, ρ3, e3, hf⟩ := sB_some hf
    obtain ⟨xs, ys, h4, h5, rfl, rfl⟩ := chHeld_some hf
    obtain ⟨a, vs0, a1, a2, _⟩ := F.ow i xs0 (heldD_some hh0)
    refine ⟨.ref a, a1, .inl ⟨rfl, vs0, .inl (.inl a2)⟩, G, ρ, n, ρ4, F, e4, fun G1 H1 mv F1 g1 r1 => ⟨G1, ρ4, v, ρ3, F1, e3, fun G2 H2 nv F2 g2 r2 => ?_⟩⟩
    obtain ⟨a', vs, b1, b2, b3, b4⟩ := F2.ow i xs (heldD_some h4)
    rw [a1] at b1
    cases b1
    obtain ⟨m, rfl⟩ : ∃ m, n = .int m := by cases n <;> first | exact ⟨_, rfl⟩ | cases h5
    unfold insX at h5
    simp only at h5
    split at h5
    · rename_i hok
      cases h5
      exact ⟨a, vs, m, nv, rfl, by rw [r1.int_inv], b2, by rw [b4.length]; exact hok.2.2, hok.1, hok.2.1, q G2 _ σ (F2.put (heldD_some h4) a1 b2 b3 (((b4.take _).append (.cons r2 .nil)).append (b4.drop _))) (g1.sg.trans g2.sg)⟩
    · cases h5

/-! ### for -/
theorem s_for (g : Good Φ Γ N sc sn k X) {tg iter : Expr} {body : List Stmt} {pos : Pos} {tgt : Tg} {fi : Ev (List D)} {fb : Sv} (hi : PI X tg iter (dI X.K e fi)) (hg : PG X tg (tgG X.K tgt)) (hb : PSs X body (dS X.K e fb)) (hset : notSet iter = true) :
    PS X (.For tg iter body [] pos) (dS X.K e (sB fi fun ds => forLoop tgt fb ds)) :=
  ps_imp (ps_for g.never g.calm hi hg hb (folded_of hset)) fun D σ H ⟨G, ρ, o, ρe, F, hf, q⟩ => by
    obtain ⟨ds, ρ1, e1, h1⟩ := sB_some hf
    refine ⟨G, ρ, ds, ρ1, F, e1, fun G1 H1 J F1 g1 ⟨P, Y, w, hp, hy⟩ => ?_⟩
    have fin : ∀ {G2 : Hp}, Same G1 G2 → match o with
        | .nx => ∀ G' H' σ', Fr X.K e G' H' σ' ρe → Same G2 G' → D.nx σ' H'
        | .ret d => ∀ G' H' σ' v, Fr X.K e G' H' σ' ρe → Same G2 G' → R X.K G' v d → D.rt v H' := fun {G2} s2 => by
      cases o with
      | nx => exact fun G' H' σ' F' s' => q G' H' σ' F' ((g1.sg.trans s2).trans s')
      | ret d => exact fun G' H' σ' v F' s' r => q G' H' σ' v F' ((g1.sg.trans s2).trans s') r
    refine for_it w (fun i σ' H' => ∃ G2 ρ2, Fr X.K e G2 H' σ' ρ2 ∧ Same G1 G2 ∧ forLoop tgt fb (ds.drop i) ρ2 = some (o, ρe)) ⟨G1, ρ1, F1, Same.refl _, h1⟩ (fun i σ' H' _ ⟨G2, ρ2, F2, s2, _⟩ => hp H' (s2.trans F2.sg)) (fun i x σ' H2 H3 hi ⟨G2, ρ2, F2, s2, hl⟩ y => ?_) fun σ' H' ⟨G2, ρ2, F2, s2, hl⟩ => ?_
    · obtain ⟨d, hd, hex⟩ := hy i H2 x H3 hi (s2.trans F2.sg) y
      obtain ⟨G3, ext, rx⟩ := hex G2 s2 F2.sg
      have hdrop : ds.drop i = d :: ds.drop (i + 1) := by
        rw [List.drop_eq_getElem_cons hi]
        rw [List.getElem?_eq_getElem hi] at hd
        cases hd; rfl
      rw [hdrop] at hl
      unfold forLoop at hl
      cases hbt : bindT tgt d ρ2 with
      | none => rw [hbt] at hl; cases hl
      | some ρ3 =>
        rw [hbt] at hl
        simp only at hl
        refine tg_ok (F2.ext ext) rx hbt fun σ3 F3 _ _ _ => ?_
        cases hfb : fb ρ3 with
        | none => rw [hfb] at hl; cases hl
        | some p =>
          obtain ⟨o2, ρ4⟩ := p
          rw [hfb] at hl
          cases o2 with
          | nx =>
            exact ⟨G3, ρ3, .nx, ρ4, F3, hfb, fun G4 H4 σ4 F4 s4 => ⟨G4, ρ4, F4, (s2.trans ext.sg).trans s4, hl⟩⟩
          | ret d2 =>
            cases hl
            exact ⟨G3, ρ3, .ret d2, ρe, F3, hfb, fin (s2.trans ext.sg)⟩
    · rw [List.drop_length] at hl
      unfold forLoop at hl
      cases hl
      exact fin s2 G2 H' σ' F2 (Same.refl _)
end

/-! ### a def -/
/-- what a def's body is run among -/
structure Glob (Φ : Phi) (Γ : Str → Option D) (k : Nat) (P : Program) (w : World) (K : PySem.W.Frag) (mg : Str → Option Value) (base : Heap) : Prop where
  fns : ∀ f F, Φ f = some F → ∃ fa fd ps, mg f = some (.ref fa) ∧ PySem.W.keepIn K (.ref fa) = true ∧ Binds K fd ps [] ∧ FnOk P w K mg base CX0 k fa fd ps (spF K F) ∧ f ≠ "__debug__"
  blt : ∀ b, b ∈ (["len", "list", "tuple", "int", "sum", "any", "all", "max", "min", "isinstance", "range", "zip", "enumerate", "sorted", "set", "str", "bool"] : List Str) → mg b = none
  gl : ∀ x d, Γ x = some d → ∃ v u, mg x = some u ∧ RelV v u ∧ (∀ G, R K G v d) ∧ x ≠ "__debug__"
theorem Glob.mono {Φ : Phi} {Γ : Str → Option D} {j k : Nat} {P : Program} {w : World} {K : PySem.W.Frag} {mg : Str → Option Value} {base : Heap} (h : Glob Φ Γ j P w K mg base) (hk : j ≤ k) : Glob Φ Γ k P w K mg base :=
  ⟨fun f F q => let ⟨fa, fd, ps, a, b, c, d, x⟩ := h.fns f F q; ⟨fa, fd, ps, a, b, c, d.mono hk, x⟩, h.blt, h.gl⟩
def snF (sc : Scope) (x : Str) : Bool := decide (sc.names.lookup x = some .local) || decide (sc.names.lookup x = some .cell)
/-- a body's reading, wherever it runs -/
def BodyOk (Φ : Phi) (Γ : Str → Option D) (N : List Str) (sc : Scope) (body : List Stmt) (fb : Sv) : Prop := ∀ (k : Nat) (X : Cx) (e : Ent), Good Φ Γ N sc (snF sc) k X → PSs X body (dS X.K e fb)
theorem outs_get : ∀ {args : List Sl} {ρ : Env} {out : List Sl}, outs args ρ = some out → args.length ≤ ρ.length ∧ out.length = args.length ∧ ∀ i : Nat, (∀ d, args[i]? = some (.val d) → out[i]? = some (.val d)) ∧ (∀ ns, args[i]? = some (.scr ns) → out[i]? = some (.scr ns)) ∧
    (∀ xs, args[i]? = some (.par xs) → ∃ ys, ρ[i]? = some (.par ys) ∧ out[i]? = some (.par ys)) ∧ (∀ s, out[i]? = some s → ∃ t, args[i]? = some t ∧ (t = .non → False) ∧ (∀ xs, t = .own xs → False))
  | [], _, _, h => by cases h; exact ⟨by simp, rfl, fun i => ⟨fun _ h => by simp at h, fun _ h => by simp at h, fun _ h => by simp at h, fun _ h => by simp at h⟩⟩
  | s :: r, [], _, h => by cases s <;> cases h
  | .non :: r, _ :: _, _, h => by cases h
  | .own _ :: r, _ :: _, _, h => by cases h
  | .val d :: r, s :: ρ, out, h => by
    have h' : (outs r ρ).map (.val d :: ·) = some out := h
    cases e : outs r ρ with
    | none => rw [e] at h'; cases h'
    | some o =>
      rw [e] at h'
      cases h'
      obtain ⟨h1, h2, h3⟩ := outs_get e
      refine ⟨by simp; omega, by simp [h2], fun i => ?_⟩
      cases i with
      | zero => exact ⟨fun _ h => by simpa using h, fun _ h => by simp at h, fun _ h => by simp at h, fun s _ => ⟨.val d, rfl, (fun z => by cases z), (fun _ z => by cases z)⟩⟩
      | succ i => simpa using h3 i
  | .scr d :: r, s :: ρ, out, h => by
    have h' : (outs r ρ).map (.scr d :: ·) = some out := h
    cases e : outs r ρ with
    | none => rw [e] at h'; cases h'
    | some o =>
      rw [e] at h'
      cases h'
      obtain ⟨h1, h2, h3⟩ := outs_get e
      refine ⟨by simp; omega, by simp [h2], fun i => ?_⟩
      cases i with
      | zero => exact ⟨fun _ h => by simp at h, fun _ h => by simpa using h, fun _ h => by simp at h, fun s _ => ⟨.scr d, rfl, (fun z => by cases z), (fun _ z => by cases z)⟩⟩
      | succ i => simpa using h3 i
  | .par d :: r, .par ys :: ρ, out, h => by
    have h' : (outs r ρ).map (.par ys :: ·) = some out := h
    cases e : outs r ρ with
    | none => rw [e] at h'; cases h'
    | some o =>
      rw [e] at h'
      cases h'
      obtain ⟨h1, h2, h3⟩ := outs_get e
      refine ⟨by simp; omega, by simp [h2], fun i => ?_⟩
      cases i with
      | zero => exact ⟨fun _ h => by simp at h, fun _ h => by simp at h, fun _ h => ⟨ys, rfl, rfl⟩, fun s _ => ⟨.par d, rfl, (fun z => by cases z), (fun _ z => by cases z)⟩⟩
      | succ i => simpa using h3 i
  | .par d :: r, .non :: ρ, out, h => by cases h
  | .par d :: r, .val _ :: ρ, out, h => by cases h
  | .par d :: r, .own _ :: ρ, out, h => by cases h
  | .par d :: r, .scr _ :: ρ, out, h => by cases h
theorem outs_parB {args : List Sl} {ρ : Env} {out : List Sl} (h : outs args ρ = some out) {i : Nat} {s : Sl} (hs : out[i]? = some s) : (∃ d, s = .val d ∧ args[i]? = some (.val d)) ∨ (∃ ns, s = .scr ns ∧ args[i]? = some (.scr ns)) ∨ ∃ xs ys, s = .par ys ∧ args[i]? = some (.par xs) ∧ ρ[i]? = some (.par ys) := by
  obtain ⟨_, _, q⟩ := outs_get h
  obtain ⟨t, h1, h2, h3⟩ := (q i).2.2.2 s hs
  cases t with
  | non => exact (h2 rfl).elim
  | own xs => exact (h3 xs rfl).elim
  | val d => have := (q i).1 d h1; rw [this] at hs; cases hs; exact .inl ⟨d, rfl, h1⟩
  | scr d => have := (q i).2.1 d h1; rw [this] at hs; cases hs; exact .inr (.inl ⟨d, rfl, h1⟩)
  | par d =>
    obtain ⟨ys, z1, z2⟩ := (q i).2.2.1 d h1
    rw [z2] at hs; cases hs; exact .inr (.inr ⟨d, ys, rfl, h1, z1⟩)
section
variable {P : Program} {w : World} {K : PySem.W.Frag} {mg : Str → Option Value} {base : Heap} {Φ : Phi} {Γ : Str → Option D}
theorem fn_ok {k : Nat} {x qual : Str} {params : Arguments} {body : List Stmt} {scope : Scope} {f : Addr} {fd : FuncData} {N ps : List Str} {fb : Sv} (Gg : Glob Φ Γ k P w K mg base) (F : FunD K x qual params body scope [] [] f fd) (S : FnScope N ps scope) (hb : BodyOk Φ Γ N scope body fb) :
    FnOk P w K mg base CX0 (k + 1) f fd ps (spF K (runS ps.length N.length fb)) := by
  have hrun : ∀ {args : List Sl} {d : D} {out : List Sl}, runS ps.length N.length fb args = some (d, out) → args.length = ps.length ∧ ∃ o ρ, fb (args ++ List.replicate (N.length - ps.length) .non) = some (o, ρ) ∧ outs args ρ = some out ∧ d = (match o with | .ret d => d | .nx => .none) := fun {args d out} h => by
    unfold runS at h
    split at h
    · rename_i hl
      refine ⟨hl, ?_⟩
      cases e1 : fb (args ++ List.replicate (N.length - ps.length) .non) with
      | none => rw [e1] at h; cases h
      | some p =>
        obtain ⟨o, ρ⟩ := p
        rw [e1] at h
        simp only at h
        cases e2 : outs args ρ with
        | none => rw [e2] at h; cases h
        | some a =>
          rw [e2] at h
          cases h
          exact ⟨o, ρ, rfl, e2, rfl⟩
    · cases h
  refine FunD.ok F S (fun vs H Q E ⟨G, args, d, out, rel, hF, _⟩ => ?_) fun cdv A outer s H vs Q E hr ⟨G, args, d, out, rel, hF, no, q⟩ => ?_
  · have := rel.len
    rw [List.length_map] at this
    rw [this]; exact (hrun hF).1
  · obtain ⟨hl, o, ρe, h1, h2, h3⟩ := hrun hF
    have hpl : ps.length ≤ N.length := by have := congrArg List.length S.pre; rw [List.length_take] at this; omega
    have hvl : vs.length = args.length := by have := rel.len; rw [List.length_map] at this; exact this
    have good : Good Φ Γ N scope (snF scope) k (cxOf CX0 P w K mg base N qual scope f cdv A outer s H E).nox :=
      ⟨rfl, S.nd, rfl, rfl, hr, rfl, Gg.fns, Gg.blt, Gg.gl, fun y hy => ⟨by
        unfold snF at hy
        have hy' : scope.names.lookup y = some .local ∨ scope.names.lookup y = some .cell := by simpa using hy
        exact hy', .inl rfl⟩⟩
    have h0 := hb k _ ⟨G, H, start N vs, args ++ List.replicate (N.length - ps.length) .non⟩ good
    refine ⟨_, PSs.nox h0, ?_⟩
    have stg : ∀ {i : Nat} {v : V}, (vs.map some)[i]? = some (some v) → (start N vs)[i]? = some (some v) := fun {i v} h => by
      unfold start
      have hi := (List.getElem?_eq_some_iff.mp h).1
      rw [List.getElem?_append_left hi]; exact h
    have stb : ∀ {i : Nat} {v : V}, (start N vs)[i]? = some (some v) → (vs.map some)[i]? = some (some v) := fun {i v} h => by
      unfold start at h
      by_cases hi : i < (vs.map some).length
      · rw [List.getElem?_append_left hi] at h; exact h
      · rw [List.getElem?_append_right (by omega), List.getElem?_replicate] at h
        split at h <;> cases h
    have arg : ∀ {i : Nat} {t : Sl}, (args ++ List.replicate (N.length - ps.length) Sl.non)[i]? = some t → t ≠ .non → args[i]? = some t := fun {i t} h n => by
      by_cases hi : i < args.length
      · rw [List.getElem?_append_left hi] at h; exact h
      · rw [List.getElem?_append_right (by omega), List.getElem?_replicate] at h
        split at h
        · cases h; exact absurd rfl n
        · cases h
    have argI : ∀ {i : Nat} {t : Sl}, args[i]? = some t → (args ++ List.replicate (N.length - ps.length) Sl.non)[i]? = some t := fun {i t} h => by
      rw [List.getElem?_append_left (List.getElem?_eq_some_iff.mp h).1]; exact h
    have heldA : ∀ {i : Nat} {xs : List D}, Held (args ++ List.replicate (N.length - ps.length) Sl.non) i xs → Held args i xs := fun {i xs} h => h.imp (fun z => arg z (fun z => by cases z)) fun z => arg z (fun z => by cases z)
    have own : ∀ b, Owned (start N vs) (args ++ List.replicate (N.length - ps.length) Sl.non) b ↔ Owned (vs.map some) args b := fun b =>
      ⟨fun ⟨i, xs, h, s⟩ => ⟨i, xs, heldA h, stb s⟩, fun ⟨i, xs, h, s⟩ => ⟨i, xs, h.imp argI argI, stg s⟩⟩
    have F0 : Fr K ⟨G, H, start N vs, args ++ List.replicate (N.length - ps.length) .non⟩ G H (start N vs) (args ++ List.replicate (N.length - ps.length) .non) := by
      refine ⟨⟨rel.sg, ?_, fun i d h => ?_, fun i xs h => ?_, fun i j a xs ys g1 g2 s1 s2 => rel.ds i j a xs ys (heldA g1) (heldA g2) (stb s1) (stb s2), fun i ns h => ?_⟩, Same.refl _, fun _ _ h => h, fun _ _ h _ => h, fun _ h => h, fun i xs a h _ => absurd (arg h (fun z => by cases z)) (no i xs), fun i xs h => ⟨rfl, xs, h⟩⟩
      · unfold start; simp [hvl, hl]
      · obtain ⟨v, a1, a2⟩ := rel.sl i d (arg h (fun z => by cases z))
        exact ⟨v, stg a1, a2⟩
      · obtain ⟨a, ws, a1, a2⟩ := rel.ow i xs (heldA h)
        exact ⟨a, ws, stg a1, a2⟩
      · obtain ⟨a, a1, a2⟩ := rel.sc i ns (arg h (fun z => by cases z))
        exact ⟨a, stg a1, a2⟩
    have fin : ∀ G' H' σ' v, Fr K ⟨G, H, start N vs, args ++ List.replicate (N.length - ps.length) .non⟩ G' H' σ' ρe → R K G' v d → Q v H' := fun G' H' σ' v F' r => by
      refine q G' H' v F'.g0 F'.un (fun b o z1 z2 => F'.kp b o z1 fun z => z2 ((own b).mp z)) F'.al r ⟨F'.sg, ?_, fun i d h => ?_, fun i xs h => ?_, fun i j a xs ys g1 g2 s1 s2 => ?_, fun i ns h => ?_⟩
      · have := (outs_get h2).2.1; rw [List.length_map]; omega
      · rcases outs_parB h2 h with ⟨d', ed, ha⟩ | ⟨_, ed, _⟩ | ⟨_, _, ed, _⟩ <;> cases ed
        obtain ⟨v', a1, a2⟩ := rel.sl i d ha
        exact ⟨v', a1, a2.up F'.g0⟩
      · rcases h with h | h
        · rcases outs_parB h2 h with ⟨d', ed, ha⟩ | ⟨_, ed, _⟩ | ⟨_, _, ed, _⟩ <;> cases ed
        · rcases outs_parB h2 h with ⟨d', ed, ha⟩ | ⟨_, ed, _⟩ | ⟨xs', ys, ed, ha, hρ⟩ <;> cases ed
          obtain ⟨a, ws, a1, a2⟩ := F'.ow i xs (.inr hρ)
          obtain ⟨p1, _⟩ := F'.pa i xs hρ
          rw [p1] at a1
          exact ⟨a, ws, stb a1, a2⟩
      · have key : ∀ {i : Nat} {xs : List D}, Held out i xs → ∃ ys, Held args i ys := fun {i xs} h => by
          rcases h with h | h
          · rcases outs_parB h2 h with ⟨d', ed, ha⟩ | ⟨_, ed, _⟩ | ⟨_, _, ed, _⟩ <;> cases ed
          · rcases outs_parB h2 h with ⟨d', ed, ha⟩ | ⟨_, ed, _⟩ | ⟨xs', ys, ed, ha, hρ⟩ <;> cases ed
            exact ⟨xs', .inr ha⟩
        obtain ⟨y1, z1⟩ := key g1
        obtain ⟨y2, z2⟩ := key g2
        exact rel.ds i j a y1 y2 z1 z2 s1 s2
      · rcases outs_parB h2 h with ⟨d', ed, ha⟩ | ⟨_, ed, ha⟩ | ⟨_, _, ed, _⟩ <;> cases ed
        obtain ⟨a, a1, a2⟩ := rel.sc i ns ha
        exact ⟨a, a1, F'.g0.seq a2⟩
    refine ⟨G, _, o, ρe, F0, h1, ?_⟩
    cases o with
    | nx =>
      cases h3
      exact fun G' H' σ' F' _ => fin G' H' σ' .non F' .non
    | ret d' =>
      cases h3
      exact fun G' H' σ' v F' _ r => fin G' H' σ' v F' r
end

/-! Px10: the last rules. -/
open PySem PySem.Spec PyProof.Rows
section
variable {K : PySem.W.Frag}
def rMulD (K : PySem.W.Frag) : R2 := fun x y H Q => (rI CMul fun i j => .int (i * j)) x y H Q ∨ rRep x y H Q ∨ rRepTA K x y H Q
theorem op_mulD {X : Cx} : OpR X (binaryOp .Mult) (rMulD X.K) := op_mul.or (op_rep.or op_repTA)
theorem o2_mul : Op2 K (rMulD K) (opD .Mult) := by
  intro G H x y a b d Q hs ra rb hd f
  cases a <;> cases b <;> simp only [opD, reduceCtorEq] at hd
  · split at hd
    · rename_i h
      cases hd
      exact .inl ⟨_, _, ra.int_inv, rb.int_inv, mulOk_of h, f.same hs (.int _)⟩
    · cases hd
  · split at hd
    · rename_i h
      cases hd
      obtain ⟨p, vs, rfl, hp, rv⟩ := ra.lst_inv
      exact .inr (.inl ⟨p, _, vs, rfl, rb.int_inv, hs _ _ hp, h.1, h.2.1, by rw [rv.length]; exact h.2.2, fun q n => f.new_lst hs n (rv.flat _)⟩)
    · cases hd
  · split at hd
    · rename_i xs k h
      cases hd
      obtain ⟨p, vs, rfl, hp, rv⟩ := ra.tup_inv
      refine .inr (.inr ⟨p, _, vs, rfl, rb.int_inv, sqT_of hs hp, h.1, h.2.1, by rw [rv.length]; exact h.2.2, fun hz => ?_, fun _ _ q n => f.new_tup hs n (rv.flat _)⟩)
      refine f.same hs (.tup hp ?_)
      rcases hz with hz | hz
      · subst hz
        cases rv
        have : (List.replicate k.toNat ([] : List D)).flatten = [] := by simp
        rw [this]; exact .nil
      · subst hz
        have : (List.replicate (1 : Int).toNat xs).flatten = xs := by
          show (List.replicate 1 xs).flatten = xs
          simp
        rw [this]; exact rv
    · cases hd
theorem RA.stp {G : Hp} {vs : List V} {ds : List D} (k : Nat) (r : RA K G vs ds) : RA K G (stepL k vs) (stepL k ds) := by
  rw [stepL_ix, stepL_ix, r.length]
  have key : ∀ (ix : List Nat), RA K G (ix.filterMap fun m => vs[m]?) (ix.filterMap fun m => ds[m]?) := fun ix => by
    induction ix with
    | nil => exact .nil
    | cons i ix ih =>
      rw [List.filterMap_cons, List.filterMap_cons]
      cases e : ds[i]? with
      | none =>
        have : vs[i]? = none := by
          rw [List.getElem?_eq_none_iff] at e ⊢
          rw [r.length]; exact e
        rw [this]
        exact ih
      | some d =>
        obtain ⟨v, h1, h2⟩ := r.get e
        rw [h1]
        exact .cons h2 ih
  exact key _
theorem o1_stp {g : ∀ {α : Type}, List α → List α} {st : Int} (hg : ∀ {G : Hp} {vs : List V} {ds : List D}, RA K G vs ds → RA K G (g vs) (g ds)) :
    Op1 K (rStp K st (fun xs => g xs)) (fun d => match d with
    | .list xs => some (.list (g xs))
    | .tuple xs => some (.tuple (g xs))
    | _ => none) := by
  intro G H x a d Q hs r hd f
  cases a <;> simp only [reduceCtorEq] at hd
  · cases hd
    obtain ⟨p, vs, rfl, hp, rv⟩ := r.lst_inv
    exact .inl ⟨p, vs, rfl, sqL_of hs hp, fun q n => f.new_lst hs n (hg rv)⟩
  · cases hd
    obtain ⟨p, vs, rfl, hp, rv⟩ := r.tup_inv
    refine .inr ⟨p, vs, rfl, sqT_of hs hp, fun e => f.same hs (.tup hp ?_), fun q n => f.new_tup hs n (hg rv)⟩
    have h1 := hg rv
    have e' : g vs = vs := e
    rw [e'] at h1
    exact h1
variable {X : Cx} {e : Ent} {Φ : Phi} {Γ : Str → Option D} {N : List Str} {sc : Scope} {sn : Str → Bool} {k : Nat}
theorem d_rev {ex : Expr} {f : Ev D} {j : Nat} {p1 p2 p3 pos : Pos} (he : PE X ex (dE X.K e f)) : PE X (.Subscript ex (.Slice none none (some (.UnaryOp .USub (.Constant (.int 1) j p1) p2)) p3) pos) (dE X.K e (v1 revD f)) := by
  refine pe_imp (pe_stp he (po_some (pe_un un_neg pe_int))) fun σ H Q q => ?_
  have hr : revD = (fun d => match d with
    | .list xs => some (.list xs.reverse)
    | .tuple xs => some (.tuple xs.reverse)
    | _ => none) := by
    funext d; cases d <;> rfl
  unfold v1 at q
  rw [hr] at q
  obtain ⟨G, ρ, d, ρ', F, hf, q⟩ := op1 (o1_stp (st := -1) (g := fun xs => xs.reverse) fun r => r.reverse) q
  exact ⟨G, ρ, d, ρ', F, hf, fun G' H' v F' g' r => ⟨1, rfl, -1, rfl, -1, List.reverse, List.reverse, rfl, stepOk_rev, q G' H' v F' g' r⟩⟩
theorem d_step {ex sx : Expr} {f fk : Ev D} {p3 pos : Pos} (he : PE X ex (dE X.K e f)) (hk : PE X sx (dE X.K e fk)) : PE X (.Subscript ex (.Slice none none (some sx) p3) pos) (dE X.K e (v2 stepD f fk)) := by
  refine pe_imp (pe_stp he (po_some hk)) fun σ H Q ⟨G, ρ, d, ρ', F, hf, q⟩ => ?_
  obtain ⟨x, ρ1, e1, h1⟩ := eB_some hf
  obtain ⟨y, ρ2, e2, h2⟩ := eB_some h1
  obtain ⟨h3, rfl⟩ := eO_some h2
  refine ⟨G, ρ, x, ρ1, F, e1, fun G1 H1 v F1 g1 r1 => ⟨G1, ρ1, y, ρ2, F1, e2, fun G2 H2 w F2 g2 r2 => ?_⟩⟩
  have fn := fin_of F2 (g1.trans g2) q
  cases y <;> first | (cases x <;> cases h3; done) | skip
  rename_i st
  have key : 0 < st ∧ (fun d => match d with
    | .list xs => some (PyData.list (stepL st.toNat xs))
    | .tuple xs => some (PyData.tuple (stepL st.toNat xs))
    | _ => none) x = some d := by
    cases x <;> simp only [stepD, reduceCtorEq] at h3
    · split at h3
      · rename_i hh
        cases h3; exact ⟨hh.1, rfl⟩
      · cases h3
    · split at h3
      · rename_i hh
        cases h3; exact ⟨hh.1, rfl⟩
      · cases h3
  exact ⟨st, r2.int_inv, st, stepL st.toNat, stepL st.toNat, rfl, stepOk_pos key.1, o1_stp (st := st) (g := fun xs => stepL st.toNat xs) (fun r => r.stp _) G2 H2 v x d Q F2.sg (r1.up g2.sg) key.2 fn⟩
theorem cm_in : Cm K (rInTL K false) (fun a b => match b with
  | .list ds => if sh a && PyData.canLayAll0 ds then some (ds.any fun z => PyData.eqv z a) else none
  | .tuple ds => if sh a && PyData.canLayAll0 ds then some (ds.any fun z => PyData.eqv z a) else none
  | _ => none) := by
  intro G H x y a b c Q hs ra rb hd q
  cases b <;> simp only [reduceCtorEq, Bool.and_eq_true] at hd
  · split at hd
    · rename_i h
      cases hd
      exact ⟨a, _, ra.dp hs, .inl (rb.dp hs), h.1, h.2, q⟩
    · cases hd
  · split at hd
    · rename_i h
      cases hd
      exact ⟨a, _, ra.dp hs, .inr (rb.dp hs), h.1, h.2, q⟩
    · cases hd
end

/-! Px11: the rules of the built-ins' calls, targets, stores, for the compiler. -/
open PySem PySem.Spec PyProof.Rows
section
variable {X : Cx} {e : Ent} {Φ : Phi} {Γ : Str → Option D} {N : List Str} {sc : Scope} {sn : Str → Bool} {k : Nat}
abbrev GI (sc : Scope) (x : Str) : Prop := sc.names.lookup x = some NameKind.globalImplicit
theorem boot_any' : bootBuiltins "any" = some (.builtin "any") := by decide +kernel
theorem boot_all' : bootBuiltins "all" = some (.builtin "all") := by decide +kernel
theorem boot_sum' : bootBuiltins "sum" = some (.builtin "sum") := by decide +kernel
theorem boot_max' : bootBuiltins "max" = some (.builtin "max") := by decide +kernel
theorem boot_min' : bootBuiltins "min" = some (.builtin "min") := by decide +kernel
theorem boot_isi' : bootBuiltins "isinstance" = some (.builtin "isinstance") := by decide +kernel
theorem boot_list' : bootBuiltins "list" = some (.type "list") := by decide +kernel
theorem boot_tuple' : bootBuiltins "tuple" = some (.type "tuple") := by decide +kernel
theorem boot_int' : bootBuiltins "int" = some (.type "int") := by decide +kernel
theorem d_len (g : Good Φ Γ N sc sn k X) {a : Expr} {p pos : Pos} {f : Ev D} (hx : GI sc (Str.ofString "len")) (hs : notStar a = true) (ha : PE X a (dE X.K e f)) : PE X (.Call (.Name "len" p) [a] [] pos) (dE X.K e (v1 lenD f)) :=
  d_b1 (pe_callB cr_lenD (g.gl' hx) (g.blt _ (by decide)) PySem.boot_len (args1 ha hs) (by decide) (by decide) (starEach_of hs) (noStars_any rfl)) o1_len
theorem d_listF (g : Good Φ Γ N sc sn k X) {a : Expr} {p pos : Pos} {f : Ev D} (hx : GI sc (Str.ofString "list")) (hs : notStar a = true) (ha : PE X a (dE X.K e f)) : PE X (.Call (.Name "list" p) [a] [] pos) (dF X.K e (v1 listD f)) :=
  pe_imp (pe_callTy cr_listD (g.gl' hx) (g.blt _ (by decide)) boot_list' (args1 ha hs) (by decide) (by decide) (starEach_of hs) (noStars_any rfl)) fun σ H Q q => by
    obtain ⟨G, ρ, d, ρ', F, hf, q'⟩ := op1L o1_listL q
    exact ⟨G, ρ, d, ρ', F, hf, fun G' H' v F' g' r' => ⟨v, rfl, q' G' H' v F' g' r'⟩⟩
theorem d_tuple (g : Good Φ Γ N sc sn k X) {a : Expr} {p pos : Pos} {f : Ev D} (hx : GI sc (Str.ofString "tuple")) (hs : notStar a = true) (ha : PE X a (dE X.K e f)) : PE X (.Call (.Name "tuple" p) [a] [] pos) (dE X.K e (v1 tupleD f)) :=
  d_b1 (pe_callTy cr_tupleD (g.gl' hx) (g.blt _ (by decide)) boot_tuple' (args1 ha hs) (by decide) (by decide) (starEach_of hs) (noStars_any rfl)) o1_tuple
theorem d_int (g : Good Φ Γ N sc sn k X) {a : Expr} {p pos : Pos} {f : Ev D} (hx : GI sc (Str.ofString "int")) (hs : notStar a = true) (ha : PE X a (dE X.K e f)) : PE X (.Call (.Name "int" p) [a] [] pos) (dE X.K e (v1 intD f)) :=
  d_b1 (pe_callTy cr_intD (g.gl' hx) (g.blt _ (by decide)) boot_int' (args1 ha hs) (by decide) (by decide) (starEach_of hs) (noStars_any rfl)) o1_int
theorem ra_ints {K : PySem.W.Frag} {G : Hp} : ∀ ns : List Int, RA K G (ns.map V.int) (ns.map PyData.int)
  | [] => .nil
  | n :: ns => .cons (.int n) (ra_ints ns)
theorem o1_ssetL {K : PySem.W.Frag} : Op1L K (fun x H Q => ∃ (l : Addr) (ns : List Int), x = .ref l ∧ SqL K H l (ns.map V.int) ∧ ns.length ≤ 4000 ∧ ∀ p, H p = none → Q (.ref p) (upd H p (.lst ((sortU ns).map V.int)))) ssetD := by
  intro G H x a d Q hs r hd f
  cases a <;> simp only [ssetD, reduceCtorEq] at hd
  rename_i xs
  obtain ⟨ns, e1, h1⟩ := Option.bind_eq_some_iff.mp hd
  split at h1
  · rename_i hl
    cases h1
    have := intsOf_map e1
    subst this
    obtain ⟨p, vs, rfl, hp, rv⟩ := r.lst_inv
    have := rv.ints
    subst this
    exact ⟨p, ns, rfl, sqL_of hs hp, hl, fun l n => f.new hs n (ra_ints _)⟩
  · cases h1
theorem d_ssetF (g : Good Φ Γ N sc sn k X) {a : Expr} {p p2 q pos : Pos} {f : Ev D} (hx : GI sc (Str.ofString "sorted")) (hx2 : GI sc (Str.ofString "set")) (hs : notStar a = true) (ha : PE X a (dE X.K e f)) :
    PE X (.Call (.Name "sorted" p) [.Call (.Name "set" p2) [a] [] q] [] pos) (dF X.K e (v1 ssetD f)) :=
  pe_imp (pe_sset (g.gl' hx) (g.blt _ (by decide)) (g.gl' hx2) (g.blt _ (by decide)) ha g.calm (starEach_of hs)) fun σ H Q q => op1L o1_ssetL q
theorem o1_sum {K : PySem.W.Frag} : Op1 K (rSumTL K) sumD := by
  intro G H x a d Q hs r hd f
  cases a <;> simp only [sumD, reduceCtorEq] at hd
  · rename_i xs
    cases e1 : intsOf xs with
    | none => rw [e1] at hd; cases hd
    | some ns =>
      rw [e1] at hd
      cases hd
      have := intsOf_map e1
      subst this
      obtain ⟨p, vs, rfl, hp, rv⟩ := r.lst_inv
      have := rv.ints
      subst this
      exact ⟨p, ns, rfl, .inl (sqL_of hs hp), f.same hs (.int _)⟩
  · rename_i xs
    cases e1 : intsOf xs with
    | none => rw [e1] at hd; cases hd
    | some ns =>
      rw [e1] at hd
      cases hd
      have := intsOf_map e1
      subst this
      obtain ⟨p, vs, rfl, hp, rv⟩ := r.tup_inv
      have := rv.ints
      subst this
      exact ⟨p, ns, rfl, .inr (sqT_of hs hp), f.same hs (.int _)⟩
theorem d_sum (g : Good Φ Γ N sc sn k X) {a : Expr} {p pos : Pos} {f : Ev D} (hx : GI sc (Str.ofString "sum")) (hs : notStar a = true) (ha : PE X a (dE X.K e f)) : PE X (.Call (.Name "sum" p) [a] [] pos) (dE X.K e (v1 sumD f)) :=
  d_b1 (pe_callB (cr_sumTL g.calm) (g.gl' hx) (g.blt _ (by decide)) boot_sum' (args1 ha hs) (by decide) (by decide) (starEach_of hs) (noStars_any rfl)) o1_sum
theorem d_any (g : Good Φ Γ N sc sn k X) {a : Expr} {p pos : Pos} {f : Ev D} (hx : GI sc (Str.ofString "any")) (hs : notStar a = true) (ha : PE X a (dE X.K e f)) : PE X (.Call (.Name "any" p) [a] [] pos) (dE X.K e (v1 anyD f)) :=
  d_b1 (pe_callB (cr_anyD g.calm) (g.gl' hx) (g.blt _ (by decide)) boot_any' (args1 ha hs) (by decide) (by decide) (starEach_of hs) (noStars_any rfl)) o1_any
theorem d_all (g : Good Φ Γ N sc sn k X) {a : Expr} {p pos : Pos} {f : Ev D} (hx : GI sc (Str.ofString "all")) (hs : notStar a = true) (ha : PE X a (dE X.K e f)) : PE X (.Call (.Name "all" p) [a] [] pos) (dE X.K e (v1 allD f)) :=
  d_b1 (pe_callB (cr_allD g.calm) (g.gl' hx) (g.blt _ (by decide)) boot_all' (args1 ha hs) (by decide) (by decide) (starEach_of hs) (noStars_any rfl)) o1_all
theorem d_max (g : Good Φ Γ N sc sn k X) {a b : Expr} {p pos : Pos} {f1 f2 : Ev D} (hx : GI sc (Str.ofString "max")) (hs : notStar a = true) (hs2 : notStar b = true) (ha : PE X a (dE X.K e f1)) (hb : PE X b (dE X.K e f2)) : PE X (.Call (.Name "max" p) [a, b] [] pos) (dE X.K e (v2 mxD f1 f2)) :=
  d_b2 (pe_callB (cr_max2D g.calm) (g.gl' hx) (g.blt _ (by decide)) boot_max' (args2 ha hb hs hs2) (by decide) (by decide) (starEach_of hs) (noStars_any (by simp [noStars, hs2]))) o2_max
theorem d_min (g : Good Φ Γ N sc sn k X) {a b : Expr} {p pos : Pos} {f1 f2 : Ev D} (hx : GI sc (Str.ofString "min")) (hs : notStar a = true) (hs2 : notStar b = true) (ha : PE X a (dE X.K e f1)) (hb : PE X b (dE X.K e f2)) : PE X (.Call (.Name "min" p) [a, b] [] pos) (dE X.K e (v2 mnD f1 f2)) :=
  d_b2 (pe_callB (cr_min2D g.calm) (g.gl' hx) (g.blt _ (by decide)) boot_min' (args2 ha hb hs hs2) (by decide) (by decide) (starEach_of hs) (noStars_any (by simp [noStars, hs2]))) o2_min
/-! isinstance -/
def tyNames : List String := ["int", "bool", "str", "list", "tuple"]
theorem kit_d : ∀ (d : D) (t : String), t ∈ tyNames → (∀ kvs, d ≠ .dict kvs) → kitB (tyD d) t = some (isi1 d t) := by
  intro d t ht nd
  have ht' : t = "int" ∨ t = "bool" ∨ t = "str" ∨ t = "list" ∨ t = "tuple" := by simpa [tyNames] using ht
  cases d with
  | dict kvs => exact absurd rfl (nd kvs)
  | none => rcases ht' with rfl | rfl | rfl | rfl | rfl <;> decide +kernel
  | bool b =>
    rcases ht' with rfl | rfl | rfl | rfl | rfl
    · exact (by decide +kernel : kitB (tyD (.bool true)) "int" = some (isi1 (.bool true) "int"))
    · exact (by decide +kernel : kitB (tyD (.bool true)) "bool" = some (isi1 (.bool true) "bool"))
    · exact (by decide +kernel : kitB (tyD (.bool true)) "str" = some (isi1 (.bool true) "str"))
    · exact (by decide +kernel : kitB (tyD (.bool true)) "list" = some (isi1 (.bool true) "list"))
    · exact (by decide +kernel : kitB (tyD (.bool true)) "tuple" = some (isi1 (.bool true) "tuple"))
  | int b =>
    rcases ht' with rfl | rfl | rfl | rfl | rfl
    · exact (by decide +kernel : kitB (tyD (.int 0)) "int" = some (isi1 (.int 0) "int"))
    · exact (by decide +kernel : kitB (tyD (.int 0)) "bool" = some (isi1 (.int 0) "bool"))
    · exact (by decide +kernel : kitB (tyD (.int 0)) "str" = some (isi1 (.int 0) "str"))
    · exact (by decide +kernel : kitB (tyD (.int 0)) "list" = some (isi1 (.int 0) "list"))
    · exact (by decide +kernel : kitB (tyD (.int 0)) "tuple" = some (isi1 (.int 0) "tuple"))
  | str b =>
    rcases ht' with rfl | rfl | rfl | rfl | rfl
    · exact (by decide +kernel : kitB (tyD (.str "a")) "int" = some (isi1 (.str "a") "int"))
    · exact (by decide +kernel : kitB (tyD (.str "a")) "bool" = some (isi1 (.str "a") "bool"))
    · exact (by decide +kernel : kitB (tyD (.str "a")) "str" = some (isi1 (.str "a") "str"))
    · exact (by decide +kernel : kitB (tyD (.str "a")) "list" = some (isi1 (.str "a") "list"))
    · exact (by decide +kernel : kitB (tyD (.str "a")) "tuple" = some (isi1 (.str "a") "tuple"))
  | list b =>
    rcases ht' with rfl | rfl | rfl | rfl | rfl
    · exact (by decide +kernel : kitB (tyD (.list [])) "int" = some (isi1 (.list []) "int"))
    · exact (by decide +kernel : kitB (tyD (.list [])) "bool" = some (isi1 (.list []) "bool"))
    · exact (by decide +kernel : kitB (tyD (.list [])) "str" = some (isi1 (.list []) "str"))
    · exact (by decide +kernel : kitB (tyD (.list [])) "list" = some (isi1 (.list []) "list"))
    · exact (by decide +kernel : kitB (tyD (.list [])) "tuple" = some (isi1 (.list []) "tuple"))
  | tuple b =>
    rcases ht' with rfl | rfl | rfl | rfl | rfl
    · exact (by decide +kernel : kitB (tyD (.tuple [])) "int" = some (isi1 (.tuple []) "int"))
    · exact (by decide +kernel : kitB (tyD (.tuple [])) "bool" = some (isi1 (.tuple []) "bool"))
    · exact (by decide +kernel : kitB (tyD (.tuple [])) "str" = some (isi1 (.tuple []) "str"))
    · exact (by decide +kernel : kitB (tyD (.tuple [])) "list" = some (isi1 (.tuple []) "list"))
    · exact (by decide +kernel : kitB (tyD (.tuple [])) "tuple" = some (isi1 (.tuple []) "tuple"))
theorem tyX_of {K : PySem.W.Frag} {G H : Hp} {x : V} {d : D} (hs : Same G H) (r : R K G x d) : TyX K H x (.type (tyD d)) ∧ ∀ kvs, d ≠ .dict kvs := by
  cases r with
  | non => exact ⟨.base .non, fun _ z => by cases z⟩
  | bl b => exact ⟨.base (.bl b), fun _ z => by cases z⟩
  | int b => exact ⟨.base (.int b), fun _ z => by cases z⟩
  | str b => exact ⟨.base (.str b), fun _ z => by cases z⟩
  | lst q _ => exact ⟨.base (.lst (hs _ _ q)), fun _ z => by cases z⟩
  | tup q _ =>
    refine ⟨?_, fun _ z => by cases z⟩
    rcases q with (q | ⟨o, q⟩) | ⟨o, its, n, q1, q2, _⟩
    · exact .base (.tup (hs _ _ q))
    · exact .fTuple (hs _ _ q)
    · exact .kTuple q1 q2
def vIsi (f : Ev D) (ts : List String) : Ev D := eB f fun x => eP (.bool (isiD x ts))
theorem boot_ty (t : String) (h : t ∈ tyNames) : bootBuiltins (Str.ofString t) = some (.type t) ∧ (Str.ofString t : Str) ≠ "__name__" ∧ ((Str.ofString t : Str) == ("__debug__" : Str)) = false ∧ (Str.ofString t) ∈ (["len", "list", "tuple", "int", "sum", "any", "all", "max", "min", "isinstance", "range", "zip", "enumerate", "sorted", "set", "str", "bool"] : List Str) := by
  have ht' : t = "int" ∨ t = "bool" ∨ t = "str" ∨ t = "list" ∨ t = "tuple" := by simpa [tyNames] using h
  rcases ht' with rfl | rfl | rfl | rfl | rfl <;> exact ⟨by decide +kernel, by decide, by decide, by decide⟩
theorem pe_ty (g : Good Φ Γ N sc sn k X) {t : String} {x : Str} {p : Pos} (h : t ∈ tyNames) (hx : GI sc x) (e : x = Str.ofString t) : PE X (.Name x p) (tC (.ty t)) := by
  subst e
  obtain ⟨h1, h2, h3, h4⟩ := boot_ty t h
  exact pe_bltn (g.gl' hx) (g.blt _ h4) h1 rfl h2 h3
theorem d_isi1 (g : Good Φ Γ N sc sn k X) {a : Expr} {x : Str} {p p2 pos : Pos} {f : Ev D} {t : String} (hx : GI sc (Str.ofString "isinstance")) (hs : notStar a = true) (ha : PE X a (dE X.K e f)) (ht : t ∈ tyNames) (hx2 : GI sc x) (ex : x = Str.ofString t) :
    PE X (.Call (.Name "isinstance" p) [a, .Name x p2] [] pos) (dE X.K e (vIsi f [t])) := by
  refine pe_imp (pe_callB call_isi (g.gl' hx) (g.blt _ (by decide)) boot_isi' (args2 ha (pe_ty g ht hx2 ex) hs rfl) (by decide) (by decide) (starEach_of hs) (noStars_any rfl)) fun σ H Q ⟨G, ρ, d, ρ', F, hf, q⟩ => ?_
  obtain ⟨a, ρ1, e1, h1⟩ := eB_some hf
  cases h1
  refine ⟨G, ρ, a, ρ', F, e1, fun G1 H1 v F1 g1 r1 => ?_⟩
  obtain ⟨t1, t2⟩ := tyX_of F1.sg r1
  refine ⟨v, .ty t, _, _, isi1 a t, rfl, .ty t, t1, kit_ty (kit_d a t ht t2), ?_⟩
  have : isiD a [t] = isi1 a t := by simp [isiD]
  rw [← this]
  exact q G1 H1 _ F1 g1 (.bl _)
/-- (int, str, ..): classes written in a tuple -/
inductive TyEs (sc : Scope) : List Expr → List String → Prop where
  | nil : TyEs sc [] []
  | cons {x : Str} {p : Pos} {es : List Expr} {t : String} {ts : List String} : t ∈ tyNames → GI sc x → x = Str.ofString t → TyEs sc es ts → TyEs sc (.Name x p :: es) (t :: ts)
def tTys (ts : List String) : TA := fun _ H Q => Q (ts.map V.ty) H
theorem pa_tys (g : Good Φ Γ N sc sn k X) : ∀ {es : List Expr} {ts : List String}, TyEs sc es ts → PA X es (tTys ts)
  | _, _, .nil => pa_nil
  | _, _, .cons h1 h2 h3 h4 => pa_cons (pe_ty g h1 h2 h3) (pa_tys g h4) (starEach_of rfl)
theorem d_isiT (g : Good Φ Γ N sc sn k X) {a : Expr} {es : List Expr} {kk : Nat} {p p2 pos : Pos} {f : Ev D} {ts : List String} (hx : GI sc (Str.ofString "isinstance")) (hs : notStar a = true) (ha : PE X a (dE X.K e f)) (ht : TyEs sc es ts) (hl : ts.length ≤ 10) :
    PE X (.Call (.Name "isinstance" p) [a, .Tuple es kk p2] [] pos) (dE X.K e (vIsi f ts)) := by
  refine pe_imp (pe_callB call_isiT (g.gl' hx) (g.blt _ (by decide)) boot_isi' (args2 ha (pe_tup (pa_tys g ht)) hs rfl) (by decide) (by decide) (starEach_of hs) (noStars_any rfl)) fun σ H Q ⟨G, ρ, d, ρ', F, hf, q⟩ => ?_
  obtain ⟨a, ρ1, e1, h1⟩ := eB_some hf
  cases h1
  refine ⟨G, ρ, a, ρ', F, e1, fun G1 H1 v F1 g1 r1 => ?_⟩
  have hz := sizeLine_eq
  refine ⟨by rw [List.length_map]; omega, fun tp n => ?_⟩
  have sm : Same H1 (upd H1 tp (.tup (ts.map V.ty))) := same_new n
  obtain ⟨t1, t2⟩ := tyX_of (F1.sg.trans sm) r1
  have cls : ∀ ts : List String, Paired ClsV (ts.map V.ty) (ts.map Value.type) := fun ts => by
    induction ts with
    | nil => exact .nil
    | cons t ts ih => exact .cons (.ty t) ih
  have kit : ∀ {es : List Expr} {ts : List String}, TyEs sc es ts → PySem.W.kitAny X.K (.type (tyD a)) (ts.map Value.type) = some (isiD a ts) := fun {es ts} h => by
    induction h with
    | nil => exact kitAny_nil
    | cons h1 h2 h3 h4 ih =>
      rename_i t ts
      have e : isiD a (t :: ts) = (isi1 a t || isiD a ts) := by simp [isiD]
      rw [List.map_cons, e]
      cases hb : isi1 a t with
      | true => exact kitAny_cons (b := true) (by rw [← hb]; exact kit_ty (kit_d a t h1 t2)) (fun z => by cases z) (fun _ => rfl)
      | false => exact kitAny_cons (b := false) (by rw [← hb]; exact kit_ty (kit_d a t h1 t2)) (fun _ => by rw [Bool.false_or]; exact ih) (fun z => by cases z)
  refine ⟨v, tp, _, _, _, isiD a ts, rfl, upd_same, cls ts, t1, kit ht, ?_⟩
  exact q G1 _ _ (F1.ext (Ext.hid F1.sg n)) (g1.trans (Ext.hid F1.sg n).gr) (.bl _)
/-! list(range(..)) -/
theorem RA.rgV {K : PySem.W.Frag} {G : Hp} (a b : Int) : RA K G (rgV a b) (rangeD a (b - a).toNat 1) := by
  unfold L2.rgV rangeD
  have : ∀ l : List Nat, RA K G (l.map fun i => V.int (a + (i : Nat))) (l.map fun (i : Nat) => PyData.int (a + (i : Int) * 1)) := fun l => by
    induction l with
    | nil => exact .nil
    | cons x l ih => exact .cons (by show R K G (V.int (a + (x : Int))) (.int (a + (x : Int) * 1)); rw [Int.mul_one]; exact .int _) ih
  exact this _
theorem d_listR1 (g : Good Φ Γ N sc sn k X) {a : Expr} {p p2 p3 pos : Pos} {f : Ev D} (hx : GI sc (Str.ofString "list")) (hx2 : GI sc (Str.ofString "range")) (hs : notStar a = true) (ha : PE X a (dE X.K e f)) :
    PE X (.Call (.Name "list" p) [.Call (.Name "range" p2) [a] [] p3] [] pos) (dF X.K e (vLst (vRange1 f))) := by
  refine pe_imp (pe_listRg g.calm (g.gl' hx) (g.blt _ (by decide)) (prg_1 (g.gl' hx2) (g.blt _ (by decide)) ha (starEach_of hs)) (starEach_of rfl)) fun σ H Q ⟨G, ρ, d, ρ', F, hf, q⟩ => ?_
  obtain ⟨ds, ρ1, e1, h1⟩ := eB_some hf
  obtain ⟨x, ρ2, e2, h2⟩ := eB_some e1
  cases x <;> first | (cases h2; done) | skip
  rename_i j
  simp only at h2
  split at h2
  · rename_i hj
    cases h2
    split at h1
    · rename_i hok
      unfold eP at h1
      simp only [Option.some.injEq, Prod.mk.injEq, PyData.list.injEq] at h1
      obtain ⟨rfl, rfl⟩ := h1
      refine ⟨G, ρ, _, ρ1, F, e2, fun G1 H1 v F1 g1 r1 => ⟨j, r1.int_inv, ⟨by omega, by omega, (r62_of hj).1, (r62_of hj).2, ?_⟩, fun p n => ?_⟩⟩
      · have := of_decide_eq_true hok
        rw [rangeD_len, sizeLine_eq] at this
        rw [Int.sub_zero]
        omega
      · have := RA.rgV (K := X.K) (G := G1) 0 j
        rw [Int.sub_zero] at this
        exact (finL_of F1 g1 q).new F1.sg n this
    · cases h1
  · cases h2
theorem d_listR2 (g : Good Φ Γ N sc sn k X) {a b : Expr} {p p2 p3 pos : Pos} {f1 f2 : Ev D} (hx : GI sc (Str.ofString "list")) (hx2 : GI sc (Str.ofString "range")) (hs : notStar a = true) (hs2 : notStar b = true) (ha : PE X a (dE X.K e f1)) (hb : PE X b (dE X.K e f2)) :
    PE X (.Call (.Name "list" p) [.Call (.Name "range" p2) [a, b] [] p3] [] pos) (dF X.K e (vLst (vRange2 f1 f2))) := by
  refine pe_imp (pe_listRg g.calm (g.gl' hx) (g.blt _ (by decide)) (prg_2 (g.gl' hx2) (g.blt _ (by decide)) ha hb (starEach_of hs) (starEach_of hs2) (noStars_any (by simp [noStars, hs2]))) (starEach_of rfl)) fun σ H Q ⟨G, ρ, d, ρ', F, hf, q⟩ => ?_
  obtain ⟨ds, ρ1, e1, h1⟩ := eB_some hf
  obtain ⟨x, ρ2, e2, h2⟩ := eB_some e1
  obtain ⟨y, ρ3, e3, h3⟩ := eB_some h2
  cases x <;> cases y <;> first | (cases h3; done) | skip
  rename_i i j
  simp only at h3
  split at h3
  · rename_i hj
    cases h3
    rw [Bool.and_eq_true] at hj
    split at h1
    · rename_i hok
      unfold eP at h1
      simp only [Option.some.injEq, Prod.mk.injEq, PyData.list.injEq] at h1
      obtain ⟨rfl, rfl⟩ := h1
      refine ⟨G, ρ, _, ρ2, F, e2, fun G1 H1 v F1 g1 r1 => ⟨G1, ρ2, _, ρ1, F1, e3, fun G2 H2 w F2 g2 r2 => ⟨i, j, r1.int_inv, r2.int_inv, ⟨(r62_of hj.1).1, (r62_of hj.1).2, (r62_of hj.2).1, (r62_of hj.2).2, ?_⟩, fun p n => ?_⟩⟩⟩
      · have := of_decide_eq_true hok
        rw [rangeD_len, sizeLine_eq] at this
        omega
      · exact (finL_of F2 (g1.trans g2) q).new F2.sg n (RA.rgV (K := X.K) (G := G2) i j)
    · cases h1
  · cases h3
theorem i_range3 (g : Good Φ Γ N sc sn k X) {tg a b c : Expr} {p pos : Pos} {f1 f2 f3 : Ev D} (hx : GI sc (Str.ofString "range")) (hs : notStar a = true) (hs2 : notStar b = true) (hs3 : notStar c = true) (ha : PE X a (dE X.K e f1)) (hb : PE X b (dE X.K e f2)) (hc : PE X c (dE X.K e f3)) :
    PI X tg (.Call (.Name "range" p) [a, b, c] [] pos) (dI X.K e (vRange3 f1 f2 f3)) := by
  refine pi_imp (pi_range3 (g.gl' hx) (g.blt _ (by decide)) (pa_cons ha (args2 hb hc hs2 hs3) (starEach_of hs)) (starEach_of hs) (noStars_any (by simp [noStars, hs2, hs3]))) fun σ H Q ⟨G, ρ, ds, ρ', F, hf, q⟩ => ?_
  obtain ⟨x, ρ1, e1, h1⟩ := eB_some hf
  obtain ⟨y, ρ2, e2, h2⟩ := eB_some h1
  obtain ⟨z, ρ3, e3, h3⟩ := eB_some h2
  cases x <;> cases y <;> cases z <;> first | (cases h3; done) | skip
  rename_i i j l
  simp only [Bool.and_eq_true, decide_eq_true_eq] at h3
  split at h3
  · rename_i hj
    cases h3
    refine ⟨G, ρ, _, ρ1, F, e1, fun G1 H1 v F1 g1 r1 => ⟨G1, ρ1, _, ρ2, F1, e2, fun G2 H2 w F2 g2 r2 => ⟨G2, ρ2, _, ρ', F2, e3, fun G3 H3 u F3 g3 r3 => ?_⟩⟩⟩
    refine ⟨i, j, l, rangeN i j l, by rw [r1.int_inv, r2.int_inv, r3.int_inv], RgC.pos (r62_of hj.1.1.1).1 (r62_of hj.1.1.1).2 (r62_of hj.1.1.2).1 (r62_of hj.1.1.2).2 hj.1.2 hj.2, q G3 H3 _ F3 ((g1.trans g2).trans g3) walkD_rangeC⟩
  · cases h3
/-! x.count(y) -/
theorem o2_count (hu : True) {K : PySem.W.Frag} : Op2 K (fun x y H Q => tyV K "list" x H ∧ rCountD K x [y] H Q) countD := by
  intro G H x y a b d Q hs ra rb hd f
  cases a <;> simp only [countD, reduceCtorEq] at hd
  split at hd
  · rename_i h
    rw [Bool.and_eq_true] at h
    cases hd
    obtain ⟨p, vs, rfl, hp, rv⟩ := ra.lst_inv
    exact ⟨.inl ⟨rfl, vs, sqL_of hs hp⟩, p, y, b, _, rfl, rfl, ra.dp hs, rb.dp hs, h.2, h.1, f.same hs (.int _)⟩
  · cases hd
theorem tyV_up {K : PySem.W.Frag} {G H : Hp} {x : V} {ds : List D} (hs : Same G H) (r : R K G x (.list ds)) : tyV K "list" x H := by
  obtain ⟨p, vs, rfl, hp, rv⟩ := r.lst_inv
  exact .inl ⟨rfl, vs, sqL_of hs hp⟩
theorem d_count (g : Good Φ Γ N sc sn k X) {o a : Expr} {ap cp : Pos} {f1 f2 : Ev D} (hs : notStar a = true) (hl : (ap.endLine == cp.line) = true) (hb : attributeBase o "count" X.env (eval o X.env) = eval o X.env) (ho : PE X o (dE X.K e f1)) (ha : PE X a (dE X.K e f2)) :
    PE X (.Call (.Attribute o "count" ap) [a] [] cp) (dE X.K e (v2 countD f1 f2)) := by
  have hu : X.A.units + 65 < cLine := by have := g.room.un; omega
  refine pe_imp (pe_bm PySem.F.plainAttrs_list PySem.F.slot_list_count PySem.F.type_list_count (mt_countD hu) ho (args1 ha hs) hb (by rw [starEach_of hs]; rfl) hl (starEach_of hs) rfl) fun σ H Q ⟨G, ρ, d, ρ', F, hf, q⟩ => ?_
  obtain ⟨x, ρ1, e1, h1⟩ := eB_some hf
  obtain ⟨y, ρ2, e2, h2⟩ := eB_some h1
  obtain ⟨h3, rfl⟩ := eO_some h2
  have hx : ∃ ds, x = .list ds := by cases x <;> first | exact ⟨_, rfl⟩ | cases h3
  obtain ⟨ds, rfl⟩ := hx
  refine ⟨G, ρ, _, ρ1, F, e1, fun G1 H1 v F1 g1 r1 => ⟨tyV_up F1.sg r1, G1, ρ1, y, ρ2, F1, e2, fun G2 H2 w F2 g2 r2 => ?_⟩⟩
  exact (o2_count trivial G2 H2 v w _ y d Q F2.sg (r1.up g2.sg) r2 h3 (fin_of F2 (g1.trans g2) q)).2
end

/-! Px12: the compiler, which hands back what it made with the proof that it is right. -/
open PySem PySem.Spec PyProof.Rows

/-! ### stores in the other order -/
def sw2B (sc : Scope) (x y : Str) (px py : Pos) (a b : Expr) : Bool :=
  decide (sc.kind = .function) && decide (sc.names.lookup x = some .local) && decide (sc.names.lookup y = some .local) && (py.line == px.line) && decide (x ≠ y) && notStar a && notStar b && !([a, b].all (foldedForSure 8)) && !([a, b].all (constantsAlone 8))
theorem any_star (p : Expr → Bool) (hp : ∀ v, notStar v = true → p v = false) : ∀ (vs : List Expr), noStars vs = true → vs.any p = false
  | [], _ => rfl
  | v :: vs, h => by
    unfold noStars at h
    rw [List.all_cons, Bool.and_eq_true] at h
    rw [List.any_cons, any_star p hp vs h.2, hp v h.1]
    rfl
theorem fm2 (q : Expr → Option Str) {a b : Expr} {x y : Str} (h1 : q a = some x) (h2 : q b = some y) : [a, b].filterMap q = [x, y] := by simp [h1, h2]
theorem fm3 (q : Expr → Option Str) {a b c : Expr} {x y z : Str} (h1 : q a = some x) (h2 : q b = some y) (h3 : q c = some z) : [a, b, c].filterMap q = [x, y, z] := by simp [h1, h2, h3]
theorem sw2 {env : PySem.Env} {x y : Str} {px py pt pt2 : Pos} {kt k2 : Nat} {a b : Expr} (h : sw2B env.scope x y px py a b = true) : swappedStores [.Tuple [.Name x px, .Name y py] kt pt] (.Tuple [a, b] k2 pt2) env = pure (some [x, y]) := by
  unfold sw2B at h
  simp only [Bool.and_eq_true, decide_eq_true_eq, Bool.not_eq_true', bne_iff_ne] at h
  obtain ⟨⟨⟨⟨⟨⟨⟨⟨hk, hx⟩, hy⟩, hp⟩, hne⟩, na⟩, nb⟩, hf⟩, hc⟩ := h
  have hb : env.blockKind = .function := by unfold Env.blockKind; rw [hk]; rfl
  have kx : env.kindOf x = some .local := hx
  have ky : env.kindOf y = some .local := hy
  have q1 : (env.kindOf x == some NameKind.local && px.line == px.line) = true := by rw [kx]; simp
  have q2 : (env.kindOf y == some NameKind.local && py.line == px.line) = true := by rw [ky, hp]; rfl
  have e2 : ([x, y].eraseDups).length = 2 := by
    have : (y == x) = false := by simpa using fun z : y = x => hne z.symm
    simp [List.eraseDups_cons, List.filter, this]
  unfold swappedStores
  dsimp only
  refine (if_neg ?_).trans ((if_neg ?_).trans ((if_neg ?_).trans ((if_neg ?_).trans ((if_neg ?_).trans ?_))))
  · simp [hb]
  · rw [any_star _ (fun v hv => by cases v <;> first | rfl | (simp [notStar] at hv)) [a, b] (by simp [noStars, na, nb])]; simp
  · rw [fm2 (x := x) (y := y) _ (by show (if (env.kindOf x == some NameKind.local && px.line == px.line) = true then some x else none) = _; rw [if_pos q1]) (by show (if (env.kindOf y == some NameKind.local && py.line == px.line) = true then some y else none) = _; rw [if_pos q2]), e2]; simp
  · rw [hf]; simp
  · rw [hc]; simp
  · rw [fm2 (x := x) (y := y) _ (by show (if (env.kindOf x == some NameKind.local && px.line == px.line) = true then some x else none) = _; rw [if_pos q1]) (by show (if (env.kindOf y == some NameKind.local && py.line == px.line) = true then some y else none) = _; rw [if_pos q2])]
def sw3B (sc : Scope) (x y z : Str) (px py pz : Pos) (a b c : Expr) : Bool :=
  decide (sc.kind = .function) && decide (sc.names.lookup x = some .local) && decide (sc.names.lookup y = some .local) && decide (sc.names.lookup z = some .local) && (py.line == px.line) && (pz.line == px.line) && decide (x ≠ y) && decide (x ≠ z) && decide (y ≠ z) && notStar a && notStar b && notStar c && !([a, b, c].all (foldedForSure 8)) && !([a, b, c].all (constantsAlone 8))
theorem sw3 {env : PySem.Env} {x y z : Str} {px py pz pt pt2 : Pos} {kt k2 : Nat} {a b c : Expr} (h : sw3B env.scope x y z px py pz a b c = true) : swappedStores [.Tuple [.Name x px, .Name y py, .Name z pz] kt pt] (.Tuple [a, b, c] k2 pt2) env = pure (some [x, y, z]) := by
  unfold sw3B at h
  simp only [Bool.and_eq_true, decide_eq_true_eq, Bool.not_eq_true', bne_iff_ne] at h
  obtain ⟨⟨⟨⟨⟨⟨⟨⟨⟨⟨⟨⟨⟨hk, hx⟩, hy⟩, hz⟩, hp⟩, hp2⟩, hne⟩, hne2⟩, hne3⟩, na⟩, nb⟩, nc⟩, hf⟩, hc⟩ := h
  have hb : env.blockKind = .function := by unfold Env.blockKind; rw [hk]; rfl
  have kx : env.kindOf x = some .local := hx
  have ky : env.kindOf y = some .local := hy
  have kz : env.kindOf z = some .local := hz
  have q1 : (env.kindOf x == some NameKind.local && px.line == px.line) = true := by rw [kx]; simp
  have q2 : (env.kindOf y == some NameKind.local && py.line == px.line) = true := by rw [ky, hp]; rfl
  have q3 : (env.kindOf z == some NameKind.local && pz.line == px.line) = true := by rw [kz, hp2]; rfl
  have e2 : ([x, y, z].eraseDups).length = 3 := by
    have h1 : (y == x) = false := by simpa using fun q : y = x => hne q.symm
    have h2 : (z == x) = false := by simpa using fun q : z = x => hne2 q.symm
    have h3 : (z == y) = false := by simpa using fun q : z = y => hne3 q.symm
    simp [List.eraseDups_cons, List.filter, h1, h2, h3]
  unfold swappedStores
  dsimp only
  refine (if_neg ?_).trans ((if_neg ?_).trans ((if_neg ?_).trans ((if_neg ?_).trans ((if_neg ?_).trans ?_))))
  · simp [hb]
  · rw [any_star _ (fun v hv => by cases v <;> first | rfl | (simp [notStar] at hv)) [a, b, c] (by simp [noStars, na, nb, nc])]; simp
  · rw [fm3 (x := x) (y := y) (z := z) _ (by show (if (env.kindOf x == some NameKind.local && px.line == px.line) = true then some x else none) = _; rw [if_pos q1]) (by show (if (env.kindOf y == some NameKind.local && py.line == px.line) = true then some y else none) = _; rw [if_pos q2]) (by show (if (env.kindOf z == some NameKind.local && pz.line == px.line) = true then some z else none) = _; rw [if_pos q3]), e2]; simp
  · rw [hf]; simp
  · rw [hc]; simp
  · rw [fm3 (x := x) (y := y) (z := z) _ (by show (if (env.kindOf x == some NameKind.local && px.line == px.line) = true then some x else none) = _; rw [if_pos q1]) (by show (if (env.kindOf y == some NameKind.local && py.line == px.line) = true then some y else none) = _; rw [if_pos q2]) (by show (if (env.kindOf z == some NameKind.local && pz.line == px.line) = true then some z else none) = _; rw [if_pos q3])]
/-- no pair of tuples of two or three local names -/
def swN (sc : Scope) (ts : List Expr) (v : Expr) : Bool := match v with
  | .Tuple vs _ _ => !(ts.length == 2 || ts.length == 3) || vs.length != ts.length || (ts.any fun | .Name x _ => decide (sc.names.lookup x ≠ some .local) | _ => true) || vs.all (foldedForSure 8)
  | _ => true
theorem fm_lt (q : Expr → Option Str) (bad : Expr → Bool) (h : ∀ t, bad t = true → q t = none) : ∀ ts : List Expr, ts.any bad = true → (ts.filterMap q).length < ts.length
  | [], z => by cases z
  | t :: ts, z => by
    have hle : (ts.filterMap q).length ≤ ts.length := List.length_filterMap_le _ _
    rw [List.any_cons, Bool.or_eq_true] at z
    rw [List.filterMap_cons]
    rcases z with z | z
    · rw [h t z, List.length_cons]
      exact Nat.lt_succ_of_le hle
    · have := fm_lt q bad h ts z
      rw [List.length_cons]
      split
      · omega
      · rw [List.length_cons]; omega
theorem swNone {env : PySem.Env} {ts : List Expr} {v : Expr} {kt : Nat} {pt : Pos} (h : swN env.scope ts v = true) (hv : match v with | .Tuple vs _ _ => noStars vs = true | _ => True) : swappedStores [.Tuple ts kt pt] v env = pure none := by
  cases v with
  | Tuple vs k2 p2 =>
    unfold swN at h
    unfold swappedStores
    simp only [Bool.or_eq_true] at h
    simp only
    rw [any_star _ (fun v hv => by cases v <;> first | rfl | (simp [notStar] at hv)) vs hv]
    rcases h with ((h | h) | h) | h
    · simp [h]
    · simp [h]
    · generalize ((ts.head?.map (·.pos.line)).getD 0) = ln
      generalize hq : (fun x : Expr => match x with
        | .Name id pos => if (env.kindOf id == some NameKind.local && pos.line == ln) = true then some id else none
        | _ => none) = q
      have lt := fm_lt q (fun | .Name x _ => decide (env.scope.names.lookup x ≠ some .local) | _ => true) (fun t ht => by
        subst hq
        cases t <;> try rfl
        rename_i x p
        have hx : env.scope.names.lookup x ≠ some .local := of_decide_eq_true ht
        have : (env.kindOf x == some NameKind.local) = false := by
          show (env.scope.names.lookup x == some NameKind.local) = false
          simpa using hx
        simp only [this, Bool.false_and, Bool.false_eq_true, if_false]) ts h
      have ne : ((ts.filterMap q).length != ts.length) = true := by
        simp only [bne_iff_ne]
        omega
      subst hq
      simp only [ne, Bool.true_or, if_true, Bool.false_eq_true, if_false]
      split
      · rfl
      · rfl
    · simp [h]
  | _ => rfl

/-! Px13: the compiler of expressions. -/
open PySem PySem.Spec PyProof.Rows

/-- N: the names by slots; M: the slots that hold lists that change; Sc: the script's -/
structure Cfg where
  N : List Str
  M : List Nat
  Sc : List Nat
structure OkE (N : List Str) (sc : Scope) (sn : Str → Bool) (ex : Expr) (m : E) : Prop where
  ok : ∀ {Φ : Phi} {Γ : Str → Option D} {k : Nat} {X : Cx} {e : Ent}, Good Φ Γ N sc sn k X → PE X ex (dE X.K e (ev Φ Γ m))
structure OkF (N : List Str) (sc : Scope) (sn : Str → Bool) (ex : Expr) (m : E) : Prop where
  ok : ∀ {Φ : Phi} {Γ : Str → Option D} {k : Nat} {X : Cx} {e : Ent}, Good Φ Γ N sc sn k X → PE X ex (dF X.K e (ev Φ Γ m))
structure OkT (N : List Str) (sc : Scope) (sn : Str → Bool) (ex : Expr) (m : E) : Prop where
  ok : ∀ {Φ : Phi} {Γ : Str → Option D} {k : Nat} {X : Cx} {e : Ent}, Good Φ Γ N sc sn k X → PT X ex (dT X.K e (ev Φ Γ m))
structure OkW (N : List Str) (sc : Scope) (sn : Str → Bool) (ex : Expr) (m : E) : Prop where
  ok : ∀ {Φ : Phi} {Γ : Str → Option D} {k : Nat} {X : Cx} {e : Ent}, Good Φ Γ N sc sn k X → PW X ex (dT X.K e (ev Φ Γ m))
structure OkL (N : List Str) (sc : Scope) (sn : Str → Bool) (es : List Expr) (m : E) : Prop where
  ok : ∀ {Φ : Phi} {Γ : Str → Option D} {k : Nat} {X : Cx} {e : Ent}, Good Φ Γ N sc sn k X → PA X es (dL X.K e (evL Φ Γ m))
structure OkA (N : List Str) (sc : Scope) (sn : Str → Bool) (es : List Expr) (m : E) : Prop where
  ok : ∀ {Φ : Phi} {Γ : Str → Option D} {k : Nat} {X : Cx} {e : Ent}, Good Φ Γ N sc sn k X → PA X es (dA X.K e (evA Φ Γ m))
structure OkI (N : List Str) (sc : Scope) (sn : Str → Bool) (tg ex : Expr) (m : E) : Prop where
  ok : ∀ {Φ : Phi} {Γ : Str → Option D} {k : Nat} {X : Cx} {e : Ent}, Good Φ Γ N sc sn k X → PI X tg ex (dI X.K e (evI Φ Γ m))
structure OkQ (N : List Str) (sc : Scope) (sn : Str → Bool) (ifs : List Expr) (m : E) : Prop where
  ok : ∀ {Φ : Phi} {Γ : Str → Option D} {k : Nat} {X : Cx} {e : Ent}, Good Φ Γ N sc sn k X → PTs X ifs (dT X.K e (ev Φ Γ m))
structure OkP (N : List Str) (sc : Scope) (sn : Str → Bool) (ex : Option Expr) (m : E) : Prop where
  ok : ∀ {Φ : Phi} {Γ : Str → Option D} {k : Nat} {X : Cx} {e : Ent}, Good Φ Γ N sc sn k X → PO X ex (dPo X.K e (evP Φ Γ m))
structure OkG (N : List Str) (sc : Scope) (sn : Str → Bool) (tgx : Expr) (tg : Tg) : Prop where
  ok : ∀ {Φ : Phi} {Γ : Str → Option D} {k : Nat} {X : Cx}, Good Φ Γ N sc sn k X → PG X tgx (tgG X.K tg)
/-- list-valued -/
abbrev LV (m : E) : Prop := ∀ (Φ : Phi) (Γ : Str → Option D) (ρ : Env) (d : D) (ρ' : Env), ev Φ Γ m ρ = some (d, ρ') → ∃ ds, d = .list ds

/-- what the compiler hands to itself -/
structure Cmp (N : List Str) where
  e : ∀ (sc : Scope) (sn : Str → Bool) (ex : Expr), Option {m : E // OkE N sc sn ex m}
  t : ∀ (sc : Scope) (sn : Str → Bool) (ex : Expr), Option {m : E // OkT N sc sn ex m}

def ixOf (N : List Str) (x : Str) : Option {i : Nat // N[i]? = some x} :=
  let i := N.findIdx (fun y => decide (y = x))
  if h : N[i]? = some x then some ⟨i, h⟩ else none
/-- a name that is read: its slot -/
structure NmOk (N : List Str) (sc : Scope) (x : Str) (i : Nat) : Prop where
  hi : N[i]? = some x
  hv : visB sc x = true
  hd : (x == ("__debug__" : Str)) = false
  hc : (x == ("__classdict__" : Str)) = false
def nmOf (N : List Str) (sc : Scope) (x : Str) : Option {i : Nat // NmOk N sc x i} :=
  match ixOf N x with
  | none => none
  | some ⟨i, hi⟩ => if h : visB sc x = true ∧ (x == ("__debug__" : Str)) = false ∧ (x == ("__classdict__" : Str)) = false then some ⟨i, hi, h.1, h.2.1, h.2.2⟩ else none

section
variable {N : List Str} {sc : Scope} {sn : Str → Bool}
theorem LV_lst (m : E) : LV (.lst m) := fun Φ Γ ρ d ρ' h => by
  obtain ⟨ds, ρ1, e1, h1⟩ := eB_some (show vLst (evL Φ Γ m) ρ = _ from h)
  by_cases ok : okL ds = true
  · rw [if_pos ok] at h1; cases h1; exact ⟨_, rfl⟩
  · rw [if_neg ok] at h1; cases h1
theorem LV_listOf (m : E) : LV (.listOf m) := fun Φ Γ ρ d ρ' h => by
  obtain ⟨ds, ρ1, e1, h1⟩ := eB_some (show vLst (evI Φ Γ m) ρ = _ from h)
  by_cases ok : okL ds = true
  · rw [if_pos ok] at h1; cases h1; exact ⟨_, rfl⟩
  · rw [if_neg ok] at h1; cases h1
theorem LV_list (m : E) : LV (.b1 .list m) := fun Φ Γ ρ d ρ' h => by
  obtain ⟨x, ρ1, e1, h1⟩ := eB_some (show v1 listD (ev Φ Γ m) ρ = _ from h)
  obtain ⟨h2, _⟩ := eO_some h1
  cases x <;> simp only [listD, reduceCtorEq] at h2 <;> (cases h2; exact ⟨_, rfl⟩)
theorem LV_sset (m : E) : LV (.b1 .sset m) := fun Φ Γ ρ d ρ' h => by
  obtain ⟨x, ρ1, e1, h1⟩ := eB_some (show v1 ssetD (ev Φ Γ m) ρ = _ from h)
  obtain ⟨h2, _⟩ := eO_some h1
  cases x <;> simp only [ssetD, reduceCtorEq] at h2
  obtain ⟨ns, e2, h3⟩ := Option.bind_eq_some_iff.mp h2
  split at h3
  · cases h3; exact ⟨_, rfl⟩
  · cases h3
theorem LV_scr (i : Nat) : LV (.scr i) := fun Φ Γ ρ d ρ' h => by
  have h : vScr i ρ = some (d, ρ') := h
  unfold vScr at h
  split at h
  · cases h; exact ⟨_, rfl⟩
  · cases h
theorem LV_comp (vs : List Nat) (tg : Tg) (it c a : E) : LV (.comp vs tg it c a) := fun Φ Γ ρ d ρ' h => by
  obtain ⟨ds, ρ1, e1, h1⟩ := eB_some (show (eB (lcRun vs tg (evI Φ Γ it) (ev Φ Γ c) (ev Φ Γ a)) fun ds => eP (PyData.list ds)) ρ = some (d, ρ') from h)
  cases h1; exact ⟨_, rfl⟩
theorem LV_comp2 (vs vs1 : List Nat) (tg : Tg) (it c : E) (tg1 : Tg) (it1 c1 a : E) : LV (.comp2 vs vs1 tg it c tg1 it1 c1 a) := fun Φ Γ ρ d ρ' h => by
  obtain ⟨ds, ρ1, e1, h1⟩ := eB_some (show (eB (lcRun2 vs vs1 tg (evI Φ Γ it) (ev Φ Γ c) tg1 (evI Φ Γ it1) (ev Φ Γ c1) (ev Φ Γ a)) fun ds => eP (PyData.list ds)) ρ = some (d, ρ') from h)
  cases h1; exact ⟨_, rfl⟩
def ofF {ex : Expr} (f : {m : E // OkF N sc sn ex m ∧ LV m}) : {m : E // OkE N sc sn ex m} := ⟨f.1, ⟨fun g => pe_of_fresh (f.2.1.ok g) fun ρ d ρ' h => f.2.2 _ _ ρ d ρ' h⟩⟩

/-- items -/
def cL (r : Cmp N) (sc : Scope) (sn : Str → Bool) : (es : List Expr) → Option {m : E // OkL N sc sn es m}
  | [] => some ⟨.nil, ⟨fun _ => l_nil⟩⟩
  | .Starred a p :: es => match r.e sc sn a, cL r sc sn es with
    | some ⟨ma, ha⟩, some ⟨ms, hs⟩ => some ⟨.star ma ms, ⟨fun g => l_star (ha.ok g) (hs.ok g)⟩⟩
    | _, _ => none
  | a :: es => if hn : notStar a = true then (match r.e sc sn a, cL r sc sn es with
    | some ⟨ma, ha⟩, some ⟨ms, hs⟩ => some ⟨.cons ma ms, ⟨fun g => l_cons hn (ha.ok g) (hs.ok g)⟩⟩
    | _, _ => none) else none
def cA1 (r : Cmp N) (sc : Scope) (sn : Str → Bool) (a : Expr) (es : List Expr) (p : {m : E // OkA N sc sn es m}) : Option {m : E // OkA N sc sn (a :: es) m} :=
  if hn : notStar a = true then (match r.e sc sn a with
    | some ⟨ma, ha⟩ => some ⟨.cons ma p.1, ⟨fun g => a_cons hn (ha.ok g) (p.2.ok g)⟩⟩
    | none => none) else none
/-- arguments of an own def -/
def cA (M : List Nat) (r : Cmp N) (sc : Scope) (sn : Str → Bool) : (es : List Expr) → Option {m : E // OkA N sc sn es m}
  | [] => some ⟨.nil, ⟨fun _ => a_nil⟩⟩
  | .Name x p :: es => match cA M r sc sn es with
    | none => none
    | some q => match nmOf N sc x with
        | some ⟨i, h⟩ => if M.contains i then some ⟨.ref i q.1, ⟨fun g => a_ref g h.hi h.hv h.hd h.hc (q.2.ok g)⟩⟩ else cA1 r sc sn (.Name x p) es q
        | none => cA1 r sc sn (.Name x p) es q
  | a :: es => match cA M r sc sn es with
    | none => none
    | some q => cA1 r sc sn a es q
/-- one end of a slice -/
def cP (r : Cmp N) (sc : Scope) (sn : Str → Bool) : (ex : Option Expr) → Option {m : E // OkP N sc sn ex m}
  | none => some ⟨.pN, ⟨fun _ => po_n⟩⟩
  | some a => match r.e sc sn a with
    | some ⟨m, h⟩ => some ⟨.pE m, ⟨fun g => po_s (h.ok g)⟩⟩
    | none => none
theorem bin_ok (op : Operator) (h : op = .Add ∨ op = .Sub ∨ op = .Mult ∨ op = .FloorDiv ∨ op = .Mod ∨ op = .Pow) (X : Cx) : ∃ r, OpR X (binaryOp op) r ∧ Op2 X.K r (opD op) := by
  rcases h with rfl | rfl | rfl | rfl | rfl | rfl
  · exact ⟨_, op_addD, o2_add⟩
  · exact ⟨_, op_sub, o2_sub⟩
  · exact ⟨_, op_mulD, o2_mul⟩
  · exact ⟨_, op_fdivW, o2_fdiv⟩
  · exact ⟨_, op_mod, o2_mod⟩
  · exact ⟨_, op_pow, o2_pow⟩
theorem cm_notIn {K : PySem.W.Frag} : Cm K (rInTL K true) (cmpD .NotIn) := by
  intro G H x y a b c Q hs ra rb hd q
  cases b with
  | list ds =>
    have e : cmpD .NotIn a (.list ds) = if sh a && PyData.canLayAll0 ds then some (!ds.any fun z => PyData.eqv z a) else none := by cases a <;> rfl
    rw [e] at hd
    simp only [Bool.and_eq_true] at hd
    split at hd
    · rename_i h
      cases hd
      exact ⟨a, _, ra.dp hs, .inl (rb.dp hs), h.1, h.2, q⟩
    · cases hd
  | tuple ds =>
    have e : cmpD .NotIn a (.tuple ds) = if sh a && PyData.canLayAll0 ds then some (!ds.any fun z => PyData.eqv z a) else none := by cases a <;> rfl
    rw [e] at hd
    simp only [Bool.and_eq_true] at hd
    split at hd
    · rename_i h
      cases hd
      exact ⟨a, _, ra.dp hs, .inr (rb.dp hs), h.1, h.2, q⟩
    · cases hd
  | _ => cases a <;> simp only [cmpD, reduceCtorEq] at hd
def rInD' (K : PySem.W.Frag) : R2 := fun x y H Q => rInTL K false x y H Q ∨ (fun x y H Q => ∃ i j, x = V.str i ∧ y = V.str j ∧ Q (.bl (!(Builtin.Str.occurrences j i 0 j.length 1).isEmpty)) H) x y H Q
theorem op_inD' {X : Cx} (hu : X.A.units + 65 < cLine) : OpR X (compareOp .In) (rInD' X.K) := (op_inTL hu).or op_in_str
theorem cm_in' {K : PySem.W.Frag} : Cm K (rInD' K) (cmpD .In) := by
  intro G H x y a b c Q hs ra rb hd q
  cases b with
  | list ds =>
    have e : cmpD .In a (.list ds) = if sh a && PyData.canLayAll0 ds then some (ds.any fun z => PyData.eqv z a) else none := by cases a <;> rfl
    rw [e] at hd
    exact .inl (cm_in G H x y a (.list ds) c Q hs ra rb hd q)
  | tuple ds =>
    have e : cmpD .In a (.tuple ds) = if sh a && PyData.canLayAll0 ds then some (ds.any fun z => PyData.eqv z a) else none := by cases a <;> rfl
    rw [e] at hd
    exact .inl (cm_in G H x y a (.tuple ds) c Q hs ra rb hd q)
  | str j =>
    cases a <;> simp only [cmpD, reduceCtorEq] at hd
    cases hd
    exact .inr ⟨_, _, ra.str_inv, rb.str_inv, q⟩
  | _ => cases a <;> simp only [cmpD, reduceCtorEq] at hd
theorem cmp_ok (op : CmpOp) (X : Cx) (hu : X.A.units + 65 < cLine) : ∃ r, OpR X (compareOp op) r ∧ Cm X.K r (cmpD op) := by
  cases op with
  | Eq => exact ⟨_, op_eqD (by omega), cm_eq⟩
  | NotEq => exact ⟨_, op_neD (by omega), cm_ne⟩
  | Lt => exact ⟨_, op_lt, cm_lt⟩
  | LtE => exact ⟨_, op_le, cm_le⟩
  | Gt => exact ⟨_, op_gt, cm_gt⟩
  | GtE => exact ⟨_, op_ge, cm_ge⟩
  | Is => exact ⟨_, op_isD, cm_is⟩
  | IsNot => exact ⟨_, op_isntD, cm_isnt⟩
  | In => exact ⟨_, op_inD' hu, cm_in'⟩
  | NotIn => exact ⟨_, op_notInTL hu, cm_notIn⟩
theorem Good.hu {Φ : Phi} {Γ : Str → Option D} {k : Nat} {X : Cx} (g : Good Φ Γ N sc sn k X) : X.A.units + 65 < cLine := by have := g.room.un; omega
theorem cmpE {op : CmpOp} {a b : Expr} {pos : Pos} {ma mb : E} (ha : OkE N sc sn a ma) (hb : OkE N sc sn b mb) (hs : notSet b = true) : OkE N sc sn (.Compare a [op] [b] pos) (.cmp op ma mb) ∧ OkT N sc sn (.Compare a [op] [b] pos) (.cmp op ma mb) :=
  ⟨⟨fun g => by
    obtain ⟨rr, h1, h2⟩ := cmp_ok op _ g.hu
    exact (c_cmp h1 h2 (ha.ok g) (hb.ok g) hs).1⟩, ⟨fun g => by
    obtain ⟨rr, h1, h2⟩ := cmp_ok op _ g.hu
    exact (c_cmp h1 h2 (ha.ok g) (hb.ok g) hs).2⟩⟩
theorem chainE {op op' : CmpOp} {a b c : Expr} {pos : Pos} {ma mb mc : E} (ha : OkE N sc sn a ma) (hb : OkE N sc sn b mb) (hc : OkE N sc sn c mc) (hs : notSet b = true) (hs' : notSet c = true) :
    OkE N sc sn (.Compare a [op, op'] [b, c] pos) (.chain op op' ma mb mc) ∧ OkT N sc sn (.Compare a [op, op'] [b, c] pos) (.chain op op' ma mb mc) :=
  ⟨⟨fun g => by
    obtain ⟨rr, h1, h2⟩ := cmp_ok op _ g.hu
    obtain ⟨rr', h1', h2'⟩ := cmp_ok op' _ g.hu
    exact (c_chain h1 h2 h1' h2' (ha.ok g) (hb.ok g) (hc.ok g) hs hs').1⟩, ⟨fun g => by
    obtain ⟨rr, h1, h2⟩ := cmp_ok op _ g.hu
    obtain ⟨rr', h1', h2'⟩ := cmp_ok op' _ g.hu
    exact (c_chain h1 h2 h1' h2' (ha.ok g) (hb.ok g) (hc.ok g) hs hs').2⟩⟩
/-- comparisons, as a value and as a test -/
def cCmp (r : Cmp N) (sc : Scope) (sn : Str → Bool) : (a : Expr) → (ops : List CmpOp) → (bs : List Expr) → (pos : Pos) → Option {m : E // OkE N sc sn (.Compare a ops bs pos) m ∧ OkT N sc sn (.Compare a ops bs pos) m}
  | a, [op], [b], pos => if hs : notSet b = true then (match r.e sc sn a, r.e sc sn b with
    | some ⟨ma, ha⟩, some ⟨mb, hb⟩ => some ⟨.cmp op ma mb, cmpE ha hb hs⟩
    | _, _ => none) else none
  | a, [op, op'], [b, c], pos => if hs : notSet b = true ∧ notSet c = true then (match r.e sc sn a, r.e sc sn b, r.e sc sn c with
    | some ⟨ma, ha⟩, some ⟨mb, hb⟩, some ⟨mc, hc⟩ => some ⟨.chain op op' ma mb mc, chainE ha hb hc hs.1 hs.2⟩
    | _, _, _ => none) else none
  | _, _, _, _ => none
def cBoolE (r : Cmp N) (sc : Scope) (sn : Str → Bool) (pos : Pos) : (op : BoolOp) → (vs : List Expr) → Option {m : E // OkE N sc sn (.BoolOp op vs pos) m}
  | _, [] => none
  | _, [a] => match r.e sc sn a with
    | some ⟨m, h⟩ => some ⟨m, ⟨fun g => pe_one (h.ok g)⟩⟩
    | none => none
  | .And, a :: b :: rest => match r.e sc sn a, cBoolE r sc sn pos .And (b :: rest) with
    | some ⟨ma, ha⟩, some ⟨mb, hb⟩ => some ⟨.and ma mb, ⟨fun g => d_and (ha.ok g) (hb.ok g)⟩⟩
    | _, _ => none
  | .Or, a :: b :: rest => match r.e sc sn a, cBoolE r sc sn pos .Or (b :: rest) with
    | some ⟨ma, ha⟩, some ⟨mb, hb⟩ => some ⟨.or ma mb, ⟨fun g => d_or (ha.ok g) (hb.ok g)⟩⟩
    | _, _ => none
def cBoolT (r : Cmp N) (sc : Scope) (sn : Str → Bool) (pos : Pos) : (op : BoolOp) → (vs : List Expr) → Option {m : E // OkW N sc sn (.BoolOp op vs pos) m}
  | _, [] => none
  | .And, [a] => match r.t sc sn a with
    | some ⟨m, h⟩ => some ⟨m, ⟨fun g => pw_and1 (h.ok g)⟩⟩
    | none => none
  | .Or, [a] => match r.t sc sn a with
    | some ⟨m, h⟩ => some ⟨m, ⟨fun g => pw_or1 (h.ok g)⟩⟩
    | none => none
  | .And, a :: b :: rest => match r.t sc sn a, cBoolT r sc sn pos .And (b :: rest) with
    | some ⟨ma, ha⟩, some ⟨mb, hb⟩ => some ⟨.and ma mb, ⟨fun g => t_and (ha.ok g) (hb.ok g)⟩⟩
    | _, _ => none
  | .Or, a :: b :: rest => match r.t sc sn a, cBoolT r sc sn pos .Or (b :: rest) with
    | some ⟨ma, ha⟩, some ⟨mb, hb⟩ => some ⟨.or ma mb, ⟨fun g => t_or (ha.ok g) (hb.ok g)⟩⟩
    | _, _ => none
def giB (sc : Scope) (x : Str) : Bool := decide (sc.names.lookup x = some NameKind.globalImplicit)
theorem gi_of {sc : Scope} {x : Str} (h : giB sc x = true) : GI sc x := of_decide_eq_true h
/-- names of classes in a tuple -/
def cTys (sc : Scope) : (es : List Expr) → Option {ts : List String // TyEs sc es ts ∧ ts.length = es.length}
  | [] => some ⟨[], .nil, rfl⟩
  | .Name x p :: es => match cTys sc es with
    | none => none
    | some ⟨ts, h⟩ => (match tyNames.find? (fun t => decide (x = Str.ofString t)) with
      | none => none
      | some t => if hh : (t ∈ tyNames ∧ GI sc x) ∧ x = Str.ofString t then some ⟨t :: ts, .cons hh.1.1 hh.1.2 hh.2 h.1, by simp [h.2]⟩ else none)
  | _ :: _ => none
/-- targets -/
structure NmsOk (N : List Str) (sc : Scope) (sn : Str → Bool) (es : List Expr) (is : List Nat) : Prop where
  ok : ∀ {Φ : Phi} {Γ : Str → Option D} {k : Nat} {X : Cx}, Good Φ Γ N sc sn k X → PGs X es (gNames is)
  hn : ∀ env : PySem.Env, (assignEach es env).length = is.length
  hst : ∀ env : PySem.Env, (assignEach es env).findIdx? (·.1) = none
theorem pg_nm {Φ : Phi} {Γ : Str → Option D} {k : Nat} {X : Cx} (g : Good Φ Γ N sc sn k X) {i : Nat} {x : Str} {p : Pos} (hi : N[i]? = some x) (hx : sn x = true) : PG X (.Name x p) (gName i) := by
  have h1 : X.N.Nodup := by rw [g.hN]; exact g.nd
  have h2 : X.N[i]? = some x := by rw [g.hN]; exact hi
  exact pg_name h1 h2 (st_loc g hx) (g.st x hx).2
def cGs (N : List Str) (sc : Scope) (sn : Str → Bool) : (es : List Expr) → Option {is : List Nat // NmsOk N sc sn es is}
  | [] => some ⟨[], fun _ => pgs_nil, fun _ => rfl, fun _ => rfl⟩
  | .Name x p :: es => match cGs N sc sn es, ixOf N x with
    | some ⟨is, h⟩, some ⟨i, hi⟩ => if hx : sn x = true then some ⟨i :: is, fun g => pgs_cons (pg_nm g hi hx) (h.ok g) rfl, fun env => by
        show (assignEach es env).length + 1 = is.length + 1
        rw [h.hn env], fun env => by
        show List.findIdx? (·.1) ((false, _) :: assignEach es env) = none
        rw [List.findIdx?_cons, h.hst env]; rfl⟩ else none
    | _, _ => none
  | _ :: _ => none
def cG (N : List Str) (sc : Scope) (sn : Str → Bool) : (ex : Expr) → Option {tg : Tg // OkG N sc sn ex tg}
  | .Name x p => match ixOf N x with
    | some ⟨i, hi⟩ => if hx : sn x = true then some ⟨.one i, ⟨fun g => pg_nm g hi hx⟩⟩ else none
    | none => none
  | .Tuple es kk pos => match cGs N sc sn es with
    | some ⟨is, h⟩ => some ⟨.many is, ⟨fun g => pg_tup g.calm (h.ok g) (h.hn _) (h.hst _)⟩⟩
    | none => none
  | _ => none
/-- a call's form: f, a built-in, of no star -/
def bfB (sc : Scope) (f : Str) (n : String) (es : List Expr) : Bool := decide (f = Str.ofString n) && giB sc f && noStars es
structure Bf (sc : Scope) (f : Str) (n : String) (es : List Expr) : Prop where
  eq : f = Str.ofString n
  gi : GI sc (Str.ofString n)
  ns : ∀ x ∈ es, notStar x = true
theorem bf_of {sc : Scope} {f : Str} {n : String} {es : List Expr} (h : bfB sc f n es = true) : Bf sc f n es := by
  unfold bfB at h
  simp only [Bool.and_eq_true, decide_eq_true_eq] at h
  obtain ⟨⟨h1, h2⟩, h3⟩ := h
  refine ⟨h1, by rw [← h1]; exact gi_of h2, fun x hx => ?_⟩
  unfold noStars at h3
  exact List.all_eq_true.mp h3 x hx
theorem Bf.n1 {sc : Scope} {f : Str} {n : String} {a : Expr} {es : List Expr} (h : Bf sc f n (a :: es)) : notStar a = true := h.ns a List.mem_cons_self
theorem Bf.n2 {sc : Scope} {f : Str} {n : String} {a b : Expr} {es : List Expr} (h : Bf sc f n (a :: b :: es)) : notStar b = true := h.ns b (List.mem_cons_of_mem _ List.mem_cons_self)
theorem Bf.n3 {sc : Scope} {f : Str} {n : String} {a b c : Expr} {es : List Expr} (h : Bf sc f n (a :: b :: c :: es)) : notStar c = true := h.ns c (List.mem_cons_of_mem _ (List.mem_cons_of_mem _ List.mem_cons_self))
def cI0 (r : Cmp N) (sc : Scope) (sn : Str → Bool) (tg ex : Expr) : Option {m : E // OkI N sc sn tg ex m} := match r.e sc sn ex with
    | some ⟨m, h⟩ => some ⟨.seq m, ⟨fun g => i_seq (h.ok g)⟩⟩
    | none => none
/-- what is walked -/
def cI (r : Cmp N) (sc : Scope) (sn : Str → Bool) : (tg ex : Expr) → Option {m : E // OkI N sc sn tg ex m}
  | tg, .Call (.Name f p) [a] [] pos =>
    if hf : bfB sc f "range" [a] = true then (match r.e sc sn a with
      | some ⟨m, h⟩ => some ⟨.range1 m, ⟨fun g => by
          obtain ⟨rfl, h1, h2⟩ := bf_of hf
          exact i_range1 g h1 (bf_of hf).n1 (h.ok g)⟩⟩
      | none => none)
    else if hf : bfB sc f "enumerate" [a] = true then (match tg, r.e sc sn a with
      | .Tuple es kk tp, some ⟨m, h⟩ => some ⟨.enum m, ⟨fun g => by
          obtain ⟨rfl, h1, h2⟩ := bf_of hf
          exact i_enumA g h1 (bf_of hf).n1 (h.ok g)⟩⟩
      | _, _ => none)
    else cI0 r sc sn tg (.Call (.Name f p) [a] [] pos)
  | tg, .Call (.Name f p) [a, b] [] pos =>
    if hf : bfB sc f "range" [a, b] = true then (match r.e sc sn a, r.e sc sn b with
      | some ⟨m, h⟩, some ⟨m', h'⟩ => some ⟨.range2 m m', ⟨fun g => by
          obtain ⟨rfl, h1, h2⟩ := bf_of hf
          exact i_range2 g h1 (bf_of hf).n1 (bf_of hf).n2 (h.ok g) (h'.ok g)⟩⟩
      | _, _ => none)
    else if hf : bfB sc f "zip" [a, b] = true then (match tg, r.e sc sn a, r.e sc sn b with
      | .Tuple es kk tp, some ⟨m, h⟩, some ⟨m', h'⟩ => some ⟨.zip m m', ⟨fun g => by
          obtain ⟨rfl, h1, h2⟩ := bf_of hf
          exact i_zip g h1 (bf_of hf).n1 (bf_of hf).n2 (h.ok g) (h'.ok g)⟩⟩
      | _, _, _ => none)
    else cI0 r sc sn tg (.Call (.Name f p) [a, b] [] pos)
  | tg, .Call (.Name f p) [a, b, c] [] pos =>
    if hf : bfB sc f "range" [a, b, c] = true then (match r.e sc sn a, r.e sc sn b, r.e sc sn c with
      | some ⟨m, h⟩, some ⟨m', h'⟩, some ⟨m2, h2'⟩ => some ⟨.range3 m m' m2, ⟨fun g => by
          obtain ⟨rfl, h1, h2⟩ := bf_of hf
          exact i_range3 g h1 (bf_of hf).n1 (bf_of hf).n2 (bf_of hf).n3 (h.ok g) (h'.ok g) (h2'.ok g)⟩⟩
      | _, _, _ => none)
    else if hf : bfB sc f "zip" [a, b, c] = true then (match tg, r.e sc sn a, r.e sc sn b, r.e sc sn c with
      | .Tuple es kk tp, some ⟨m, h⟩, some ⟨m', h'⟩, some ⟨m2, h2'⟩ => some ⟨.zip3 m m' m2, ⟨fun g => by
          obtain ⟨rfl, h1, h2⟩ := bf_of hf
          exact i_zip3 g h1 (bf_of hf).n1 (bf_of hf).n2 (bf_of hf).n3 (h.ok g) (h'.ok g) (h2'.ok g)⟩⟩
      | _, _, _, _ => none)
    else cI0 r sc sn tg (.Call (.Name f p) [a, b, c] [] pos)
  | tg, ex => cI0 r sc sn tg ex
/-- a comprehension's own names -/
def ownOf (N : List Str) (scope : Scope) : List (Str × Nat) := scope.names.filterMap fun y => match y.2 with
  | .local => (ixOf N y.1).map fun i => (y.1, i.1)
  | .cell => (ixOf N y.1).map fun i => (y.1, i.1)
  | _ => none
def snC (scope : Scope) (x : Str) : Bool := decide (scope.names.lookup x = some .local) || decide (scope.names.lookup x = some .cell)
theorem good_blk {Φ : Phi} {Γ : Str → Option D} {k : Nat} {X : Cx} (g : Good Φ Γ N sc sn k X) (scope : Scope) (s : Shared) (H : Hp) (C : Addr) (cl : List (Str × Addr)) (fp : List Addr) :
    Good Φ Γ N (relS scope sc) (snC scope) k (X.blk s H scope (compEnvC scope cl C X.env) fp) := by
  have hsc : (compEnvC scope cl C X.env).scope = relS scope sc := by rw [← g.hs]; rfl
  refine ⟨g.hN, g.nd, hsc, g.calm, g.room, rfl, g.fns, g.blt, g.gl, fun x hx => ?_⟩
  have e : (X.blk s H scope (compEnvC scope cl C X.env) fp).env.scope = relS scope sc := hsc
  unfold snC at hx
  simp only [Bool.or_eq_true, decide_eq_true_eq] at hx
  rcases hx with hx | hx
  · have : (relS scope sc).names.lookup x = some .local := lookup_relS_keep (by decide) hx
    exact ⟨.inl (by rw [e]; exact this), .inr (by rw [e]; exact this)⟩
  · have : (relS scope sc).names.lookup x = some .cell := lookup_relS_keep (by decide) hx
    exact ⟨.inr (by rw [e]; exact this), .inl (by
      show (scope.names.lookup x == some NameKind.cell) = true
      rw [hx]; rfl)⟩
/-- a clause's tests -/
def cIfs (r : Cmp N) (sc : Scope) (sn : Str → Bool) : (ifs : List Expr) → Option {m : E // OkQ N sc sn ifs m}
  | [] => some ⟨.kB true, ⟨fun _ => ⟨fun pins s σ H Q I ⟨G, ρ, b, ρ', F, hf, q⟩ => by
      have hf' : some (PyData.bool true, ρ) = some (.bool b, ρ') := hf
      cases hf'
      exact pts_nil.run pins s σ H Q I (q G H F .refl)⟩⟩⟩
  | [c] => match r.t sc sn c with
    | some ⟨m, h⟩ => some ⟨m, ⟨fun g => pts_one (h.ok g)⟩⟩
    | none => none
  | _ => none
/-- the parts of a comprehension of one clause -/
structure LcP (N : List Str) (sc : Scope) (sn : Str → Bool) (elt tg iter : Expr) (ifs : List Expr) (scope : Scope) where
  own : List (Str × Nat)
  tgt : Tg
  mi : E
  mc : E
  ma : E
  ok : BlkOk N sc scope own
  hset : notSet iter = true
  hi : OkI N sc sn tg iter mi
  hg : OkG N (relS scope sc) (snC scope) tg tgt
  ht : OkQ N (relS scope sc) (snC scope) ifs mc
  ha : OkE N (relS scope sc) (snC scope) elt ma
  htg : ∀ j ∈ tgIx tgt, j ∈ own.map (·.2)
def cLcP (r : Cmp N) (sc : Scope) (sn : Str → Bool) (elt tg iter : Expr) (ifs : List Expr) (scope : Scope) : Option (LcP N sc sn elt tg iter ifs scope) :=
  match cI r sc sn tg iter, cG N (relS scope sc) (snC scope) tg, cIfs r (relS scope sc) (snC scope) ifs, r.e (relS scope sc) (snC scope) elt with
  | some ⟨mi, hi⟩, some ⟨tgt, hg⟩, some ⟨mc, ht⟩, some ⟨ma, ha⟩ =>
    if h : (blkC N sc scope (ownOf N scope) = true ∧ notSet iter = true) ∧ (tgIx tgt).all (fun j => ((ownOf N scope).map (·.2)).contains j) = true then
      some ⟨ownOf N scope, tgt, mi, mc, ma, blkOk_by h.1.1, h.1.2, hi, hg, ht, ha, fun j hj => by simpa using List.all_eq_true.mp h.2 j hj⟩ else none
  | _, _, _, _ => none
def LcP.m {elt tg iter : Expr} {ifs : List Expr} {scope : Scope} (p : LcP N sc sn elt tg iter ifs scope) : E := .comp (p.own.map (·.2)) p.tgt p.mi p.mc p.ma
theorem LcP.okF {elt tg iter : Expr} {ifs : List Expr} {scope : Scope} {pos : Pos} (p : LcP N sc sn elt tg iter ifs scope) : OkF N sc sn (.ListComp elt [⟨tg, iter, ifs, 0⟩] scope pos) p.m := ⟨fun g =>
  d_lc g (p.hi.ok g) p.ok p.hset (fun s H C cl fp => p.hg.ok (good_blk g scope s H C cl fp)) (fun s H C cl fp => p.ht.ok (good_blk g scope s H C cl fp)) (fun s H C cl fp => p.ha.ok (good_blk g scope s H C cl fp)) p.htg⟩

theorem d_lc2 {Φ : Phi} {Γ : Str → Option D} {k : Nat} {X : Cx} {e : Ent} (g : Good Φ Γ N sc sn k X) {pos : Pos} {elt tg iter tg1 iter1 : Expr} {ifs ifs1 : List Expr} {scope : Scope} {own : List (Str × Nat)} {tgt tgt1 : Tg} {fi fi1 : Ev (List D)} {fc fc1 fa : Ev D}
    (hpi : PI X tg iter (dI X.K e fi)) (ok : BlkOk N sc scope own) (hset : notSet iter = true) (hset1 : notSet iter1 = true)
    (hg : ∀ (s : Shared) (H : Hp) (C : Addr) (cl : List (Str × Addr)) (fp : List Addr), PG (X.blk s H scope (compEnvC scope cl C X.env) fp) tg (tgG X.K tgt))
    (ht : ∀ (s : Shared) (H : Hp) (C : Addr) (cl : List (Str × Addr)) (fp : List Addr), PTs (X.blk s H scope (compEnvC scope cl C X.env) fp) ifs (dT X.K e fc))
    (hpi1 : ∀ (s : Shared) (H : Hp) (C : Addr) (cl : List (Str × Addr)) (fp : List Addr), PI (X.blk s H scope (compEnvC scope cl C X.env) fp) tg1 iter1 (dI X.K e fi1))
    (hg1 : ∀ (s : Shared) (H : Hp) (C : Addr) (cl : List (Str × Addr)) (fp : List Addr), PG (X.blk s H scope (compEnvC scope cl C X.env) fp) tg1 (tgG X.K tgt1))
    (ht1 : ∀ (s : Shared) (H : Hp) (C : Addr) (cl : List (Str × Addr)) (fp : List Addr), PTs (X.blk s H scope (compEnvC scope cl C X.env) fp) ifs1 (dT X.K e fc1))
    (he : ∀ (s : Shared) (H : Hp) (C : Addr) (cl : List (Str × Addr)) (fp : List Addr), PE (X.blk s H scope (compEnvC scope cl C X.env) fp) elt (dE X.K e fa)) (htg : ∀ j ∈ tgIx tgt, j ∈ own.map (·.2)) (hv : ∀ j ∈ tgIx tgt1, j ∈ own.map (·.2)) :
    PE X (.ListComp elt [⟨tg, iter, ifs, 0⟩, ⟨tg1, iter1, ifs1, 0⟩] scope pos) (dF X.K e (eB (lcRun2 (own.map (·.2)) (tgIx tgt1) tgt fi fc tgt1 fi1 fc1 fa) fun ds => eP (.list ds))) :=
  pe_imp (pe_lc2 g.calm (by rw [g.hN]; exact g.nd) hpi (by rw [g.hN, g.hs]; exact ok) hv hg ht hpi1 hg1 ht1 he (folded_of hset) (fun _ => folded_of hset1)) fun σ H Q q => lc2_read htg (fun _ h => h) hv q
def cList0 (r : Cmp N) (sc : Scope) (sn : Str → Bool) (f : Str) (p : Pos) (a : Expr) (pos : Pos) : Option {m : E // OkF N sc sn (.Call (.Name f p) [a] [] pos) m ∧ LV m} :=
  if hf : bfB sc f "list" [a] = true then (match r.e sc sn a with
        | some ⟨m, h⟩ => some ⟨.b1 .list m, ⟨fun g => by
            obtain ⟨rfl, h1, h2⟩ := bf_of hf
            exact d_listF g h1 (bf_of hf).n1 (h.ok g)⟩, LV_list m⟩
        | none => none) else none
/-- new lists -/
def cF (Sc : List Nat) (r : Cmp N) (sc : Scope) (sn : Str → Bool) : (ex : Expr) → Option {m : E // OkF N sc sn ex m ∧ LV m}
  | .List es pos => match cL r sc sn es with
    | some ⟨m, h⟩ => some ⟨.lst m, ⟨fun g => d_lst (h.ok g)⟩, LV_lst m⟩
    | none => none
  | .Call (.Name f p) [.Name x p2] [] pos =>
    if hf : bfB sc f "list" [.Name x p2] = true then (match nmOf N sc x with
        | some ⟨i, h⟩ => if Sc.contains i then some ⟨.scr i, ⟨fun g => by
            obtain ⟨rfl, h1, h2⟩ := bf_of hf
            exact d_scr g h.hi h.hv h.hd h.hc h1⟩, LV_scr i⟩ else cList0 r sc sn f p (.Name x p2) pos
        | none => cList0 r sc sn f p (.Name x p2) pos) else none
  | .Call (.Name f p) [.Call (.Name f2 p2) [b] [] p3] [] pos =>
    if hf : bfB sc f "list" [] = true ∧ bfB sc f2 "range" [b] = true then (match r.e sc sn b with
          | some ⟨m, h⟩ => some ⟨.listOf (.range1 m), ⟨fun g => by
              obtain ⟨rfl, h1, _⟩ := bf_of hf.1
              obtain ⟨rfl, h3, _⟩ := bf_of hf.2
              exact d_listR1 g h1 h3 (bf_of hf.2).n1 (h.ok g)⟩, LV_listOf _⟩
          | none => none)
    else if hf : bfB sc f "sorted" [] = true ∧ bfB sc f2 "set" [b] = true then (match r.e sc sn b with
          | some ⟨m, h⟩ => some ⟨.b1 .sset m, ⟨fun g => by
              obtain ⟨rfl, h1, _⟩ := bf_of hf.1
              obtain ⟨rfl, h3, _⟩ := bf_of hf.2
              exact d_ssetF g h1 h3 (bf_of hf.2).n1 (h.ok g)⟩, LV_sset _⟩
          | none => none)
    else cList0 r sc sn f p (.Call (.Name f2 p2) [b] [] p3) pos
  | .Call (.Name f p) [.Call (.Name f2 p2) [b, c] [] p3] [] pos =>
    if hf : bfB sc f "list" [] = true ∧ bfB sc f2 "range" [b, c] = true then (match r.e sc sn b, r.e sc sn c with
          | some ⟨m, h⟩, some ⟨m', h'⟩ => some ⟨.listOf (.range2 m m'), ⟨fun g => by
              obtain ⟨rfl, h1, _⟩ := bf_of hf.1
              obtain ⟨rfl, h3, _⟩ := bf_of hf.2
              exact d_listR2 g h1 h3 (bf_of hf.2).n1 (bf_of hf.2).n2 (h.ok g) (h'.ok g)⟩, LV_listOf _⟩
          | _, _ => none) else cList0 r sc sn f p (.Call (.Name f2 p2) [b, c] [] p3) pos
  | .Call (.Name f p) [a] [] pos => cList0 r sc sn f p a pos
  | .ListComp elt [⟨tg, iter, ifs, 0⟩] scope pos => match cLcP r sc sn elt tg iter ifs scope with
    | some p => some ⟨p.m, p.okF, LV_comp _ _ _ _ _⟩
    | none => none
  | .ListComp elt [⟨tg, iter, ifs, 0⟩, ⟨tg1, iter1, ifs1, 0⟩] scope pos => match cI r sc sn tg iter, cG N (relS scope sc) (snC scope) tg, cIfs r (relS scope sc) (snC scope) ifs, cI r (relS scope sc) (snC scope) tg1 iter1, cG N (relS scope sc) (snC scope) tg1, cIfs r (relS scope sc) (snC scope) ifs1, r.e (relS scope sc) (snC scope) elt with
    | some ⟨mi, hi⟩, some ⟨tgt, hg⟩, some ⟨mc, ht⟩, some ⟨mi1, hi1⟩, some ⟨tgt1, hg1⟩, some ⟨mc1, ht1⟩, some ⟨ma, ha⟩ =>
      if h : (blkC N sc scope (ownOf N scope) = true ∧ notSet iter = true ∧ notSet iter1 = true) ∧ (tgIx tgt).all (fun j => ((ownOf N scope).map (·.2)).contains j) = true ∧ (tgIx tgt1).all (fun j => ((ownOf N scope).map (·.2)).contains j) = true then
        some ⟨.comp2 ((ownOf N scope).map (·.2)) (tgIx tgt1) tgt mi mc tgt1 mi1 mc1 ma, ⟨fun g => d_lc2 g (hi.ok g) (blkOk_by h.1.1) h.1.2.1 h.1.2.2
          (fun s H C cl fp => hg.ok (good_blk g scope s H C cl fp)) (fun s H C cl fp => ht.ok (good_blk g scope s H C cl fp))
          (fun s H C cl fp => hi1.ok (good_blk g scope s H C cl fp)) (fun s H C cl fp => hg1.ok (good_blk g scope s H C cl fp)) (fun s H C cl fp => ht1.ok (good_blk g scope s H C cl fp))
          (fun s H C cl fp => ha.ok (good_blk g scope s H C cl fp)) (fun j hj => by simpa using List.all_eq_true.mp h.2.1 j hj) (fun j hj => by simpa using List.all_eq_true.mp h.2.2 j hj)⟩, LV_comp2 _ _ _ _ _ _ _ _ _⟩ else none
    | _, _, _, _, _, _, _ => none
  | _ => none
/-- new lists, for a slot of their own: sums too -/
def cFo (Sc : List Nat) (r : Cmp N) (sc : Scope) (sn : Str → Bool) : (ex : Expr) → Option {m : E // OkF N sc sn ex m}
  | .BinOp a .Add b pos => match r.e sc sn a, r.e sc sn b with
    | some ⟨ma, ha⟩, some ⟨mb, hb⟩ => some ⟨.bin .Add ma mb, ⟨fun g => d_opL op_addD o2_addL (ha.ok g) (hb.ok g)⟩⟩
    | _, _ => none
  | ex => (cF Sc r sc sn ex).map fun p => ⟨p.1, p.2.1⟩
end

/-! Px14: the compiler: all expressions, statements, defs. -/
open PySem PySem.Spec PyProof.Rows
section
variable {N : List Str} {sc : Scope} {sn : Str → Bool}
/-- a call of an own def -/
def cCall (M : List Nat) (r : Cmp N) (sc : Scope) (sn : Str → Bool) (f : Str) (p pos : Pos) : (es : List Expr) → Option {m : E // OkE N sc sn (.Call (.Name f p) es [] pos) m}
  | [] => if h : giB sc f = true then some ⟨.call f .nil, ⟨fun g => d_call0 g (gi_of h)⟩⟩ else none
  | a :: es => if h : giB sc f = true ∧ noStars (a :: es) = true then (match cA M r sc sn (a :: es) with
    | some ⟨m, hm⟩ => some ⟨.call f m, ⟨fun g => d_call g (gi_of h.1) h.2 (hm.ok g)⟩⟩
    | none => none) else none
/-- a call by one argument: built-in or own -/
def cB1 (M : List Nat) (r : Cmp N) (sc : Scope) (sn : Str → Bool) (f : Str) (p : Pos) (a : Expr) (pos : Pos) : Option {m : E // OkE N sc sn (.Call (.Name f p) [a] [] pos) m} :=
  if hf : bfB sc f "len" [a] = true then (match r.e sc sn a with
    | some ⟨m, h⟩ => some ⟨.b1 .len m, ⟨fun g => by
        obtain ⟨rfl, h1, _⟩ := bf_of hf
        exact d_len g h1 (bf_of hf).n1 (h.ok g)⟩⟩
    | none => none)
  else if hf : bfB sc f "tuple" [a] = true then (match r.e sc sn a with
    | some ⟨m, h⟩ => some ⟨.b1 .tuple m, ⟨fun g => by
        obtain ⟨rfl, h1, _⟩ := bf_of hf
        exact d_tuple g h1 (bf_of hf).n1 (h.ok g)⟩⟩
    | none => none)
  else if hf : bfB sc f "int" [a] = true then (match r.e sc sn a with
    | some ⟨m, h⟩ => some ⟨.b1 .int m, ⟨fun g => by
        obtain ⟨rfl, h1, _⟩ := bf_of hf
        exact d_int g h1 (bf_of hf).n1 (h.ok g)⟩⟩
    | none => none)
  else if hf : bfB sc f "sum" [a] = true then (match r.e sc sn a with
    | some ⟨m, h⟩ => some ⟨.b1 .sum m, ⟨fun g => by
        obtain ⟨rfl, h1, _⟩ := bf_of hf
        exact d_sum g h1 (bf_of hf).n1 (h.ok g)⟩⟩
    | none => none)
  else if hf : bfB sc f "any" [a] = true then (match r.e sc sn a with
    | some ⟨m, h⟩ => some ⟨.b1 .any m, ⟨fun g => by
        obtain ⟨rfl, h1, _⟩ := bf_of hf
        exact d_any g h1 (bf_of hf).n1 (h.ok g)⟩⟩
    | none => none)
  else if hf : bfB sc f "all" [a] = true then (match r.e sc sn a with
    | some ⟨m, h⟩ => some ⟨.b1 .all m, ⟨fun g => by
        obtain ⟨rfl, h1, _⟩ := bf_of hf
        exact d_all g h1 (bf_of hf).n1 (h.ok g)⟩⟩
    | none => none)
  else cCall M r sc sn f p pos [a]
def tyOf (sc : Scope) (x : Str) : Option {t : String // t ∈ tyNames ∧ GI sc x ∧ x = Str.ofString t} :=
  match tyNames.find? (fun t => decide (x = Str.ofString t)) with
  | none => none
  | some t => if h : (t ∈ tyNames ∧ GI sc x) ∧ x = Str.ofString t then some ⟨t, h.1.1, h.1.2, h.2⟩ else none
def cB2 (M : List Nat) (r : Cmp N) (sc : Scope) (sn : Str → Bool) (f : Str) (p : Pos) (a b : Expr) (pos : Pos) : Option {m : E // OkE N sc sn (.Call (.Name f p) [a, b] [] pos) m} :=
  if hf : bfB sc f "max" [a, b] = true then (match r.e sc sn a, r.e sc sn b with
    | some ⟨m, h⟩, some ⟨m', h'⟩ => some ⟨.b2 .max m m', ⟨fun g => by
        obtain ⟨rfl, h1, _⟩ := bf_of hf
        exact d_max g h1 (bf_of hf).n1 (bf_of hf).n2 (h.ok g) (h'.ok g)⟩⟩
    | _, _ => none)
  else if hf : bfB sc f "min" [a, b] = true then (match r.e sc sn a, r.e sc sn b with
    | some ⟨m, h⟩, some ⟨m', h'⟩ => some ⟨.b2 .min m m', ⟨fun g => by
        obtain ⟨rfl, h1, _⟩ := bf_of hf
        exact d_min g h1 (bf_of hf).n1 (bf_of hf).n2 (h.ok g) (h'.ok g)⟩⟩
    | _, _ => none)
  else cCall M r sc sn f p pos [a, b]
/-- isinstance(a, T), isinstance(a, (T, ..)) -/
def cIsi (r : Cmp N) (sc : Scope) (sn : Str → Bool) (p : Pos) (a : Expr) (pos : Pos) : (b : Expr) → Option {m : E // OkE N sc sn (.Call (.Name "isinstance" p) [a, b] [] pos) m}
  | .Name x p2 => if hf : bfB sc "isinstance" "isinstance" [a] = true then (match tyOf sc x, r.e sc sn a with
    | some ⟨t, h1, h2, h3⟩, some ⟨m, h⟩ => some ⟨.isi m [t], ⟨fun g => d_isi1 g (bf_of hf).gi (bf_of hf).n1 (h.ok g) h1 h2 h3⟩⟩
    | _, _ => none) else none
  | .Tuple es kk p2 => if hf : bfB sc "isinstance" "isinstance" [a] = true ∧ es.length ≤ 10 then (match cTys sc es, r.e sc sn a with
    | some ⟨ts, h1, h2⟩, some ⟨m, h⟩ => some ⟨.isi m ts, ⟨fun g => d_isiT g (bf_of hf.1).gi (bf_of hf.1).n1 (h.ok g) h1 (by omega)⟩⟩
    | _, _ => none) else none
  | _ => none
def notSuper : Expr → Bool
  | .Call .. => false
  | _ => true
theorem attrBase_of {o : Expr} {a : Str} {env : PySem.Env} (h : notSuper o = true) : attributeBase o a env (eval o env) = eval o env := by
  cases o <;> first | rfl | (simp [notSuper] at h)
def sxB (ex : Expr) : Bool := match ex with
  | .UnaryOp .USub (.Constant (.int 1) _ _) _ => true
  | _ => false
/-- a subscript -/
def cSub (M : List Nat) (r : Cmp N) (sc : Scope) (sn : Str → Bool) (pos : Pos) : (a b : Expr) → Option {m : E // OkE N sc sn (.Subscript a b pos) m}
  | a, .Slice none none (some (.UnaryOp .USub (.Constant (.int 1) j p1) p2)) p3 => match r.e sc sn a with
    | some ⟨m, h⟩ => some ⟨.rev m, ⟨fun g => d_rev (h.ok g)⟩⟩
    | none => none
  | a, .Slice none none (some sx) p3 => match r.e sc sn a, r.e sc sn sx with
    | some ⟨m, h⟩, some ⟨m', h'⟩ => some ⟨.step m m', ⟨fun g => d_step (h.ok g) (h'.ok g)⟩⟩
    | _, _ => none
  | a, .Slice lo hi none p3 => match r.e sc sn a, cP r sc sn lo, cP r sc sn hi with
    | some ⟨m, h⟩, some ⟨m1, h1⟩, some ⟨m2, h2⟩ => some ⟨.slice m m1 m2, ⟨fun g => d_slice (h.ok g) (h1.ok g) (h2.ok g)⟩⟩
    | _, _, _ => none
  | .Name x p, b => if hb : notSlice b = true then (match r.e sc sn b with
    | some ⟨m', h'⟩ => (match nmOf N sc x with
      | some ⟨i, h⟩ => if M.contains i then some ⟨.ownIdx i m', ⟨fun g => d_ownIdx g h.hi h.hv h.hd h.hc (h'.ok g) hb⟩⟩ else some ⟨.idx (.var i) m', ⟨fun g => d_idx (d_var g h.hi h.hv h.hd h.hc) (h'.ok g) hb⟩⟩
      | none => (match r.e sc sn (.Name x p) with
        | some ⟨m, h⟩ => some ⟨.idx m m', ⟨fun g => d_idx (h.ok g) (h'.ok g) hb⟩⟩
        | none => none))
    | none => none) else none
  | a, b => if hb : notSlice b = true then (match r.e sc sn a, r.e sc sn b with
    | some ⟨m, h⟩, some ⟨m', h'⟩ => some ⟨.idx m m', ⟨fun g => d_idx (h.ok g) (h'.ok g) hb⟩⟩
    | _, _ => none) else none
def cE (M Sc : List Nat) (r : Cmp N) (sc : Scope) (sn : Str → Bool) : (ex : Expr) → Option {m : E // OkE N sc sn ex m}
  | .Name x p => match nmOf N sc x with
    | some ⟨i, h⟩ => some ⟨.var i, ⟨fun g => d_var g h.hi h.hv h.hd h.hc⟩⟩
    | none => if h : giB sc x = true then some ⟨.glob x, ⟨fun g => d_glob g (gi_of h)⟩⟩ else none
  | .Constant .none j p => some ⟨.kN, ⟨fun _ => d_const pe_non fun _ => .non⟩⟩
  | .Constant (.bool b) j p => some ⟨.kB b, ⟨fun _ => d_const pe_bl fun _ => .bl b⟩⟩
  | .Constant (.int i) j p => some ⟨.kI i, ⟨fun _ => d_const pe_int fun _ => .int i⟩⟩
  | .Constant (.str s) j p => some ⟨.kS s, ⟨fun _ => d_const pe_str fun _ => .str s⟩⟩
  | .Tuple es kk pos => match cL r sc sn es with
    | some ⟨m, h⟩ => some ⟨.tup m, ⟨fun g => d_tup (h.ok g)⟩⟩
    | none => none
  | .BinOp a op b pos => if ho : op = .Add ∨ op = .Sub ∨ op = .Mult ∨ op = .FloorDiv ∨ op = .Mod ∨ op = .Pow then (match r.e sc sn a, r.e sc sn b with
    | some ⟨ma, ha⟩, some ⟨mb, hb⟩ => some ⟨.bin op ma mb, ⟨fun {Φ Γ k X e} g => by
        obtain ⟨rr, h1, h2⟩ := bin_ok op ho X
        exact d_op h1 h2 (ha.ok g) (hb.ok g)⟩⟩
    | _, _ => none) else none
  | .UnaryOp .USub a pos => match r.e sc sn a with
    | some ⟨m, h⟩ => some ⟨.neg m, ⟨fun g => d_neg (h.ok g)⟩⟩
    | none => none
  | .UnaryOp .Not a pos => match r.e sc sn a with
    | some ⟨m, h⟩ => some ⟨.not m, ⟨fun g => d_notV (h.ok g)⟩⟩
    | none => none
  | .BoolOp op vs pos => cBoolE r sc sn pos op vs
  | .Compare a ops bs pos => (cCmp r sc sn a ops bs pos).map fun p => ⟨p.1, p.2.1⟩
  | .IfExp c a b pos => match r.t sc sn c, r.e sc sn a, r.e sc sn b with
    | some ⟨mc, hc⟩, some ⟨ma, ha⟩, some ⟨mb, hb⟩ => some ⟨.ite mc ma mb, ⟨fun g => d_ite (hc.ok g) (ha.ok g) (hb.ok g)⟩⟩
    | _, _, _ => none
  | .Subscript a b pos => cSub M r sc sn pos a b
  | .Call (.Attribute o m ap) [a] [] cp => if h : m = "count" ∧ notStar a = true ∧ (ap.endLine == cp.line) = true ∧ notSuper o = true then (match r.e sc sn o, r.e sc sn a with
    | some ⟨mo, ho⟩, some ⟨ma, ha⟩ => some ⟨.m1 .count mo ma, ⟨fun g => by
        obtain ⟨rfl, h1, h2, h3⟩ := h
        exact d_count g h1 h2 (attrBase_of h3) (ho.ok g) (ha.ok g)⟩⟩
    | _, _ => none) else none
  | .Call (.Name f p) [.Name x p2] [] pos => if hf : bfB sc f "len" [.Name x p2] = true then (match nmOf N sc x with
      | some ⟨i, h⟩ => if M.contains i then some ⟨.ownLen i, ⟨fun g => by
          obtain ⟨rfl, h1, _⟩ := bf_of hf
          exact d_ownLen g h.hi h.hv h.hd h.hc h1⟩⟩ else cB1 M r sc sn f p (.Name x p2) pos
      | none => cB1 M r sc sn f p (.Name x p2) pos)
    else (match cF Sc r sc sn (.Call (.Name f p) [.Name x p2] [] pos) with
      | some q => some (ofF q)
      | none => cB1 M r sc sn f p (.Name x p2) pos)
  | .Call (.Name f p) [a] [] pos => (match cF Sc r sc sn (.Call (.Name f p) [a] [] pos) with
      | some q => some (ofF q)
      | none => cB1 M r sc sn f p a pos)
  | .Call (.Name f p) [a, b] [] pos => if hf : f = "isinstance" then (match cIsi r sc sn p a pos b with
      | some ⟨m, h⟩ => some ⟨m, by rw [hf]; exact h⟩
      | none => none)
    else cB2 M r sc sn f p a b pos
  | .Call (.Name f p) es [] pos => cCall M r sc sn f p pos es
  | ex => (cF Sc r sc sn ex).map ofF
def cT (r : Cmp N) (E0 : ∀ (sc : Scope) (sn : Str → Bool) (ex : Expr), Option {m : E // OkE N sc sn ex m}) (sc : Scope) (sn : Str → Bool) : (ex : Expr) → Option {m : E // OkT N sc sn ex m}
  | .UnaryOp .Not a pos => match r.t sc sn a with
    | some ⟨m, h⟩ => some ⟨.not m, ⟨fun g => t_not (h.ok g)⟩⟩
    | none => none
  | .BoolOp op vs pos => match cBoolT r sc sn pos op vs with
    | some ⟨m, h⟩ => some ⟨m, ⟨fun g => (h.ok g).pt⟩⟩
    | none => none
  | .Compare a ops bs pos => (cCmp r sc sn a ops bs pos).map fun p => ⟨p.1, p.2.2⟩
  | ex => if hp : plainT ex = true then (match E0 sc sn ex with
    | some ⟨m, h⟩ => some ⟨.truth m, ⟨fun g => t_val (h.ok g) hp⟩⟩
    | none => none) else none
def cmp (N : List Str) (M Sc : List Nat) : Nat → Cmp N
  | 0 => ⟨fun _ _ _ => none, fun _ _ _ => none⟩
  | n + 1 => ⟨cE M Sc (cmp N M Sc n), cT (cmp N M Sc n) (cE M Sc (cmp N M Sc n))⟩
end

/-! Px15: the compiler of statements. -/
open PySem PySem.Spec PyProof.Rows
section
variable {N : List Str} {sc : Scope}
structure OkS (N : List Str) (sc : Scope) (st : Stmt) (m : S) : Prop where
  ok : ∀ {Φ : Phi} {Γ : Str → Option D} {k : Nat} {X : Cx} {e : Ent}, Good Φ Γ N sc (snF sc) k X → PS X st (dS X.K e (evS Φ Γ m))
structure OkB (N : List Str) (sc : Scope) (ss : List Stmt) (m : S) : Prop where
  ok : ∀ {Φ : Phi} {Γ : Str → Option D} {k : Nat} {X : Cx} {e : Ent}, Good Φ Γ N sc (snF sc) k X → PSs X ss (dS X.K e (evS Φ Γ m))
def locB (sc : Scope) (x : Str) : Bool := decide (sc.names.lookup x = some .local)
/-- may stand on the right of name = .. without the in-place swap -/
def noSwap (sc : Scope) (x : Str) (py : Pos) : (ex : Expr) → Bool
  | .ListComp _ _ scope pos => !(decide (sc.names.lookup x = some .local) && (py.line == pos.line) && !(scope.names.any fun (n, k) => n == x && (k == .local || k == .cell)))
  | ex => notComp ex
theorem noSwap_ok {x : Str} {py : Pos} {ex : Expr} {l : Nat} {env : PySem.Env} (h : noSwap env.scope x py ex = true) : swapsWith ex (some (.Name x py)) l env = pure false := by
  cases ex with
  | ListComp elt gs scope pos =>
    unfold noSwap at h
    exact swapsT_false (by rw [Bool.not_eq_true'] at h; exact h)
  | _ => exact swaps_of h
/-- x = [..], swapped in place -/
def cSwap (M : List Nat) (r : Cmp N) (x : Str) (py pos : Pos) : (ex : Expr) → Option {m : S // OkS N sc (.Assign [.Name x py] ex pos) m}
  | .ListComp elt [⟨tg, iter, ifs, 0⟩] scope p2 => match cLcP r sc (snF sc) elt tg iter ifs scope, ixOf N x with
    | some p, some ⟨i, hi⟩ => if h : (locB sc x = true ∧ sc.kind = .function) ∧ (py.line == p2.line) = true ∧ (scope.names.any fun (n, k) => n == x && (k == .local || k == .cell)) = false then
        some ⟨.set i p.m, ⟨fun g => s_setLc g hi (of_decide_eq_true h.1.1) h.1.2 h.2.1 h.2.2 (p.hi.ok g) p.ok p.hset (fun s H C cl fp => p.hg.ok (good_blk g scope s H C cl fp)) (fun s H C cl fp => p.ht.ok (good_blk g scope s H C cl fp)) (fun s H C cl fp => p.ha.ok (good_blk g scope s H C cl fp)) p.htg⟩⟩ else none
    | _, _ => none
  | _ => none
def cSet (M Sc : List Nat) (r : Cmp N) (x : Str) (py pos : Pos) (ex : Expr) : Option {m : S // OkS N sc (.Assign [.Name x py] ex pos) m} :=
  match ixOf N x with
  | none => none
  | some ⟨i, hi⟩ => if h : snF sc x = true ∧ noSwap sc x py ex = true then
      (if M.contains i && (cFo Sc r sc (snF sc) ex).isSome then (match cFo Sc r sc (snF sc) ex with
        | some ⟨m, hm⟩ => some ⟨.setO i m, ⟨fun g => s_setO g hi h.1 (noSwap_ok (by rw [g.hs]; exact h.2)) (hm.ok g)⟩⟩
        | none => none)
      else (match r.e sc (snF sc) ex with
        | some ⟨m, hm⟩ => some ⟨.set i m, ⟨fun g => s_set g hi h.1 (noSwap_ok (by rw [g.hs]; exact h.2)) (hm.ok g)⟩⟩
        | none => none))
    else cSwap (sc := sc) M r x py pos ex
def tupB : Expr → Bool
  | .Tuple vs _ _ => noStars vs
  | _ => true
theorem swNone' {env : PySem.Env} {ts : List Expr} {v : Expr} {kt : Nat} {pt : Pos} (h : swN env.scope ts v = true) (hv : tupB v = true) : swappedStores [.Tuple ts kt pt] v env = pure none :=
  swNone h (by cases v <;> first | exact hv | trivial)
/-- names = a tuple, bound as a value -/
def cTup (r : Cmp N) (es : List Expr) (kk : Nat) (tp pos : Pos) (ex : Expr) : Option {m : S // OkS N sc (.Assign [.Tuple es kk tp] ex pos) m} :=
  match cG N sc (snF sc) (.Tuple es kk tp), r.e sc (snF sc) ex with
  | some ⟨tg, hg⟩, some ⟨m, hm⟩ => if h : swN sc es ex = true ∧ tupB ex = true ∧ notComp ex = true then
      some ⟨.setT tg m, ⟨fun g => s_setT (hg.ok g) (hm.ok g) (by cases ex <;> first | rfl | (simp [notComp] at h)) (swNone' (by rw [g.hs]; exact h.1) h.2.1) rfl⟩⟩ else none
  | _, _ => none
def cPar (M Sc : List Nat) (r : Cmp N) (kk : Nat) (tp pos : Pos) : (es : List Expr) → (ex : Expr) → Option {m : S // OkS N sc (.Assign [.Tuple es kk tp] ex pos) m}
  | [.Name x px, .Name y py], .Tuple [a, b] k2 p2 => if h : sw2B sc x y px py a b = true then (match ixOf N x, ixOf N y with
      | some ⟨i, hi⟩, some ⟨j, hj⟩ => if hh : (i ≠ j ∧ locB sc x = true ∧ locB sc y = true) ∧ notStar a = true ∧ notStar b = true then
          (if M.contains i then (match cFo Sc r sc (snF sc) a, r.e sc (snF sc) b with
            | some ⟨ma, ha⟩, some ⟨mb, hb⟩ => some ⟨.parO i ma j mb, ⟨fun g => s_parO g hi hj hh.1.1 (of_decide_eq_true hh.1.2.1) (of_decide_eq_true hh.1.2.2) hh.2.1 hh.2.2 (ha.ok g) (hb.ok g) (sw2 (by rw [g.hs]; exact h))⟩⟩
            | _, _ => none)
          else if M.contains j then (match r.e sc (snF sc) a, cFo Sc r sc (snF sc) b with
            | some ⟨ma, ha⟩, some ⟨mb, hb⟩ => some ⟨.parO2 i ma j mb, ⟨fun g => s_parO2 g hi hj hh.1.1 (of_decide_eq_true hh.1.2.1) (of_decide_eq_true hh.1.2.2) hh.2.1 hh.2.2 (ha.ok g) (hb.ok g) (sw2 (by rw [g.hs]; exact h))⟩⟩
            | _, _ => none)
          else (match cL r sc (snF sc) [a, b] with
            | some ⟨m, hm⟩ => some ⟨.par [i, j] m, ⟨fun g => s_par2 g hi hj hh.1.1 (of_decide_eq_true hh.1.2.1) (of_decide_eq_true hh.1.2.2) (hm.ok g) (sw2 (by rw [g.hs]; exact h))⟩⟩
            | none => none)) else none
      | _, _ => none) else cTup r [.Name x px, .Name y py] kk tp pos (.Tuple [a, b] k2 p2)
  | [.Name x px, .Name y py, .Name z pz], .Tuple [a, b, c] k2 p2 => if h : sw3B sc x y z px py pz a b c = true then (match ixOf N x, ixOf N y, ixOf N z, cL r sc (snF sc) [a, b, c] with
      | some ⟨i, hi⟩, some ⟨j, hj⟩, some ⟨l, hl⟩, some ⟨m, hm⟩ => if hh : (i ≠ j ∧ i ≠ l ∧ j ≠ l) ∧ (locB sc x = true ∧ locB sc y = true ∧ locB sc z = true) then
          some ⟨.par [i, j, l] m, ⟨fun g => s_par3 g hi hj hl hh.1.1 hh.1.2.1 hh.1.2.2 (of_decide_eq_true hh.2.1) (of_decide_eq_true hh.2.2.1) (of_decide_eq_true hh.2.2.2) (hm.ok g) (sw3 (by rw [g.hs]; exact h))⟩⟩ else none
      | _, _, _, _ => none) else cTup r [.Name x px, .Name y py, .Name z pz] kk tp pos (.Tuple [a, b, c] k2 p2)
  | es, ex => cTup r es kk tp pos ex
def cCh (M : List Nat) (r : Cmp N) (x : Str) (p ap cp pos : Pos) (m : Str) : (es : List Expr) → Option {t : S // OkS N sc (.Expr (.Call (.Attribute (.Name x p) m ap) es [] cp) pos) t}
  | [ex] => match nmOf N sc x, r.e sc (snF sc) ex with
    | some ⟨i, h⟩, some ⟨ma, ha⟩ => if hh : (M.contains i = true ∧ notStar ex = true) ∧ (ap.endLine == cp.line) = true then
        (if hm : m = "append" then some ⟨.app i ma, ⟨fun g => by rw [hm]; exact s_app g h.hi h.hv h.hd h.hc hh.1.2 hh.2 (ha.ok g)⟩⟩
        else if hm : m = "pop" then some ⟨.popAt i ma, ⟨fun g => by rw [hm]; exact s_pop g h.hi h.hv h.hd h.hc hh.1.2 hh.2 (ha.ok g)⟩⟩
        else none) else none
    | _, _ => none
  | [kx, ex] => match nmOf N sc x, r.e sc (snF sc) kx, r.e sc (snF sc) ex with
    | some ⟨i, h⟩, some ⟨mk, hk⟩, some ⟨ma, ha⟩ => if hh : ((M.contains i = true ∧ notStar ex = true) ∧ notStar kx = true) ∧ (ap.endLine == cp.line) = true ∧ m = "insert" then
        some ⟨.ins i mk ma, ⟨fun g => by rw [hh.2.2]; exact s_ins g h.hi h.hv h.hd h.hc hh.1.2 hh.1.1.2 hh.2.1 (hk.ok g) (ha.ok g)⟩⟩ else none
    | _, _, _ => none
  | _ => none
def cEx (r : Cmp N) (pos : Pos) (ex : Expr) : Option {t : S // OkS N sc (.Expr ex pos) t} :=
  match r.e sc (snF sc) ex with
  | some ⟨m, hm⟩ => if h : notComp ex = true then some ⟨.expr m, ⟨fun g => s_expr (hm.ok g) h⟩⟩ else none
  | none => none
def cS (M Sc : List Nat) (r : Cmp N) (rb : ∀ ss : List Stmt, Option {m : S // OkB N sc ss m}) : (st : Stmt) → Option {m : S // OkS N sc st m}
  | .Assign [.Name x py] ex pos => cSet (sc := sc) M Sc r x py pos ex
  | .Assign [.Tuple es kk tp] ex pos => cPar (sc := sc) M Sc r kk tp pos es ex
  | .Assign [.Subscript (.Name x p) b p2] ex pos => match nmOf N sc x, r.e sc (snF sc) ex, r.e sc (snF sc) b with
    | some ⟨i, h⟩, some ⟨ma, ha⟩, some ⟨mb, hb⟩ => if hh : M.contains i = true ∧ notSlice b = true ∧ notComp ex = true then
        some ⟨.put i mb ma, ⟨fun g => s_put g h.hi h.hv h.hd h.hc hh.2.1 hh.2.2 (ha.ok g) (hb.ok g)⟩⟩ else none
    | _, _, _ => none
  | .Expr (.Call (.Attribute (.Name x p) m ap) es [] cp) pos => match cCh (sc := sc) M r x p ap cp pos m es with
    | some q => some q
    | none => cEx (sc := sc) r pos (.Call (.Attribute (.Name x p) m ap) es [] cp)
  | .Expr ex pos => cEx (sc := sc) r pos ex
  | .Pass pos => some ⟨.skip, ⟨fun _ => s_pass⟩⟩
  | .Return (some ex) pos => match r.e sc (snF sc) ex with
    | some ⟨m, hm⟩ => some ⟨.ret m, ⟨fun g => s_ret (hm.ok g)⟩⟩
    | none => none
  | .If c a b pos => match r.t sc (snF sc) c, rb a, rb b with
    | some ⟨mc, hc⟩, some ⟨ma, ha⟩, some ⟨mb, hb⟩ => some ⟨.ite mc ma mb, ⟨fun g => s_ite (hc.ok g) (ha.ok g) (hb.ok g)⟩⟩
    | _, _, _ => none
  | .For tg iter body [] pos => match cI r sc (snF sc) tg iter, cG N sc (snF sc) tg, rb body with
    | some ⟨mi, hi⟩, some ⟨tgt, hg⟩, some ⟨mb, hb⟩ => if h : notSet iter = true then some ⟨.for_ tgt mi mb, ⟨fun g => s_for g (hi.ok g) (hg.ok g) (hb.ok g) h⟩⟩ else none
    | _, _, _ => none
  | _ => none
def cB1s (M Sc : List Nat) (r : Cmp N) (rb : ∀ ss : List Stmt, Option {m : S // OkB N sc ss m}) : (ss : List Stmt) → Option {m : S // OkB N sc ss m}
  | [] => some ⟨.skip, ⟨fun _ => s_skip⟩⟩
  | [st] => match cS (sc := sc) M Sc r rb st with
    | some ⟨m, h⟩ => some ⟨m, ⟨fun g => s_one (h.ok g)⟩⟩
    | none => none
  | st :: rest => match cS (sc := sc) M Sc r rb st, cB1s M Sc r rb rest with
    | some ⟨m, h⟩, some ⟨m', h'⟩ => some ⟨.seq m m', ⟨fun g => s_cons (h.ok g) (h'.ok g)⟩⟩
    | _, _ => none
def cB (N : List Str) (sc : Scope) (M Sc : List Nat) (r : Cmp N) : Nat → (ss : List Stmt) → Option {m : S // OkB N sc ss m}
  | 0, _ => none
  | n + 1, ss => cB1s M Sc r (cB N sc M Sc r n) ss
/-- a def's body, read -/
def comp (N : List Str) (M Me Sc : List Nat) (sc : Scope) (body : List Stmt) : Option {m : S // OkB N sc body m} := cB N sc M Sc (cmp N Me Sc 40) 12 body
theorem bodyOk {M Me Sc : List Nat} {body : List Stmt} {m : S} (h : (comp N M Me Sc sc body).map (·.1) = some m) (Φ : Phi) (Γ : Str → Option D) : BodyOk Φ Γ N sc body (evS Φ Γ m) := by
  cases q : comp N M Me Sc sc body with
  | none => rw [q] at h; cases h
  | some p =>
    rw [q] at h
    cases h
    exact fun k X e g => p.2.ok g
end

/-! Px16: a law's rows, one behind another; its end. -/
open PySem PySem.Spec PyProof.Rows
/-- a def as it is read -/
structure Rd1 where
  x : Str
  np : Nat
  nn : Nat
  m : S
/-- what the defs mean, the last ahead -/
def phi (Γ : Str → Option D) : List Rd1 → Phi
  | [] => fun _ => none
  | r :: rs => fun f => if f = r.x then some (runF (phi Γ rs) Γ r.np r.nn r.m) else phi Γ rs f
theorem phi_here {Γ : Str → Option D} {r : Rd1} {rs : List Rd1} : phi Γ (r :: rs) r.x = some (runF (phi Γ rs) Γ r.np r.nn r.m) := if_pos rfl
theorem phi_skip {Γ : Str → Option D} {r : Rd1} {rs : List Rd1} {f : Str} {F : Option FSem} (h : f ≠ r.x) (h2 : phi Γ rs f = F) : phi Γ (r :: rs) f = F := (if_neg h).trans h2
structure Row where
  x : Str
  ps : List Str
  N : List Str
  M : List Nat
  Me : List Nat
  Sc : List Nat
  st : Stmt
  m : S
def Row.rd (r : Row) : Rd1 := ⟨r.x, r.ps.length, r.N.length, r.m⟩
structure RowOk (r : Row) : Prop where
  fs : FnScope r.N r.ps (defScope r.st)
  cp : (comp r.N r.M r.Me r.Sc (defScope r.st) (defBody r.st)).map (·.1) = some r.m
  bd : ∀ (kV doc pm : Value) (an : Option Addr) (cdv ct : Value) (us : List Value), us.length = r.ps.length → bindArgs (PySem.W.fnOf r.x r.x (defArgs r.st) (defBody r.st) (defScope r.st) .none kV doc pm an cdv ct) ⟨us, []⟩ = pure (r.ps.zip us)
  nd : r.x ≠ "__debug__"
def Row.d (r : Row) : He.DefD := ⟨(r.x, none), r.x, r.x, defArgs r.st, defBody r.st, defScope r.st, [], []⟩
def bltN : List Str := ["len", "list", "tuple", "int", "sum", "any", "all", "max", "min", "isinstance", "range", "zip", "enumerate", "sorted", "set", "str", "bool"]
section
variable {P : Program} {w : World} {K : PySem.W.Frag} {mg : Str → Option Value} {base : Heap} {Γ : Str → Option D}
abbrev GlC (K : PySem.W.Frag) (mg : Str → Option Value) (Γ : Str → Option D) : Prop := ∀ x d, Γ x = some d → ∃ v u, mg x = some u ∧ RelV v u ∧ (∀ G, R K G v d) ∧ x ≠ "__debug__"
abbrev FnsC (K : PySem.W.Frag) (mg : Str → Option Value) (rs : List Row) : Prop := ∀ r ∈ rs, ∃ f fd, FunD K r.x r.x (defArgs r.st) (defBody r.st) (defScope r.st) [] [] f fd ∧ mg r.x = some (.ref f)
theorem row_fn {r : Row} {rs : List Rd1} {k : Nat} {f : Addr} {fd : FuncData} (Gg : Glob (phi Γ rs) Γ k P w K mg base) (h : RowOk r) (F : FunD K r.x r.x (defArgs r.st) (defBody r.st) (defScope r.st) [] [] f fd) :
    FnOk P w K mg base CX0 (k + 1) f fd r.ps (spF K (runF (phi Γ rs) Γ r.ps.length r.N.length r.m)) := fn_ok Gg F h.fs (bodyOk h.cp _ _)
theorem chain (blt : ∀ b, b ∈ bltN → mg b = none) (gl : GlC K mg Γ) : ∀ rs : List Row, (∀ r ∈ rs, RowOk r) → FnsC K mg rs → Glob (phi Γ (rs.map Row.rd)) Γ rs.length P w K mg base
  | [], _, _ => ⟨(fun f F h => by cases h), blt, gl⟩
  | r :: rs, ok, fn => by
    have ih := chain blt gl rs (fun q h => ok q (List.mem_cons_of_mem _ h)) fun q h => fn q (List.mem_cons_of_mem _ h)
    refine ⟨fun f F h => ?_, blt, gl⟩
    have h' : (if f = r.x then some (runF (phi Γ (rs.map Row.rd)) Γ r.ps.length r.N.length r.m) else phi Γ (rs.map Row.rd) f) = some F := h
    by_cases e : f = r.x
    · rw [if_pos e] at h'
      cases h'
      obtain ⟨fa, fd, F, hg⟩ := fn r List.mem_cons_self
      have o := ok r List.mem_cons_self
      exact ⟨fa, fd, r.ps, by rw [e]; exact hg, F.kp, F.bindsN o.bd, row_fn ih o F, by rw [e]; exact o.nd⟩
    · rw [if_neg e] at h'
      exact (ih.mono (Nat.le_succ _)).fns f F h'
theorem law_facts {h : Heap} {fa : Addr} {rl : Row} {rs : List Row} (hfa : mg rl.x = some (.ref fa)) (blt : ∀ b, b ∈ bltN → mg b = none) (gl : GlC K mg Γ) (ok : ∀ r ∈ rl :: rs, RowOk r) (fn : FnsC K mg (rl :: rs)) (hp : rl.ps = [("script" : Str)]) :
    ∃ fd : FuncData, (∀ (s : Shared) (v : Value), BindsTo s fd ⟨[v], []⟩ [("script", v)]) ∧ ∀ base : Heap, K.In base → base.Ns mainGlobals mg → FnOk P w K mg base CX0 (rs.length + 1) fa fd [("script" : Str)] (spF K (runF (phi Γ (rs.map Row.rd)) Γ 1 rl.N.length rl.m)) := by
  obtain ⟨f, fd, F, hg⟩ := fn rl List.mem_cons_self
  cases hfa.symm.trans hg
  have o := ok rl List.mem_cons_self
  refine ⟨fd, fun s v => ?_, fun base _ _ => ?_⟩
  · have b := FunD.bindsA F o.bd s [v] (by rw [hp]; rfl)
    rw [hp] at b
    exact b
  · have q := row_fn (P := P) (w := w) (base := base) (chain blt gl rs (fun q h => ok q (List.mem_cons_of_mem _ h)) fun q h => fn q (List.mem_cons_of_mem _ h)) o F
    rw [hp] at q
    exact q
/-- the law's promise, from its reading -/
theorem law_sp {F : FSem} {H : Hp} {a : Addr} {ns : List Int} {E : XK} {out : List Sl} (hS : SqL K H a (ns.map V.int)) (h : F [.scr ns] = some (.bool true, out)) : spF K F [.ref a] H (fun v _ => v = .bl true) E := by
  refine ⟨H, [.scr ns], .bool true, out, ⟨Same.refl _, rfl, fun i d h => ?_, fun i xs h => ?_, fun i j a xs ys h _ => ?_, fun i ms h => ?_⟩, h, fun i xs h => ?_, fun G' H' v _ _ _ _ r _ => ?_⟩
  · match i, h with
    | 0, h => cases h
    | i + 1, h => simp at h
  · match i, h with
    | 0, h => rcases h with h | h <;> cases h
    | i + 1, h => rcases h with h | h <;> simp at h
  · match i, h with
    | 0, h => rcases h with h | h <;> cases h
    | i + 1, h => rcases h with h | h <;> simp at h
  · match i, h with
    | 0, h => cases h; exact ⟨a, rfl, hS⟩
    | i + 1, h => simp at h
  · match i, h with
    | 0, h => cases h
    | i + 1, h => simp at h
  · cases r; rfl
/-- the facts by names give the rows' -/
theorem fns_of {rs : List Row} {fa : List He.Fa} {fn : List He.DefD} {h : Heap} (X : K.In h) (G : h.Ns mainGlobals mg) (c : He.SaysD fa fn K) (h1 : ∀ r ∈ rs, r.d ∈ fn) (h2 : ∀ r ∈ rs, He.Fa.glo r.x ∈ fa) : FnsC K mg rs := fun r hr => by
  obtain ⟨i, hi⟩ := List.getElem?_of_mem (h1 r hr)
  obtain ⟨j, hj⟩ := List.getElem?_of_mem (h2 r hr)
  obtain ⟨fd, F⟩ := c.def_ i hi
  exact ⟨_, fd, F, He.glo_ok X G (c.fact j hj)⟩
theorem blt_of {fa : List He.Fa} {fn : List He.DefD} {h : Heap} (X : K.In h) (G : h.Ns mainGlobals mg) (c : He.SaysD fa fn K) (h2 : ∀ b ∈ bltN, He.Fa.free b ∈ fa) : ∀ b, b ∈ bltN → mg b = none := fun b hb => by
  obtain ⟨j, hj⟩ := List.getElem?_of_mem (h2 b hb)
  exact He.free_ok X G (c.fact j hj)
end
local macro_rules | `(tactic| law_purse 10 => $t) => `(tactic| (repeat (first | exact phi_here | refine phi_skip (by decide +kernel) ?_)))

/-! PyT: the texts as they are read. -/
open PySem
def t_is_integer : S := .ret (.and (.isi (.var 0) ["int"]) (.and (.not (.isi (.var 0) ["bool"])) (.chain .LtE .LtE (.var 1) (.var 0) (.var 2))))
def t_is_pixel : S := .ret (.or (.cmp .Is (.var 0) .kN) (.call "is_integer" (.cons (.var 0) (.cons (.kI 0) (.cons (.glob "MOST_PIXEL") .nil)))))
def t_is_picture : S := .seq (.ite (.or (.not (.truth (.isi (.var 0) ["tuple"]))) (.not (.chain .LtE .LtE (.kI 1) (.b1 .len (.var 0)) (.glob "MOST_SIDE")))) (.ret (.kB false)) .skip) (.seq (.ite (.not (.truth (.b1 .all (.comp [1] (.one 1) (.seq (.var 0)) (.truth (.isi (.idx (.var 0) (.kI 0)) ["tuple"])) (.and (.isi (.var 1) ["tuple"]) (.cmp .Eq (.b1 .len (.var 1)) (.b1 .len (.idx (.var 0) (.kI 0))))))))) (.ret (.kB false)) .skip) (.seq (.ite (.or (.not (.truth (.isi (.idx (.var 0) (.kI 0)) ["tuple"]))) (.not (.chain .LtE .LtE (.kI 1) (.b1 .len (.idx (.var 0) (.kI 0))) (.glob "MOST_SIDE")))) (.ret (.kB false)) .skip) (.ret (.b1 .all (.comp2 [1, 2] [2] (.one 1) (.seq (.var 0)) (.kB true) (.one 2) (.seq (.var 1)) (.kB true) (.call "is_pixel" (.cons (.var 2) .nil)))))))
def t_numbers_fit : S := .ret (.and (.cmp .Eq (.b1 .len (.var 0)) (.var 1)) (.b1 .all (.comp [4] (.one 4) (.seq (.var 0)) (.kB true) (.call "is_integer" (.cons (.var 4) (.cons (.var 2) (.cons (.var 3) .nil)))))))
def t_is_edit : S := .seq (.ite (.or (.not (.truth (.isi (.var 0) ["tuple"]))) (.or (.cmp .Eq (.b1 .len (.var 0)) (.kI 0)) (.not (.truth (.isi (.idx (.var 0) (.kI 0)) ["str"]))))) (.ret (.kB false)) .skip) (.seq (.par [1, 2] (.cons (.idx (.var 0) (.kI 0)) (.cons (.slice (.var 0) (.pE (.kI 1)) .pN) .nil))) (.seq (.ite (.cmp .Eq (.var 1) (.kS "flip")) (.ret (.and (.cmp .Eq (.b1 .len (.var 2)) (.kI 1)) (.and (.isi (.idx (.var 2) (.kI 0)) ["str"]) (.cmp .In (.idx (.var 2) (.kI 0)) (.glob "WAYS"))))) .skip) (.seq (.ite (.cmp .In (.var 1) (.tup (.cons (.kS "trim") (.cons (.kS "pad") .nil)))) (.ret (.call "numbers_fit" (.cons (.var 2) (.cons (.kI 4) (.cons (.kI 0) (.cons (.kI 3) .nil)))))) .skip) (.seq (.ite (.cmp .Eq (.var 1) (.kS "corner")) (.ret (.call "numbers_fit" (.cons (.var 2) (.cons (.kI 2) (.cons (.kI 1) (.cons (.kI 5) .nil)))))) .skip) (.seq (.ite (.cmp .In (.var 1) (.tup (.cons (.kS "enlarge") (.cons (.kS "reduce") .nil)))) (.ret (.call "numbers_fit" (.cons (.var 2) (.cons (.kI 1) (.cons (.kI 2) (.cons (.kI 3) .nil)))))) .skip) (.ret (.and (.cmp .Eq (.var 1) (.kS "turn")) (.call "numbers_fit" (.cons (.var 2) (.cons (.kI 1) (.cons (.kI 1) (.cons (.kI 3) .nil))))))))))))
def t_count_word : S := .ret (.b1 .len (.comp [2] (.one 2) (.seq (.var 0)) (.cmp .Eq (.idx (.var 2) (.kI 0)) (.var 1)) (.var 2)))
def t_is_stack : S := .seq (.ite (.or (.not (.truth (.isi (.var 0) ["tuple"]))) (.or (.cmp .Gt (.b1 .len (.var 0)) (.glob "MOST_EDITS")) (.not (.truth (.b1 .all (.comp [1] (.one 1) (.seq (.var 0)) (.kB true) (.call "is_edit" (.cons (.var 1) .nil)))))))) (.ret (.kB false)) .skip) (.ret (.and (.cmp .LtE (.call "count_word" (.cons (.var 0) (.cons (.kS "enlarge") .nil))) (.kI 1)) (.cmp .LtE (.call "count_word" (.cons (.var 0) (.cons (.kS "reduce") .nil))) (.kI 1))))
def t_law_draw : S := .seq (.set 2 (.kI 2305843009213693951)) (.seq (.ite (.cmp .Lt (.ownIdx 0 (.kI 2)) (.var 1)) (.seq (.set 4 (.kI 0)) (.seq (.ite (.cmp .Gt (.b1 .len (.ownIdx 0 (.kI 0))) (.kI 0)) (.set 4 (.idx (.ownIdx 0 (.kI 0)) (.bin .Mod (.b1 .int (.ownIdx 0 (.kI 1))) (.b1 .len (.ownIdx 0 (.kI 0)))))) .skip) (.seq (.ite (.or (.cmp .GtE (.ownIdx 0 (.kI 1)) (.b1 .len (.ownIdx 0 (.kI 0)))) (.cmp .Lt (.var 4) (.bin .Pow (.kI 10) (.kI 18)))) (.seq (.set 4 (.bin .Mod (.b1 .int (.bin .Add (.var 4) (.bin .Mult (.kI 1000003) (.ownIdx 0 (.kI 1))))) (.var 2))) (.seq (.set 4 (.bin .Mod (.b1 .int (.bin .Add (.bin .Add (.bin .Mult (.var 4) (.var 4)) (.bin .Mult (.kI 1181783497276652981) (.var 4))) (.kI 2049848353892358983))) (.var 2))) (.set 4 (.bin .Mod (.b1 .int (.bin .Add (.bin .Mult (.var 4) (.var 4)) (.kI 1442695040888963407))) (.var 2))))) .skip) (.seq (.put 0 (.kI 1) (.bin .Add (.ownIdx 0 (.kI 1)) (.kI 1))) (.put 0 (.kI 2) (.var 4)))))) .skip) (.seq (.set 3 (.bin .Mod (.b1 .int (.ownIdx 0 (.kI 2))) (.var 1))) (.seq (.put 0 (.kI 2) (.bin .FloorDiv (.ownIdx 0 (.kI 2)) (.var 1))) (.ret (.var 3)))))
def t_law_whole : S := .ret (.and (.isi (.var 0) ["int"]) (.not (.isi (.var 0) ["bool"])))
def t_law_within : S := .ret (.and (.call "_law_whole" (.cons (.var 0) .nil)) (.chain .LtE .LtE (.var 1) (.var 0) (.var 2)))
def t_law_like : S := .seq (.ite (.truth (.isi (.var 0) ["list", "tuple"])) (.seq (.ite (.or (.cmp .NotEq (.isi (.var 0) ["list"]) (.isi (.var 1) ["list"])) (.cmp .NotEq (.isi (.var 0) ["tuple"]) (.isi (.var 1) ["tuple"]))) (.ret (.kB false)) .skip) (.seq (.ite (.cmp .NotEq (.b1 .len (.var 0)) (.b1 .len (.var 1))) (.ret (.kB false)) .skip) (.ret (.cmp .Eq (.comp [2] (.one 2) (.range1 (.b1 .len (.var 0))) (.not (.truth (.call "_law_like" (.cons (.idx (.var 0) (.var 2)) (.cons (.idx (.var 1) (.var 2)) .nil))))) (.var 2)) (.lst .nil))))) .skip) (.seq (.ite (.truth (.isi (.var 1) ["list", "tuple"])) (.ret (.kB false)) .skip) (.ret (.and (.cmp .Eq (.isi (.var 0) ["bool"]) (.isi (.var 1) ["bool"])) (.cmp .Eq (.var 0) (.var 1)))))
def t_law_spoilt : S := .seq (.ite (.and (.truth (.isi (.var 1) ["tuple", "list"])) (.and (.cmp .Gt (.b1 .len (.var 1)) (.kI 0)) (.cmp .Gt (.call "_law_draw" (.ref 0 (.cons (.kI 7) .nil))) (.kI 0)))) (.seq (.set 2 (.call "_law_draw" (.ref 0 (.cons (.b1 .len (.var 1)) .nil)))) (.seq (.setO 3 (.b1 .list (.var 1))) (.seq (.set 4 (.call "_law_draw" (.ref 0 (.cons (.kI 12) .nil)))) (.seq (.ite (.cmp .Lt (.var 4) (.kI 8)) (.put 3 (.var 2) (.call "_law_spoilt" (.ref 0 (.cons (.ownIdx 3 (.var 2)) .nil)))) (.ite (.cmp .Eq (.var 4) (.kI 8)) (.popAt 3 (.var 2)) (.ite (.cmp .Eq (.var 4) (.kI 9)) (.ins 3 (.var 2) (.ownIdx 3 (.call "_law_draw" (.ref 0 (.cons (.ownLen 3) .nil))))) (.ite (.cmp .Eq (.var 4) (.kI 10)) (.set 3 (.rev (.var 3))) (.ins 3 (.var 2) (.call "_law_any" (.ref 0 (.cons (.kI 1) .nil)))))))) (.ret (.ite (.truth (.isi (.var 1) ["tuple"])) (.b1 .tuple (.var 3)) (.var 3))))))) .skip) (.seq (.ite (.and (.truth (.call "_law_whole" (.cons (.var 1) .nil))) (.cmp .Gt (.call "_law_draw" (.ref 0 (.cons (.kI 6) .nil))) (.kI 0))) (.ret (.bin .Add (.var 1) (.idx (.lst (.cons (.kI 1) (.cons (.neg (.kI 1)) (.cons (.kI 2) (.cons (.neg (.kI 2)) (.cons (.kI 9) (.cons (.kI 1000) .nil))))))) (.call "_law_draw" (.ref 0 (.cons (.kI 6) .nil)))))) .skip) (.seq (.ite (.and (.truth (.isi (.var 1) ["str"])) (.cmp .Gt (.call "_law_draw" (.ref 0 (.cons (.kI 3) .nil))) (.kI 0))) (.seq (.set 5 (.call "_law_draw" (.ref 0 (.cons (.bin .Add (.b1 .len (.var 1)) (.kI 1)) .nil)))) (.ret (.bin .Add (.bin .Add (.slice (.var 1) .pN (.pE (.var 5))) (.idx (.lst (.cons (.kS " ") (.cons (.kS "z") (.cons (.kS "A") (.cons (.kS "|") (.cons (.kS "abcdefgh") (.cons (.kS "") .nil))))))) (.call "_law_draw" (.ref 0 (.cons (.kI 6) .nil))))) (.slice (.var 1) (.pE (.var 5)) .pN)))) .skip) (.seq (.ite (.and (.truth (.isi (.var 1) ["tuple", "list"])) (.cmp .Eq (.call "_law_draw" (.ref 0 (.cons (.kI 2) .nil))) (.kI 0))) (.ret (.ite (.truth (.isi (.var 1) ["tuple"])) (.b1 .list (.var 1)) (.b1 .tuple (.var 1)))) .skip) (.ret (.call "_law_any" (.ref 0 (.cons (.kI 2) .nil)))))))
def t_law_any : S := .seq (.set 2 (.call "_law_draw" (.ref 0 (.cons (.kI 13) .nil)))) (.seq (.ite (.and (.cmp .Lt (.var 2) (.kI 4)) (.cmp .Gt (.var 1) (.kI 0))) (.seq (.set 3 (.comp [4] (.one 4) (.range1 (.call "_law_draw" (.ref 0 (.cons (.kI 4) .nil)))) (.kB true) (.call "_law_any" (.ref 0 (.cons (.bin .Sub (.var 1) (.kI 1)) .nil))))) (.ret (.idx (.lst (.cons (.var 3) (.cons (.b1 .tuple (.var 3)) (.cons (.b1 .tuple (.var 3)) (.cons (.b1 .tuple (.var 3)) .nil))))) (.var 2)))) .skip) (.seq (.ite (.cmp .Lt (.var 2) (.kI 8)) (.ret (.idx (.lst (.cons (.bin .Sub (.call "_law_draw" (.ref 0 (.cons (.kI 12) .nil))) (.kI 2)) (.cons (.call "_law_draw" (.ref 0 (.cons (.bin .Pow (.kI 10) (.kI 12)) .nil))) (.cons (.kI 0) (.cons (.kI 3) .nil))))) (.b2 .max (.kI 0) (.bin .Sub (.var 2) (.kI 4))))) .skip) (.seq (.set 3 (.lst (.cons (.kS "") (.cons (.kS " ") (.cons (.kS "a") (.cons (.kS "turn") (.cons (.kS "across") (.cons (.kS "turn 1") (.cons (.kS "flip down\nturn 2") .nil))))))))) (.ret (.idx (.lst (.cons (.kB true) (.cons (.kB false) (.cons .kN (.cons (.idx (.var 3) (.call "_law_draw" (.ref 0 (.cons (.kI 7) .nil)))) (.cons (.tup (.cons (.kI 1) (.cons (.kI 2) .nil))) .nil)))))) (.bin .Sub (.var 2) (.kI 8)))))))
def t_law_few : S := .ret (.idx (.lst (.cons (.kI 0) (.cons (.kI 0) (.cons (.kI 1) (.cons (.kI 0) (.cons (.kI 2) (.cons (.kI 0) (.cons (.kI 1) (.cons (.kI 3) .nil))))))))) (.call "_law_draw" (.ref 0 (.cons (.kI 8) .nil))))
def t_law_edit : S := .seq (.set 1 (.call "_law_draw" (.ref 0 (.cons (.kI 9) .nil)))) (.seq (.ite (.cmp .Lt (.var 1) (.kI 2)) (.ret (.tup (.cons (.kS "turn") (.cons (.bin .Add (.kI 1) (.call "_law_draw" (.ref 0 (.cons (.kI 3) .nil)))) .nil)))) .skip) (.seq (.ite (.cmp .Eq (.var 1) (.kI 2)) (.ret (.tup (.cons (.kS "flip") (.cons (.idx (.lst (.cons (.kS "across") (.cons (.kS "down") .nil))) (.call "_law_draw" (.ref 0 (.cons (.kI 2) .nil)))) .nil)))) .skip) (.seq (.ite (.cmp .Lt (.var 1) (.kI 6)) (.seq (.set 2 (.idx (.lst (.cons (.kS "trim") (.cons (.kS "pad") (.cons (.kS "trim") .nil)))) (.bin .Sub (.var 1) (.kI 3)))) (.ret (.tup (.cons (.var 2) (.cons (.call "_law_few" (.ref 0 .nil)) (.cons (.call "_law_few" (.ref 0 .nil)) (.cons (.call "_law_few" (.ref 0 .nil)) (.cons (.call "_law_few" (.ref 0 .nil)) .nil)))))))) .skip) (.seq (.ite (.cmp .Eq (.var 1) (.kI 6)) (.ret (.tup (.cons (.kS "corner") (.cons (.bin .Add (.kI 1) (.call "_law_draw" (.ref 0 (.cons (.kI 5) .nil)))) (.cons (.bin .Add (.kI 1) (.call "_law_draw" (.ref 0 (.cons (.kI 5) .nil)))) .nil))))) .skip) (.ret (.tup (.cons (.idx (.lst (.cons (.kS "enlarge") (.cons (.kS "reduce") .nil))) (.bin .Sub (.var 1) (.kI 7))) (.cons (.bin .Add (.kI 2) (.call "_law_draw" (.ref 0 (.cons (.kI 2) .nil)))) .nil))))))))
def t_law_fits : S := .seq (.ite (.cmp .Gt (.b1 .len (.var 0)) (.kI 6)) (.ret (.kB false)) .skip) (.seq (.set 1 (.comp [2] (.one 2) (.seq (.var 0)) (.kB true) (.idx (.var 2) (.kI 0)))) (.ret (.and (.cmp .Lt (.m1 .count (.var 1) (.kS "enlarge")) (.kI 2)) (.cmp .Lt (.m1 .count (.var 1) (.kS "reduce")) (.kI 2)))))
def t_law_stack : S := .seq (.set 2 (.tup .nil)) (.seq (.for_ (.one 3) (.range1 (.call "_law_draw" (.ref 0 (.cons (.bin .Add (.var 1) (.kI 1)) .nil)))) (.seq (.set 4 (.bin .Add (.var 2) (.tup (.cons (.call "_law_edit" (.ref 0 .nil)) .nil)))) (.ite (.and (.truth (.call "_law_fits" (.cons (.var 4) .nil))) (.cmp .Lt (.call "_law_weight" (.cons (.var 4) .nil)) (.kI 16))) (.set 2 (.var 4)) .skip))) (.ret (.var 2)))
def t_law_picture : S := .seq (.par [4, 5] (.cons (.bin .Add (.kI 1) (.call "_law_draw" (.ref 0 (.cons (.var 1) .nil)))) (.cons (.bin .Add (.kI 1) (.call "_law_draw" (.ref 0 (.cons (.var 1) .nil)))) .nil))) (.seq (.setO 2 (.lst .nil)) (.seq (.for_ (.one 3) (.range1 (.var 5)) (.seq (.setO 6 (.lst .nil)) (.seq (.for_ (.one 7) (.range1 (.var 4)) (.app 6 (.idx (.lst (.cons .kN (.cons (.kI 0) (.cons (.kI 1) (.cons (.kI 2) (.cons (.kI 999) (.cons (.kI 5) .nil))))))) (.call "_law_draw" (.ref 0 (.cons (.kI 6) .nil)))))) (.app 2 (.b1 .tuple (.var 6)))))) (.ret (.b1 .tuple (.var 2)))))
def t_law_weight : S := .seq (.set 1 (.kI 0)) (.seq (.for_ (.one 2) (.seq (.var 0)) (.ite (.cmp .In (.idx (.var 2) (.kI 0)) (.tup (.cons (.kS "trim") (.cons (.kS "pad") (.cons (.kS "corner") .nil))))) (.set 1 (.bin .Add (.var 1) (.b1 .sum (.slice (.var 2) (.pE (.kI 1)) .pN)))) .skip)) (.ret (.var 1)))
def t_law_is_picture : S := .seq (.ite (.or (.not (.truth (.isi (.var 0) ["tuple"]))) (.not (.chain .Lt .Lt (.kI 0) (.b1 .len (.var 0)) (.kI 13)))) (.ret (.kB false)) .skip) (.seq (.ite (.cmp .NotEq (.comp [1] (.one 1) (.seq (.var 0)) (.or (.not (.truth (.isi (.var 1) ["tuple"]))) (.not (.chain .Lt .Lt (.kI 0) (.b1 .len (.var 1)) (.kI 13)))) (.var 1)) (.lst .nil)) (.ret (.kB false)) .skip) (.seq (.ite (.cmp .NotEq (.comp [1] (.one 1) (.seq (.var 0)) (.cmp .NotEq (.b1 .len (.var 1)) (.b1 .len (.idx (.var 0) (.kI 0)))) (.var 1)) (.lst .nil)) (.ret (.kB false)) .skip) (.seq (.for_ (.one 1) (.seq (.var 0)) (.ite (.cmp .NotEq (.comp [2] (.one 2) (.seq (.var 1)) (.and (.cmp .IsNot (.var 2) .kN) (.not (.truth (.call "_law_within" (.cons (.var 2) (.cons (.kI 0) (.cons (.kI 999) .nil))))))) (.var 2)) (.lst .nil)) (.ret (.kB false)) .skip)) (.ret (.kB true)))))
def t_law_is_edit : S := .seq (.ite (.or (.not (.truth (.isi (.var 0) ["tuple"]))) (.or (.cmp .Eq (.var 0) (.tup .nil)) (.not (.truth (.isi (.idx (.var 0) (.kI 0)) ["str"]))))) (.ret (.kB false)) .skip) (.seq (.ite (.cmp .Eq (.idx (.var 0) (.kI 0)) (.kS "flip")) (.ret (.and (.cmp .Eq (.b1 .len (.var 0)) (.kI 2)) (.and (.isi (.idx (.var 0) (.kI 1)) ["str"]) (.cmp .In (.idx (.var 0) (.kI 1)) (.lst (.cons (.kS "across") (.cons (.kS "down") .nil))))))) .skip) (.seq (.set 1 (.lst (.cons (.tup (.cons (.kS "turn") (.cons (.kI 1) (.cons (.kI 1) (.cons (.kI 3) .nil))))) (.cons (.tup (.cons (.kS "trim") (.cons (.kI 4) (.cons (.kI 0) (.cons (.kI 3) .nil))))) (.cons (.tup (.cons (.kS "pad") (.cons (.kI 4) (.cons (.kI 0) (.cons (.kI 3) .nil))))) (.cons (.tup (.cons (.kS "corner") (.cons (.kI 2) (.cons (.kI 1) (.cons (.kI 5) .nil))))) .nil)))))) (.seq (.set 1 (.bin .Add (.var 1) (.lst (.cons (.tup (.cons (.kS "enlarge") (.cons (.kI 1) (.cons (.kI 2) (.cons (.kI 3) .nil))))) (.cons (.tup (.cons (.kS "reduce") (.cons (.kI 1) (.cons (.kI 2) (.cons (.kI 3) .nil))))) .nil))))) (.seq (.for_ (.many [2, 3, 4, 5]) (.seq (.var 1)) (.ite (.cmp .Eq (.idx (.var 0) (.kI 0)) (.var 2)) (.seq (.set 6 (.comp [7] (.one 7) (.seq (.slice (.var 0) (.pE (.kI 1)) .pN)) (.not (.truth (.call "_law_within" (.cons (.var 7) (.cons (.var 4) (.cons (.var 5) .nil)))))) (.var 7))) (.ret (.and (.cmp .Eq (.b1 .len (.var 0)) (.bin .Add (.var 3) (.kI 1))) (.cmp .Eq (.var 6) (.lst .nil))))) .skip)) (.ret (.kB false))))))
def t_law_is_stack : S := .seq (.ite (.or (.not (.truth (.isi (.var 0) ["tuple"]))) (.cmp .NotEq (.comp [1] (.one 1) (.seq (.var 0)) (.not (.truth (.call "_law_is_edit" (.cons (.var 1) .nil)))) (.var 1)) (.lst .nil))) (.ret (.kB false)) .skip) (.ret (.call "_law_fits" (.cons (.var 0) .nil)))
def t_law_k01 : S := .seq (.setO 1 (.lst (.cons (.scr 0) (.cons (.kI 0) (.cons (.kI 0) .nil))))) (.seq (.for_ (.one 2) (.range1 (.kI 7)) (.seq (.setT (.many [5, 6, 7]) (.tup (.cons (.call "_law_picture" (.ref 1 (.cons (.kI 12) .nil))) (.cons (.call "_law_stack" (.ref 1 (.cons (.kI 6) .nil))) (.cons (.call "_law_edit" (.ref 1 .nil)) .nil))))) (.seq (.setO 3 (.lst (.cons (.var 5) (.cons (.b1 .list (.var 5)) (.cons (.idx (.var 5) (.kI 0)) (.cons (.tup .nil) (.cons (.tup (.cons (.tup .nil) .nil)) (.cons (.tup (.cons (.tup (.cons (.kI 1) (.cons (.kI 2) .nil))) (.cons (.tup (.cons (.kI 3) .nil)) .nil))) (.cons (.tup (.cons (.tup (.cons (.kI 1) .nil)) (.cons (.lst (.cons (.kI 2) .nil)) .nil))) (.cons (.tup (.cons (.tup (.cons (.kB true) .nil)) .nil)) (.cons .kN .nil))))))))))) (.seq (.app 3 (.tup (.cons (.tup (.cons (.kI 1000) .nil)) .nil))) (.seq (.for_ (.one 4) (.seq (.bin .Add (.bin .Add (.var 3) (.comp [8] (.one 8) (.range1 (.kI 5)) (.kB true) (.call "_law_spoilt" (.ref 1 (.cons (.var 5) .nil))))) (.lst (.cons (.call "_law_any" (.ref 1 (.cons (.kI 2) .nil))) .nil)))) (.ite (.not (.truth (.call "_law_like" (.cons (.call "is_picture" (.cons (.var 4) .nil)) (.cons (.call "_law_is_picture" (.cons (.var 4) .nil)) .nil))))) (.ret (.kB false)) .skip)) (.seq (.setO 3 (.lst (.cons (.var 7) (.cons (.b1 .list (.var 7)) (.cons (.bin .Add (.var 7) (.tup (.cons (.kI 1) .nil))) (.cons (.slice (.var 7) .pN (.pE (.kI 1))) (.cons (.tup .nil) (.cons .kN (.cons (.kS "turn") (.cons (.tup (.cons (.kS "turn") (.cons (.kB true) .nil))) (.cons (.tup (.cons (.kS "flip") (.cons (.kI 1) .nil))) .nil))))))))))) (.seq (.app 3 (.tup (.cons (.kS "flip") (.cons (.kS "up") .nil)))) (.seq (.setO 3 (.bin .Add (.var 3) (.lst (.cons (.tup (.cons (.kS "corner") (.cons (.kI 0) (.cons (.kI 1) .nil)))) (.cons (.tup (.cons (.kS "corner") (.cons (.kI 5) (.cons (.kI 6) .nil)))) (.cons (.tup (.cons (.kS "trim") (.cons (.kI 0) (.cons (.kI 0) (.cons (.kI 0) .nil))))) (.cons (.tup (.cons (.kS "pad") (.cons (.kI 0) (.cons (.kI 0) (.cons (.kI 0) (.cons (.kI 4) .nil)))))) (.cons (.tup (.cons (.kS "turn") (.cons (.kI 4) .nil))) .nil)))))))) (.seq (.for_ (.one 4) (.seq (.bin .Add (.bin .Add (.var 3) (.comp [8] (.one 8) (.range1 (.kI 5)) (.kB true) (.call "_law_spoilt" (.ref 1 (.cons (.var 7) .nil))))) (.lst (.cons (.call "_law_any" (.ref 1 (.cons (.kI 2) .nil))) .nil)))) (.ite (.not (.truth (.call "_law_like" (.cons (.call "is_edit" (.cons (.var 4) .nil)) (.cons (.call "_law_is_edit" (.cons (.var 4) .nil)) .nil))))) (.ret (.kB false)) .skip)) (.seq (.setO 3 (.lst (.cons (.var 6) (.cons (.b1 .list (.var 6)) (.cons (.bin .Add (.var 6) (.var 6)) (.cons (.bin .Add (.var 6) (.tup (.cons (.var 7) .nil))) (.cons (.tup (.cons (.var 7) (.cons (.var 7) .nil))) (.cons (.tup (.cons .kN .nil)) (.cons .kN (.cons (.bin .Mult (.tup (.cons (.var 7) .nil)) (.kI 7)) .nil)))))))))) (.for_ (.one 4) (.seq (.bin .Add (.var 3) (.lst (.cons (.call "_law_spoilt" (.ref 1 (.cons (.var 6) .nil))) (.cons (.call "_law_any" (.ref 1 (.cons (.kI 2) .nil))) .nil))))) (.ite (.not (.truth (.call "_law_like" (.cons (.call "is_stack" (.cons (.var 4) .nil)) (.cons (.call "_law_is_stack" (.cons (.var 4) .nil)) .nil))))) (.ret (.kB false)) .skip)))))))))))) (.ret (.and (.cmp .Is (.call "is_stack" (.cons (.tup .nil) .nil)) (.kB true)) (.and (.cmp .Is (.call "is_picture" (.cons (.tup (.cons (.tup (.cons .kN .nil)) .nil)) .nil)) (.kB true)) (.cmp .Is (.call "is_picture" (.cons (.tup (.cons (.bin .Mult (.tup (.cons (.kI 1) .nil)) (.kI 13)) .nil)) .nil)) (.kB false))))))
def t_put : S := .ret (.bin .Add (.bin .Add (.bin .Mult (.lst (.cons .kN .nil)) (.var 1)) (.var 0)) (.bin .Mult (.lst (.cons .kN .nil)) (.var 2)))
def t_taken : S := .ret (.slice (.var 0) (.pE (.var 1)) (.pE (.b2 .max (.var 1) (.bin .Sub (.b1 .len (.var 0)) (.var 2)))))
def t_line_edited : S := .seq (.set 3 (.idx (.var 1) (.kI 0))) (.seq (.ite (.cmp .Eq (.var 3) (.kS "flip")) (.ret (.ite (.cmp .Eq (.idx (.var 1) (.kI 1)) (.idx (.tup (.cons (.kS "across") (.cons (.kS "down") .nil))) (.var 2))) (.rev (.var 0)) (.var 0))) .skip) (.seq (.ite (.cmp .Eq (.var 3) (.kS "trim")) (.ret (.call "taken" (.cons (.var 0) (.cons (.idx (.var 1) (.bin .Add (.kI 1) (.var 2))) (.cons (.idx (.var 1) (.bin .Add (.kI 3) (.var 2))) .nil))))) .skip) (.seq (.ite (.cmp .Eq (.var 3) (.kS "pad")) (.ret (.call "put" (.cons (.var 0) (.cons (.idx (.var 1) (.bin .Add (.kI 1) (.var 2))) (.cons (.idx (.var 1) (.bin .Add (.kI 3) (.var 2))) .nil))))) .skip) (.seq (.ite (.cmp .Eq (.var 3) (.kS "corner")) (.ret (.slice (.var 0) .pN (.pE (.idx (.var 1) (.bin .Add (.kI 1) (.var 2)))))) .skip) (.seq (.ite (.cmp .Eq (.var 3) (.kS "enlarge")) (.ret (.comp2 [4, 5] [5] (.one 4) (.seq (.var 0)) (.kB true) (.one 5) (.range1 (.idx (.var 1) (.kI 1))) (.kB true) (.var 4))) .skip) (.ret (.step (.var 0) (.idx (.var 1) (.kI 1)))))))))
def t_turned : S := .seq (.ite (.cmp .Eq (.var 2) (.kI 1)) (.ret (.tup (.cons (.ite (.cmp .Is (.var 1) .kN) (.var 1) (.rev (.var 1))) (.cons (.var 0) .nil)))) .skip) (.seq (.ite (.cmp .Eq (.var 2) (.kI 2)) (.ret (.tup (.cons (.ite (.cmp .Is (.var 0) .kN) (.var 0) (.rev (.var 0))) (.cons (.ite (.cmp .Is (.var 1) .kN) (.var 1) (.rev (.var 1))) .nil)))) .skip) (.ret (.tup (.cons (.var 1) (.cons (.ite (.cmp .Is (.var 0) .kN) (.var 0) (.rev (.var 0))) .nil)))))
def t_kept : S := .ret (.ite (.cmp .Eq (.var 0) (.lst .nil)) .kN (.var 0))
def t_lines_after : S := .seq (.par [4, 5, 6] (.cons (.listOf (.range1 (.var 0))) (.cons (.listOf (.range1 (.var 1))) (.cons (.kB false) .nil)))) (.seq (.for_ (.one 3) (.seq (.var 2)) (.ite (.cmp .Eq (.idx (.var 3) (.kI 0)) (.kS "turn")) (.seq (.setT (.many [4, 5]) (.call "turned" (.cons (.var 4) (.cons (.var 5) (.cons (.idx (.var 3) (.kI 1)) .nil))))) (.set 6 (.cmp .NotEq (.var 6) (.cmp .NotEq (.idx (.var 3) (.kI 1)) (.kI 2))))) (.seq (.set 4 (.ite (.cmp .Is (.var 4) .kN) (.var 4) (.call "kept" (.cons (.call "line_edited" (.cons (.var 4) (.cons (.var 3) (.cons (.kI 0) .nil)))) .nil)))) (.set 5 (.ite (.cmp .Is (.var 5) .kN) (.var 5) (.call "kept" (.cons (.call "line_edited" (.cons (.var 5) (.cons (.var 3) (.cons (.kI 1) .nil)))) .nil))))))) (.ret (.tup (.cons (.var 4) (.cons (.var 5) (.cons (.var 6) .nil))))))
def t_pixel : S := .seq (.ite (.or (.cmp .Is (.var 1) .kN) (.cmp .Is (.var 2) .kN)) (.ret .kN) .skip) (.ret (.ite (.truth (.var 3)) (.idx (.idx (.var 0) (.var 1)) (.var 2)) (.idx (.idx (.var 0) (.var 2)) (.var 1))))
def t_applied : S := .seq (.setT (.many [2, 3, 4]) (.call "lines_after" (.cons (.b1 .len (.idx (.var 0) (.kI 0))) (.cons (.b1 .len (.var 0)) (.cons (.var 1) .nil))))) (.seq (.ite (.or (.cmp .Is (.var 2) .kN) (.cmp .Is (.var 3) .kN)) (.ret .kN) .skip) (.ret (.b1 .tuple (.comp [5] (.one 5) (.seq (.var 3)) (.kB true) (.b1 .tuple (.comp [6] (.one 6) (.seq (.var 2)) (.kB true) (.call "pixel" (.cons (.var 0) (.cons (.var 6) (.cons (.var 5) (.cons (.var 4) .nil)))))))))))
def t_law_done : S := .seq (.setT (.many [2, 3, 4]) (.tup (.cons (.idx (.var 1) (.kI 0)) (.cons (.b1 .len (.var 0)) (.cons (.b1 .len (.idx (.var 0) (.kI 0))) .nil))))) (.seq (.ite (.cmp .Eq (.var 2) (.kS "turn")) (.seq (.for_ (.one 5) (.range1 (.idx (.var 1) (.kI 1))) (.seq (.set 8 (.b1 .len (.var 0))) (.seq (.setO 6 (.lst .nil)) (.seq (.for_ (.one 9) (.range1 (.b1 .len (.idx (.var 0) (.kI 0)))) (.app 6 (.b1 .tuple (.comp [10] (.one 10) (.range1 (.var 8)) (.kB true) (.idx (.idx (.var 0) (.bin .Sub (.bin .Sub (.var 8) (.kI 1)) (.var 10))) (.var 9)))))) (.set 0 (.b1 .tuple (.var 6))))))) (.ret (.var 0))) .skip) (.seq (.ite (.cmp .Eq (.var 2) (.kS "flip")) (.ret (.ite (.cmp .Eq (.idx (.var 1) (.kI 1)) (.kS "down")) (.rev (.var 0)) (.b1 .tuple (.comp [10] (.one 10) (.seq (.var 0)) (.kB true) (.rev (.var 10)))))) .skip) (.seq (.ite (.cmp .Eq (.var 2) (.kS "pad")) (.seq (.set 6 (.comp [10] (.one 10) (.seq (.var 0)) (.kB true) (.bin .Add (.bin .Add (.bin .Mult (.tup (.cons .kN .nil)) (.idx (.var 1) (.kI 1))) (.var 10)) (.bin .Mult (.tup (.cons .kN .nil)) (.idx (.var 1) (.kI 3)))))) (.seq (.set 7 (.tup (.cons (.bin .Mult (.tup (.cons .kN .nil)) (.b1 .len (.idx (.var 6) (.kI 0)))) .nil))) (.ret (.bin .Add (.bin .Add (.bin .Mult (.var 7) (.idx (.var 1) (.kI 2))) (.b1 .tuple (.var 6))) (.bin .Mult (.var 7) (.idx (.var 1) (.kI 4))))))) .skip) (.seq (.ite (.cmp .Eq (.var 2) (.kS "trim")) (.seq (.set 6 (.slice (.var 0) (.pE (.idx (.var 1) (.kI 2))) (.pE (.b2 .max (.kI 0) (.bin .Sub (.var 3) (.idx (.var 1) (.kI 4))))))) (.set 6 (.b1 .tuple (.comp [10] (.one 10) (.seq (.var 6)) (.kB true) (.slice (.var 10) (.pE (.idx (.var 1) (.kI 1))) (.pE (.b2 .max (.kI 0) (.bin .Sub (.var 4) (.idx (.var 1) (.kI 3)))))))))) (.ite (.cmp .Eq (.var 2) (.kS "corner")) (.set 6 (.b1 .tuple (.comp [10] (.one 10) (.seq (.slice (.var 0) .pN (.pE (.idx (.var 1) (.kI 2))))) (.kB true) (.slice (.var 10) .pN (.pE (.idx (.var 1) (.kI 1))))))) (.ite (.cmp .Eq (.var 2) (.kS "enlarge")) (.seq (.setO 6 (.lst .nil)) (.seq (.for_ (.one 10) (.seq (.var 0)) (.seq (.set 11 (.tup .nil)) (.seq (.for_ (.one 12) (.seq (.var 10)) (.set 11 (.bin .Add (.var 11) (.bin .Mult (.tup (.cons (.var 12) .nil)) (.idx (.var 1) (.kI 1)))))) (.setO 6 (.bin .Add (.var 6) (.bin .Mult (.lst (.cons (.var 11) .nil)) (.idx (.var 1) (.kI 1)))))))) (.set 6 (.b1 .tuple (.var 6))))) (.set 6 (.b1 .tuple (.comp [10] (.one 10) (.seq (.step (.var 0) (.idx (.var 1) (.kI 1)))) (.kB true) (.step (.var 10) (.idx (.var 1) (.kI 1))))))))) (.ret (.ite (.or (.cmp .Eq (.b1 .len (.var 6)) (.kI 0)) (.cmp .Eq (.b1 .len (.idx (.var 6) (.kI 0))) (.kI 0))) .kN (.var 6)))))))
def t_law_k02 : S := .seq (.setO 1 (.lst (.cons (.scr 0) (.cons (.kI 0) (.cons (.kI 0) .nil))))) (.seq (.for_ (.one 2) (.range1 (.kI 6)) (.seq (.set 3 (.call "_law_picture" (.ref 1 (.cons (.kI 7) .nil)))) (.seq (.set 4 (.bin .Add (.var 3) (.tup .nil))) (.seq (.setO 5 (.lst (.cons (.tup (.cons (.kS "turn") (.cons (.kI 1) .nil))) (.cons (.tup (.cons (.kS "turn") (.cons (.kI 2) .nil))) (.cons (.tup (.cons (.kS "turn") (.cons (.kI 3) .nil))) (.cons (.tup (.cons (.kS "flip") (.cons (.kS "across") .nil))) (.cons (.tup (.cons (.kS "flip") (.cons (.kS "down") .nil))) .nil))))))) (.seq (.setO 5 (.bin .Add (.var 5) (.lst (.cons (.tup (.cons (.kS "enlarge") (.cons (.kI 2) .nil))) (.cons (.tup (.cons (.kS "reduce") (.cons (.kI 2) .nil))) (.cons (.tup (.cons (.kS "enlarge") (.cons (.kI 3) .nil))) (.cons (.tup (.cons (.kS "reduce") (.cons (.kI 3) .nil))) .nil))))))) (.seq (.for_ (.one 6) (.range1 (.kI 6)) (.seq (.set 8 (.tup (.cons (.call "_law_draw" (.ref 1 (.cons (.kI 4) .nil))) (.cons (.call "_law_draw" (.ref 1 (.cons (.kI 4) .nil))) (.cons (.call "_law_draw" (.ref 1 (.cons (.kI 4) .nil))) (.cons (.call "_law_draw" (.ref 1 (.cons (.kI 4) .nil))) .nil)))))) (.seq (.setO 5 (.bin .Add (.var 5) (.lst (.cons (.bin .Add (.tup (.cons (.kS "trim") .nil)) (.var 8)) (.cons (.bin .Add (.tup (.cons (.kS "pad") .nil)) (.var 8)) .nil))))) (.app 5 (.tup (.cons (.kS "corner") (.cons (.bin .Add (.kI 1) (.call "_law_draw" (.ref 1 (.cons (.kI 5) .nil)))) (.cons (.bin .Add (.kI 1) (.call "_law_draw" (.ref 1 (.cons (.kI 5) .nil)))) .nil)))))))) (.for_ (.one 7) (.seq (.var 5)) (.ite (.or (.not (.truth (.call "_law_like" (.cons (.call "applied" (.cons (.var 3) (.cons (.tup (.cons (.var 7) .nil)) .nil))) (.cons (.call "_law_done" (.cons (.var 3) (.cons (.var 7) .nil))) .nil))))) (.cmp .NotEq (.var 3) (.var 4))) (.ret (.kB false)) .skip)))))))) (.ret (.and (.cmp .Is (.call "applied" (.cons (.tup (.cons (.tup (.cons (.kI 1) .nil)) .nil)) (.cons (.tup (.cons (.tup (.cons (.kS "trim") (.cons (.kI 1) (.cons (.kI 0) (.cons (.kI 1) (.cons (.kI 0) .nil)))))) .nil)) .nil))) .kN) (.cmp .Eq (.call "applied" (.cons (.tup (.cons (.tup (.cons (.kI 1) .nil)) .nil)) (.cons (.tup .nil) .nil))) (.tup (.cons (.tup (.cons (.kI 1) .nil)) .nil))))))
def t_law_after : S := .seq (.for_ (.one 2) (.seq (.var 1)) (.set 0 (.ite (.cmp .Is (.var 0) .kN) .kN (.call "_law_done" (.cons (.var 0) (.cons (.var 2) .nil)))))) (.ret (.var 0))
def t_law_k03 : S := .seq (.setO 1 (.lst (.cons (.scr 0) (.cons (.kI 0) (.cons (.kI 0) .nil))))) (.seq (.for_ (.one 2) (.range1 (.kI 14)) (.seq (.par [9, 10] (.cons (.call "_law_picture" (.ref 1 (.cons (.kI 7) .nil))) (.cons (.call "_law_stack" (.ref 1 (.cons (.kI 6) .nil))) .nil))) (.seq (.set 3 (.call "_law_after" (.cons (.var 9) (.cons (.var 10) .nil)))) (.seq (.set 4 (.call "applied" (.cons (.var 9) (.cons (.var 10) .nil)))) (.seq (.ite (.not (.truth (.call "_law_like" (.cons (.var 4) (.cons (.var 3) .nil))))) (.ret (.kB false)) .skip) (.seq (.set 5 (.lst .nil)) (.seq (.for_ (.one 6) (.range2 (.kI 1) (.bin .Add (.b1 .len (.var 10)) (.kI 1))) (.seq (.set 11 (.call "_law_after" (.cons (.var 9) (.cons (.slice (.var 10) .pN (.pE (.var 6))) .nil)))) (.set 5 (.bin .Add (.var 5) (.bin .Mult (.lst (.cons (.var 11) .nil)) (.b1 .int (.and (.cmp .IsNot (.var 11) .kN) (.cmp .Eq (.b1 .len (.var 5)) (.bin .Sub (.var 6) (.kI 1)))))))))) (.seq (.ite (.not (.truth (.call "_law_like" (.cons (.b1 .list (.call "track" (.cons (.var 9) (.cons (.var 10) .nil)))) (.cons (.var 5) .nil))))) (.ret (.kB false)) .skip) (.seq (.set 7 (.call "_law_draw" (.ref 1 (.cons (.bin .Add (.b1 .len (.var 10)) (.kI 1)) .nil)))) (.seq (.set 8 (.call "applied" (.cons (.var 9) (.cons (.slice (.var 10) .pN (.pE (.var 7))) .nil)))) (.seq (.ite (.and (.cmp .IsNot (.var 8) .kN) (.cmp .NotEq (.call "applied" (.cons (.var 8) (.cons (.slice (.var 10) (.pE (.var 7)) .pN) .nil))) (.var 3))) (.ret (.kB false)) .skip) (.ite (.and (.cmp .Is (.var 8) .kN) (.cmp .IsNot (.var 4) .kN)) (.ret (.kB false)) .skip)))))))))))) (.ret (.cmp .Eq (.b1 .list (.call "track" (.cons (.tup (.cons (.tup (.cons (.kI 1) (.cons (.kI 2) .nil))) .nil)) (.cons (.tup (.cons (.tup (.cons (.kS "trim") (.cons (.kI 2) (.cons (.kI 0) (.cons (.kI 0) (.cons (.kI 0) .nil)))))) (.cons (.tup (.cons (.kS "pad") (.cons (.kI 1) (.cons (.kI 1) (.cons (.kI 1) (.cons (.kI 1) .nil)))))) .nil))) .nil)))) (.lst .nil))))
def t_law_unlike : S := .ret (.b1 .tuple (.comp [2] (.one 2) (.range1 (.var 1)) (.kB true) (.b1 .tuple (.comp [3] (.one 3) (.range1 (.var 0)) (.kB true) (.bin .Add (.bin .Mult (.var 0) (.var 2)) (.var 3))))))
def t_law_lines : S := .seq (.parO 4 (.lst (.cons (.listOf (.range1 (.var 0))) (.cons (.listOf (.range1 (.var 1))) .nil))) 5 (.kB false)) (.seq (.for_ (.one 3) (.seq (.var 2)) (.seq (.set 6 (.idx (.var 3) (.kI 0))) (.seq (.for_ (.one 7) (.range1 (.ite (.cmp .Eq (.var 6) (.kS "turn")) (.idx (.var 3) (.kI 1)) (.kI 0))) (.seq (.setO 4 (.lst (.cons (.ite (.cmp .Is (.ownIdx 4 (.kI 1)) .kN) .kN (.rev (.ownIdx 4 (.kI 1)))) (.cons (.ownIdx 4 (.kI 0)) .nil)))) (.set 5 (.not (.var 5))))) (.for_ (.one 8) (.range1 (.ite (.cmp .Eq (.var 6) (.kS "turn")) (.kI 0) (.kI 2))) (.seq (.set 9 (.ownIdx 4 (.var 8))) (.ite (.cmp .IsNot (.var 9) .kN) (.seq (.ite (.and (.cmp .Eq (.var 6) (.kS "flip")) (.cmp .Eq (.idx (.var 3) (.kI 1)) (.idx (.lst (.cons (.kS "across") (.cons (.kS "down") .nil))) (.var 8)))) (.set 9 (.rev (.var 9))) (.ite (.cmp .Eq (.var 6) (.kS "pad")) (.set 9 (.bin .Add (.bin .Add (.bin .Mult (.lst (.cons .kN .nil)) (.idx (.var 3) (.bin .Add (.kI 1) (.var 8)))) (.var 9)) (.bin .Mult (.lst (.cons .kN .nil)) (.idx (.var 3) (.bin .Add (.kI 3) (.var 8)))))) (.ite (.cmp .Eq (.var 6) (.kS "trim")) (.seq (.set 9 (.slice (.var 9) (.pE (.idx (.var 3) (.bin .Add (.kI 1) (.var 8)))) .pN)) (.set 9 (.slice (.var 9) .pN (.pE (.b2 .max (.kI 0) (.bin .Sub (.b1 .len (.var 9)) (.idx (.var 3) (.bin .Add (.kI 3) (.var 8))))))))) (.ite (.cmp .Eq (.var 6) (.kS "corner")) (.set 9 (.slice (.var 9) .pN (.pE (.idx (.var 3) (.bin .Add (.kI 1) (.var 8)))))) (.ite (.cmp .Eq (.var 6) (.kS "enlarge")) (.set 9 (.comp [10] (.one 10) (.range1 (.bin .Mult (.b1 .len (.var 9)) (.idx (.var 3) (.kI 1)))) (.kB true) (.idx (.var 9) (.bin .FloorDiv (.var 10) (.idx (.var 3) (.kI 1)))))) (.ite (.cmp .Eq (.var 6) (.kS "reduce")) (.set 9 (.comp [10] (.one 10) (.range3 (.kI 0) (.b1 .len (.var 9)) (.idx (.var 3) (.kI 1))) (.kB true) (.idx (.var 9) (.var 10)))) .skip)))))) (.put 4 (.var 8) (.ite (.cmp .NotEq (.var 9) (.lst .nil)) (.var 9) .kN))) .skip)))))) (.ret (.ite (.truth (.var 5)) (.tup (.cons (.ownIdx 4 (.kI 1)) (.cons (.ownIdx 4 (.kI 0)) (.cons (.var 5) .nil)))) (.tup (.cons (.ownIdx 4 (.kI 0)) (.cons (.ownIdx 4 (.kI 1)) (.cons (.var 5) .nil)))))))
def t_law_k04 : S := .seq (.setO 1 (.lst (.cons (.scr 0) (.cons (.kI 0) (.cons (.kI 0) .nil))))) (.seq (.for_ (.one 2) (.range1 (.kI 10)) (.seq (.set 3 (.call "_law_stack" (.ref 1 (.cons (.kI 6) .nil)))) (.seq (.par [5, 6] (.cons (.bin .Add (.kI 1) (.call "_law_draw" (.ref 1 (.cons (.kI 9) .nil)))) (.cons (.bin .Add (.kI 1) (.call "_law_draw" (.ref 1 (.cons (.kI 9) .nil)))) .nil))) (.seq (.setT (.many [7, 8, 9]) (.call "_law_lines" (.cons (.var 5) (.cons (.var 6) (.cons (.var 3) .nil))))) (.seq (.set 4 (.call "applied" (.cons (.call "_law_unlike" (.cons (.var 5) (.cons (.var 6) .nil))) (.cons (.var 3) .nil)))) (.seq (.ite (.cmp .NotEq (.cmp .Is (.var 4) .kN) (.or (.cmp .Is (.var 7) .kN) (.cmp .Is (.var 8) .kN))) (.ret (.kB false)) .skip) (.ite (.cmp .IsNot (.var 4) .kN) (.seq (.setT (.many [11, 12]) (.ite (.truth (.var 9)) (.tup (.cons (.var 8) (.cons (.var 7) .nil))) (.tup (.cons (.var 7) (.cons (.var 8) .nil))))) (.seq (.ite (.or (.cmp .NotEq (.b1 .len (.idx (.var 4) (.kI 0))) (.b1 .len (.var 11))) (.cmp .NotEq (.b1 .len (.var 4)) (.b1 .len (.var 12)))) (.ret (.kB false)) .skip) (.for_ (.one 10) (.range1 (.b1 .len (.var 12))) (.for_ (.one 13) (.range1 (.b1 .len (.var 11))) (.seq (.setT (.many [15, 16]) (.ite (.truth (.var 9)) (.tup (.cons (.idx (.var 12) (.var 10)) (.cons (.idx (.var 11) (.var 13)) .nil))) (.tup (.cons (.idx (.var 11) (.var 13)) (.cons (.idx (.var 12) (.var 10)) .nil))))) (.seq (.set 14 (.ite (.or (.cmp .Is (.var 15) .kN) (.cmp .Is (.var 16) .kN)) .kN (.bin .Add (.bin .Mult (.var 5) (.var 16)) (.var 15)))) (.ite (.cmp .NotEq (.idx (.idx (.var 4) (.var 10)) (.var 13)) (.var 14)) (.ret (.kB false)) .skip))))))) .skip))))))) (.ret (.cmp .Eq (.call "applied" (.cons (.tup (.cons (.tup (.cons (.kI 0) (.cons (.kI 1) .nil))) (.cons (.tup (.cons (.kI 2) (.cons (.kI 3) .nil))) .nil))) (.cons (.tup (.cons (.tup (.cons (.kS "turn") (.cons (.kI 1) .nil))) (.cons (.tup (.cons (.kS "trim") (.cons (.kI 1) (.cons (.kI 0) (.cons (.kI 0) (.cons (.kI 0) .nil)))))) .nil))) .nil))) (.tup (.cons (.tup (.cons (.kI 0) .nil)) (.cons (.tup (.cons (.kI 1) .nil)) .nil))))))
def t_own_lines : S := .seq (.setT (.many [2, 3, 4]) (.call "lines_after" (.cons (.var 0) (.cons (.var 0) (.cons (.var 1) .nil))))) (.ret (.ite (.truth (.var 4)) (.tup (.cons (.var 3) (.cons (.var 2) .nil))) (.tup (.cons (.var 2) (.cons (.var 3) .nil)))))
def t_is_swapped : S := .ret (.cmp .Eq (.bin .Mod (.b1 .len (.comp [1] (.one 1) (.seq (.var 0)) (.and (.cmp .Eq (.idx (.var 1) (.kI 0)) (.kS "turn")) (.cmp .NotEq (.idx (.var 1) (.kI 1)) (.kI 2))) (.var 1))) (.kI 2)) (.kI 1))
def t_weight : S := .ret (.b1 .sum (.comp [1] (.one 1) (.seq (.var 0)) (.cmp .In (.idx (.var 1) (.kI 0)) (.tup (.cons (.kS "trim") (.cons (.kS "pad") (.cons (.kS "corner") .nil))))) (.b1 .sum (.slice (.var 1) (.pE (.kI 1)) .pN))))
def t_enough : S := .ret (.bin .Mult (.kI 3) (.bin .Add (.b2 .max (.call "weight" (.cons (.var 0) .nil)) (.call "weight" (.cons (.var 1) .nil))) (.kI 12)))
def t_mask : S := .ret (.comp [1] (.one 1) (.seq (.var 0)) (.kB true) (.cmp .Is (.var 1) .kN))
def t_only : S := .ret (.ite (.and (.cmp .NotEq (.var 0) (.lst .nil)) (.cmp .Eq (.var 0) (.bin .Mult (.lst (.cons (.idx (.var 0) (.kI 0)) .nil)) (.b1 .len (.var 0))))) (.idx (.var 0) (.kI 0)) .kN)
def t_view : S := .seq (.ite (.cmp .Is (.var 0) .kN) (.ret .kN) .skip) (.seq (.set 1 (.comp [2] (.one 2) (.seq (.var 0)) (.cmp .IsNot (.var 2) .kN) (.var 2))) (.ret (.tup (.cons (.var 0) (.cons (.b1 .len (.var 0)) (.cons (.cmp .Eq (.var 1) (.lst .nil)) (.cons (.call "only" (.cons (.var 1) .nil)) .nil)))))))
def t_unlike_turned : S := .seq (.ite (.truth (.b1 .any (.comp [2, 3] (.many [2, 3]) (.zip (.var 0) (.var 1)) (.kB true) (.or (.cmp .Is (.idx (.var 2) (.kI 3)) .kN) (.cmp .NotEq (.idx (.var 2) (.kI 3)) (.idx (.var 3) (.kI 3))))))) (.ret (.kB true)) .skip) (.ret (.or (.cmp .NotEq (.call "mask" (.cons (.idx (.idx (.var 0) (.kI 0)) (.kI 0)) .nil)) (.call "mask" (.cons (.idx (.idx (.var 1) (.kI 1)) (.kI 0)) .nil))) (.cmp .NotEq (.call "mask" (.cons (.idx (.idx (.var 0) (.kI 1)) (.kI 0)) .nil)) (.call "mask" (.cons (.idx (.idx (.var 1) (.kI 0)) (.kI 0)) .nil)))))
def t_same_result : S := .seq (.ite (.or (.cmp .In .kN (.var 0)) (.cmp .In .kN (.var 1))) (.ret (.and (.cmp .In .kN (.var 0)) (.cmp .In .kN (.var 1)))) .skip) (.seq (.set 3 (.comp [6] (.one 6) (.seq (.var 1)) (.kB true) (.idx (.var 6) (.kI 1)))) (.seq (.ite (.cmp .NotEq (.comp [6] (.one 6) (.seq (.var 0)) (.kB true) (.idx (.var 6) (.kI 1))) (.ite (.truth (.var 2)) (.rev (.var 3)) (.var 3))) (.ret (.kB false)) .skip) (.seq (.par [4, 5] (.cons (.b1 .any (.comp [6] (.one 6) (.seq (.var 0)) (.kB true) (.idx (.var 6) (.kI 2)))) (.cons (.b1 .any (.comp [6] (.one 6) (.seq (.var 1)) (.kB true) (.idx (.var 6) (.kI 2)))) .nil))) (.seq (.ite (.or (.truth (.var 4)) (.truth (.var 5))) (.ret (.and (.var 4) (.var 5))) .skip) (.seq (.ite (.truth (.var 2)) (.ret (.not (.call "unlike_turned" (.cons (.var 0) (.cons (.var 1) .nil))))) .skip) (.ret (.and (.cmp .Eq (.idx (.idx (.var 0) (.kI 0)) (.kI 0)) (.idx (.idx (.var 1) (.kI 0)) (.kI 0))) (.cmp .Eq (.idx (.idx (.var 0) (.kI 1)) (.kI 0)) (.idx (.idx (.var 1) (.kI 1)) (.kI 0))))))))))
def t_all_lines : S := .seq (.setO 2 (.lst .nil)) (.seq (.for_ (.one 3) (.range2 (.kI 1) (.bin .Add (.var 1) (.kI 1))) (.seq (.setT (.many [4, 5]) (.call "own_lines" (.cons (.var 3) (.cons (.var 0) .nil)))) (.app 2 (.tup (.cons (.call "view" (.cons (.var 4) .nil)) (.cons (.call "view" (.cons (.var 5) .nil)) .nil)))))) (.ret (.var 2)))
def t_telling_size : S := .seq (.set 2 (.call "enough" (.cons (.var 0) (.cons (.var 1) .nil)))) (.seq (.par [5, 6] (.cons (.call "all_lines" (.cons (.var 0) (.cons (.var 2) .nil))) (.cons (.call "all_lines" (.cons (.var 1) (.cons (.var 2) .nil))) .nil))) (.seq (.set 3 (.cmp .NotEq (.call "is_swapped" (.cons (.var 0) .nil)) (.call "is_swapped" (.cons (.var 1) .nil)))) (.seq (.for_ (.one 4) (.range2 (.kI 2) (.bin .Add (.bin .Mult (.kI 2) (.var 2)) (.kI 1))) (.for_ (.one 7) (.range2 (.b2 .max (.kI 1) (.bin .Sub (.var 4) (.var 2))) (.bin .Add (.b2 .min (.var 2) (.bin .Sub (.var 4) (.kI 1))) (.kI 1))) (.seq (.set 8 (.bin .Sub (.var 4) (.var 7))) (.seq (.set 9 (.tup (.cons (.idx (.idx (.var 5) (.bin .Sub (.var 7) (.kI 1))) (.kI 0)) (.cons (.idx (.idx (.var 5) (.bin .Sub (.var 8) (.kI 1))) (.kI 1)) .nil)))) (.ite (.not (.truth (.call "same_result" (.cons (.var 9) (.cons (.tup (.cons (.idx (.idx (.var 6) (.bin .Sub (.var 7) (.kI 1))) (.kI 0)) (.cons (.idx (.idx (.var 6) (.bin .Sub (.var 8) (.kI 1))) (.kI 1)) .nil))) (.cons (.var 3) .nil)))))) (.ret (.tup (.cons (.var 7) (.cons (.var 8) .nil)))) .skip))))) (.ret .kN))))
def t_alike : S := .ret (.cmp .Is (.call "telling_size" (.cons (.var 0) (.cons (.var 1) .nil))) .kN)
def t_law_most : S := .ret (.bin .Mult (.kI 3) (.bin .Add (.b2 .max (.call "_law_weight" (.cons (.var 0) .nil)) (.call "_law_weight" (.cons (.var 1) .nil))) (.kI 12)))
def t_law_view : S := .seq (.ite (.cmp .Is (.var 0) .kN) (.ret .kN) .skip) (.seq (.set 1 (.comp [3] (.one 3) (.seq (.var 0)) (.cmp .IsNot (.var 3) .kN) (.var 3))) (.seq (.set 2 (.ite (.cmp .Eq (.var 1) (.bin .Mult (.slice (.var 1) .pN (.pE (.kI 1))) (.b1 .len (.var 1)))) (.slice (.var 1) .pN (.pE (.kI 1))) (.lst .nil))) (.ret (.tup (.cons (.b1 .len (.var 0)) (.cons (.cmp .Eq (.var 1) (.lst .nil)) (.cons (.comp [3] (.one 3) (.seq (.var 0)) (.kB true) (.cmp .Is (.var 3) .kN)) (.cons (.var 2) .nil))))))))
def t_law_agree : S := .seq (.ite (.or (.cmp .In .kN (.var 0)) (.cmp .In .kN (.var 1))) (.ret (.and (.cmp .In .kN (.var 0)) (.cmp .In .kN (.var 1)))) .skip) (.seq (.par [4, 5] (.cons (.comp [10] (.one 10) (.seq (.var 0)) (.kB true) (.idx (.var 10) (.kI 0))) (.cons (.comp [10] (.one 10) (.seq (.var 1)) (.kB true) (.idx (.var 10) (.kI 0))) .nil))) (.seq (.ite (.cmp .NotEq (.var 4) (.ite (.truth (.var 3)) (.rev (.var 5)) (.var 5))) (.ret (.kB false)) .skip) (.seq (.par [6, 7] (.cons (.cmp .In (.kB true) (.comp [10] (.one 10) (.seq (.var 0)) (.kB true) (.idx (.var 10) (.kI 1)))) (.cons (.cmp .In (.kB true) (.comp [10] (.one 10) (.seq (.var 1)) (.kB true) (.idx (.var 10) (.kI 1)))) .nil))) (.seq (.ite (.or (.truth (.var 6)) (.truth (.var 7))) (.ret (.and (.var 6) (.var 7))) .skip) (.seq (.ite (.not (.truth (.var 3))) (.ret (.cmp .Eq (.var 2) (.lst (.cons (.kB true) (.cons (.kB true) .nil))))) .skip) (.seq (.for_ (.many [8, 9]) (.zip (.var 0) (.var 1)) (.ite (.or (.cmp .Eq (.idx (.var 8) (.kI 3)) (.lst .nil)) (.cmp .NotEq (.idx (.var 8) (.kI 3)) (.idx (.var 9) (.kI 3)))) (.ret (.kB false)) .skip)) (.ret (.cmp .Eq (.comp [10] (.one 10) (.seq (.var 0)) (.kB true) (.idx (.var 10) (.kI 2))) (.rev (.comp [10] (.one 10) (.seq (.var 1)) (.kB true) (.idx (.var 10) (.kI 2))))))))))))
def t_law_row_of : S := .seq (.set 2 (.comp [3] (.one 3) (.range2 (.kI 1) (.bin .Add (.var 1) (.kI 1))) (.kB true) (.call "_law_lines" (.cons (.var 3) (.cons (.var 3) (.cons (.var 0) .nil)))))) (.ret (.tup (.cons (.var 2) (.cons (.comp [4] (.one 4) (.seq (.var 2)) (.kB true) (.lst (.cons (.call "_law_view" (.cons (.idx (.var 4) (.kI 0)) .nil)) (.cons (.call "_law_view" (.cons (.idx (.var 4) (.kI 1)) .nil)) .nil)))) .nil))))
def t_law_parts : S := .seq (.setT (.many [6, 7]) (.call "_law_row_of" (.cons (.var 0) (.cons (.var 2) .nil)))) (.seq (.setT (.many [8, 9]) (.call "_law_row_of" (.cons (.var 1) (.cons (.var 2) .nil)))) (.seq (.set 3 (.cmp .NotEq (.idx (.idx (.var 6) (.kI 0)) (.kI 2)) (.idx (.idx (.var 8) (.kI 0)) (.kI 2)))) (.seq (.set 4 (.comp [11, 12] (.many [11, 12]) (.zip (.var 6) (.var 8)) (.kB true) (.lst (.cons (.cmp .Eq (.idx (.var 11) (.kI 0)) (.idx (.var 12) (.kI 0))) (.cons (.cmp .Eq (.idx (.var 11) (.kI 1)) (.idx (.var 12) (.kI 1))) .nil))))) (.seq (.for_ (.one 5) (.range2 (.kI 2) (.bin .Add (.bin .Mult (.kI 2) (.var 2)) (.kI 1))) (.for_ (.one 10) (.range2 (.b2 .max (.kI 1) (.bin .Sub (.var 5) (.var 2))) (.bin .Add (.b2 .min (.var 2) (.bin .Sub (.var 5) (.kI 1))) (.kI 1))) (.seq (.par [13, 14] (.cons (.bin .Sub (.var 10) (.kI 1)) (.cons (.bin .Sub (.bin .Sub (.var 5) (.var 10)) (.kI 1)) .nil))) (.seq (.par [15, 16] (.cons (.lst (.cons (.idx (.idx (.var 7) (.var 13)) (.kI 0)) (.cons (.idx (.idx (.var 7) (.var 14)) (.kI 1)) .nil))) (.cons (.lst (.cons (.idx (.idx (.var 9) (.var 13)) (.kI 0)) (.cons (.idx (.idx (.var 9) (.var 14)) (.kI 1)) .nil))) .nil))) (.ite (.not (.truth (.call "_law_agree" (.cons (.var 15) (.cons (.var 16) (.cons (.lst (.cons (.idx (.idx (.var 4) (.var 13)) (.kI 0)) (.cons (.idx (.idx (.var 4) (.var 14)) (.kI 1)) .nil))) (.cons (.var 3) .nil))))))) (.ret (.tup (.cons (.var 10) (.cons (.bin .Sub (.var 5) (.var 10)) .nil)))) .skip))))) (.ret .kN)))))
def t_law_near : S := .seq (.par [3, 4] (.cons (.call "_law_draw" (.ref 0 (.cons (.bin .Add (.b1 .len (.var 1)) (.kI 1)) .nil))) (.cons (.call "_law_draw" (.ref 0 (.cons (.kI 4) .nil))) .nil))) (.seq (.set 2 (.bin .Add (.slice (.var 1) .pN (.pE (.var 3))) (.slice (.var 1) (.pE (.bin .Add (.var 3) (.kI 1))) .pN))) (.seq (.ite (.cmp .Eq (.var 4) (.kI 0)) (.set 2 (.bin .Add (.bin .Add (.slice (.var 1) .pN (.pE (.var 3))) (.tup (.cons (.call "_law_edit" (.ref 0 .nil)) .nil))) (.slice (.var 1) (.pE (.var 3)) .pN))) .skip) (.seq (.ite (.and (.cmp .Eq (.var 4) (.kI 2)) (.cmp .Lt (.var 3) (.b1 .len (.var 1)))) (.set 2 (.bin .Add (.bin .Add (.slice (.var 1) .pN (.pE (.var 3))) (.tup (.cons (.call "_law_edit" (.ref 0 .nil)) .nil))) (.slice (.var 1) (.pE (.bin .Add (.var 3) (.kI 1))) .pN))) .skip) (.seq (.ite (.cmp .Eq (.var 4) (.kI 3)) (.seq (.set 5 (.slice (.var 1) (.pE (.var 3)) (.pE (.bin .Add (.var 3) (.kI 2))))) (.set 2 (.bin .Add (.bin .Add (.slice (.var 1) .pN (.pE (.var 3))) (.rev (.var 5))) (.slice (.var 1) (.pE (.bin .Add (.var 3) (.kI 2))) .pN)))) .skip) (.ret (.ite (.and (.truth (.call "_law_fits" (.cons (.var 2) .nil))) (.cmp .Lt (.call "_law_weight" (.cons (.var 2) .nil)) (.kI 20))) (.var 2) (.var 1)))))))
def t_law_turned_back : S := .seq (.set 2 (.call "_law_draw" (.ref 0 (.cons (.kI 5) .nil)))) (.seq (.set 3 (.lst (.cons (.tup (.cons (.tup (.cons (.kS "turn") (.cons (.kI 1) .nil))) (.cons (.tup (.cons (.kS "turn") (.cons (.kI 3) .nil))) .nil))) (.cons (.tup (.cons (.tup (.cons (.kS "flip") (.cons (.kS "down") .nil))) (.cons (.tup (.cons (.kS "flip") (.cons (.kS "down") .nil))) .nil))) .nil)))) (.seq (.set 3 (.bin .Add (.var 3) (.lst (.cons (.tup (.cons (.tup (.cons (.kS "pad") (.cons (.kI 1) (.cons (.kI 0) (.cons (.kI 0) (.cons (.kI 2) .nil)))))) (.cons (.tup (.cons (.kS "trim") (.cons (.kI 1) (.cons (.kI 0) (.cons (.kI 0) (.cons (.kI 2) .nil)))))) .nil))) .nil)))) (.seq (.set 3 (.bin .Add (.var 3) (.lst (.cons (.tup (.cons (.tup (.cons (.kS "turn") (.cons (.kI 2) .nil))) (.cons (.tup (.cons (.kS "flip") (.cons (.kS "across") .nil))) (.cons (.tup (.cons (.kS "flip") (.cons (.kS "down") .nil))) .nil)))) (.cons (.tup (.cons (.tup (.cons (.kS "pad") (.cons (.kI 0) (.cons (.kI 0) (.cons (.kI 0) (.cons (.kI 0) .nil)))))) .nil)) .nil))))) (.seq (.set 4 (.call "_law_draw" (.ref 0 (.cons (.bin .Add (.b1 .len (.var 1)) (.kI 1)) .nil)))) (.seq (.set 5 (.bin .Add (.bin .Add (.slice (.var 1) .pN (.pE (.var 4))) (.idx (.var 3) (.var 2))) (.slice (.var 1) (.pE (.var 4)) .pN))) (.ret (.ite (.truth (.call "_law_fits" (.cons (.var 5) .nil))) (.var 5) (.var 1))))))))
def t_law_k05 : S := .seq (.setO 1 (.lst (.cons (.scr 0) (.cons (.kI 0) (.cons (.kI 0) .nil))))) (.seq (.for_ (.one 2) (.range1 (.kI 3)) (.seq (.set 5 (.call "_law_stack" (.ref 1 (.cons (.kI 5) .nil)))) (.seq (.set 6 (.ite (.cmp .Eq (.call "_law_draw" (.ref 1 (.cons (.kI 2) .nil))) (.kI 0)) (.call "_law_near" (.ref 1 (.cons (.var 5) .nil))) (.call "_law_turned_back" (.ref 1 (.cons (.var 5) .nil))))) (.seq (.set 7 (.cmp .Is (.call "_law_parts" (.cons (.var 5) (.cons (.var 6) (.cons (.call "_law_most" (.cons (.var 5) (.cons (.var 6) .nil))) .nil)))) .kN)) (.seq (.ite (.or (.not (.truth (.call "_law_like" (.cons (.call "alike" (.cons (.var 5) (.cons (.var 6) .nil))) (.cons (.var 7) .nil))))) (.or (.cmp .NotEq (.call "alike" (.cons (.var 6) (.cons (.var 5) .nil))) (.var 7)) (.not (.truth (.call "alike" (.cons (.var 5) (.cons (.var 5) .nil))))))) (.ret (.kB false)) .skip) (.seq (.for_ (.one 8) (.range1 (.kI 5)) (.seq (.set 10 (.call "_law_picture" (.ref 1 (.cons (.kI 8) .nil)))) (.ite (.and (.truth (.var 7)) (.cmp .NotEq (.call "applied" (.cons (.var 10) (.cons (.var 5) .nil))) (.call "applied" (.cons (.var 10) (.cons (.var 6) .nil))))) (.ret (.kB false)) .skip))) (.seq (.set 9 (.call "_law_near" (.ref 1 (.cons (.var 6) .nil)))) (.ite (.and (.truth (.var 7)) (.cmp .NotEq (.call "alike" (.cons (.var 5) (.cons (.var 9) .nil))) (.call "alike" (.cons (.var 6) (.cons (.var 9) .nil))))) (.ret (.kB false)) .skip)))))))) (.seq (.set 3 (.tup (.cons (.tup (.cons (.kS "pad") (.cons (.kI 3) (.cons (.kI 0) (.cons (.kI 0) (.cons (.kI 0) .nil)))))) (.cons (.tup (.cons (.kS "corner") (.cons (.kI 2) (.cons (.kI 5) .nil)))) .nil)))) (.seq (.set 4 (.tup (.cons (.tup (.cons (.kS "corner") (.cons (.kI 1) (.cons (.kI 1) .nil)))) (.cons (.tup (.cons (.kS "trim") (.cons (.kI 1) (.cons (.kI 0) (.cons (.kI 0) (.cons (.kI 0) .nil)))))) .nil)))) (.seq (.ite (.or (.not (.truth (.call "alike" (.cons (.var 3) (.cons (.bin .Add (.var 3) (.tup (.cons (.tup (.cons (.kS "flip") (.cons (.kS "down") .nil))) .nil))) .nil))))) (.not (.truth (.call "alike" (.cons (.var 4) (.cons (.bin .Add (.var 4) (.tup (.cons (.tup (.cons (.kS "enlarge") (.cons (.kI 2) .nil))) .nil))) .nil)))))) (.ret (.kB false)) .skip) (.ret (.and (.call "alike" (.cons (.tup (.cons (.tup (.cons (.kS "corner") (.cons (.kI 1) (.cons (.kI 1) .nil)))) (.cons (.tup (.cons (.kS "turn") (.cons (.kI 1) .nil))) .nil))) (.cons (.tup (.cons (.tup (.cons (.kS "corner") (.cons (.kI 1) (.cons (.kI 1) .nil)))) .nil)) .nil))) (.not (.call "alike" (.cons (.tup (.cons (.tup (.cons (.kS "turn") (.cons (.kI 1) .nil))) .nil)) (.cons (.tup .nil) .nil))))))))))
def t_law_k06 : S := .seq (.setO 1 (.lst (.cons (.scr 0) (.cons (.kI 0) (.cons (.kI 0) .nil))))) (.seq (.for_ (.one 2) (.range1 (.kI 3)) (.seq (.set 3 (.call "_law_stack" (.ref 1 (.cons (.kI 5) .nil)))) (.seq (.set 4 (.call "_law_near" (.ref 1 (.cons (.var 3) .nil)))) (.seq (.set 5 (.call "_law_most" (.cons (.var 3) (.cons (.var 4) .nil)))) (.seq (.par [6, 7] (.cons (.call "telling_size" (.cons (.var 3) (.cons (.var 4) .nil))) (.cons (.call "_law_parts" (.cons (.var 3) (.cons (.var 4) (.cons (.var 5) .nil)))) .nil))) (.seq (.ite (.or (.not (.truth (.call "_law_like" (.cons (.var 6) (.cons (.var 7) .nil))))) (.not (.truth (.call "_law_like" (.cons (.call "enough" (.cons (.var 3) (.cons (.var 4) .nil))) (.cons (.var 5) .nil)))))) (.ret (.kB false)) .skip) (.ite (.cmp .IsNot (.var 6) .kN) (.seq (.setT (.many [9, 10]) (.var 6)) (.seq (.set 8 (.call "_law_unlike" (.cons (.var 9) (.cons (.var 10) .nil)))) (.ite (.and (.cmp .Lt (.var 9) (.kI 13)) (.and (.cmp .Lt (.var 10) (.kI 13)) (.cmp .Eq (.call "applied" (.cons (.var 8) (.cons (.var 3) .nil))) (.call "applied" (.cons (.var 8) (.cons (.var 4) .nil)))))) (.ret (.kB false)) .skip))) .skip))))))) (.ret (.and (.cmp .Eq (.call "telling_size" (.cons (.tup (.cons (.tup (.cons (.kS "corner") (.cons (.kI 2) (.cons (.kI 2) .nil)))) .nil)) (.cons (.tup .nil) .nil))) (.tup (.cons (.kI 1) (.cons (.kI 3) .nil)))) (.cmp .Eq (.call "enough" (.cons (.tup .nil) (.cons (.tup .nil) .nil))) (.kI 36)))))
def t_length_edited : S := .seq (.set 3 (.idx (.var 1) (.kI 0))) (.seq (.ite (.cmp .In (.var 3) (.tup (.cons (.kS "trim") (.cons (.kS "pad") .nil)))) (.seq (.set 4 (.bin .Add (.idx (.var 1) (.bin .Add (.kI 1) (.var 2))) (.idx (.var 1) (.bin .Add (.kI 3) (.var 2))))) (.ret (.ite (.cmp .Eq (.var 3) (.kS "pad")) (.bin .Add (.var 0) (.var 4)) (.b2 .max (.kI 0) (.bin .Sub (.var 0) (.var 4)))))) .skip) (.seq (.ite (.cmp .Eq (.var 3) (.kS "corner")) (.ret (.b2 .min (.var 0) (.idx (.var 1) (.bin .Add (.kI 1) (.var 2))))) .skip) (.seq (.ite (.cmp .Eq (.var 3) (.kS "enlarge")) (.ret (.bin .Mult (.var 0) (.idx (.var 1) (.kI 1)))) .skip) (.ret (.ite (.cmp .Eq (.var 3) (.kS "reduce")) (.neg (.bin .FloorDiv (.neg (.var 0)) (.idx (.var 1) (.kI 1)))) (.var 0))))))
def t_sizes : S := .seq (.setO 3 (.lst (.cons (.tup (.cons (.var 0) (.cons (.var 1) .nil))) .nil))) (.seq (.for_ (.one 4) (.seq (.var 2)) (.seq (.setT (.many [0, 1]) (.ownIdx 3 (.neg (.kI 1)))) (.ite (.cmp .Eq (.idx (.var 4) (.kI 0)) (.kS "turn")) (.app 3 (.ite (.cmp .NotEq (.idx (.var 4) (.kI 1)) (.kI 2)) (.tup (.cons (.var 1) (.cons (.var 0) .nil))) (.tup (.cons (.var 0) (.cons (.var 1) .nil))))) (.app 3 (.tup (.cons (.call "length_edited" (.cons (.var 0) (.cons (.var 4) (.cons (.kI 0) .nil)))) (.cons (.call "length_edited" (.cons (.var 1) (.cons (.var 4) (.cons (.kI 1) .nil)))) .nil))))))) (.ret (.var 3)))
def t_size_after : S := .seq (.set 3 (.call "sizes" (.cons (.var 1) (.cons (.var 2) (.cons (.var 0) .nil))))) (.seq (.ite (.truth (.b1 .any (.comp [4] (.one 4) (.seq (.var 3)) (.kB true) (.cmp .In (.kI 0) (.var 4))))) (.ret .kN) .skip) (.ret (.idx (.var 3) (.neg (.kI 1)))))
def t_law_k07 : S := .seq (.setO 1 (.lst (.cons (.scr 0) (.cons (.kI 0) (.cons (.kI 0) .nil))))) (.seq (.for_ (.one 2) (.range1 (.kI 5)) (.seq (.set 3 (.call "_law_stack" (.ref 1 (.cons (.kI 5) .nil)))) (.seq (.set 4 (.ite (.cmp .Eq (.call "_law_draw" (.ref 1 (.cons (.kI 2) .nil))) (.kI 0)) (.call "_law_near" (.ref 1 (.cons (.var 3) .nil))) (.call "_law_turned_back" (.ref 1 (.cons (.var 3) .nil))))) (.ite (.truth (.call "alike" (.cons (.var 3) (.cons (.var 4) .nil)))) (.for_ (.one 5) (.range1 (.kI 6)) (.seq (.set 6 (.call "enough" (.cons (.var 3) (.cons (.var 4) .nil)))) (.seq (.par [8, 9] (.cons (.bin .Add (.bin .Add (.var 6) (.kI 1)) (.call "_law_draw" (.ref 1 (.cons (.bin .Mult (.kI 2) (.var 6)) .nil)))) (.cons (.bin .Add (.bin .Add (.var 6) (.kI 1)) (.call "_law_draw" (.ref 1 (.cons (.bin .Mult (.kI 2) (.var 6)) .nil)))) .nil))) (.seq (.par [10, 11] (.cons (.call "_law_lines" (.cons (.var 8) (.cons (.var 9) (.cons (.var 3) .nil)))) (.cons (.call "_law_lines" (.cons (.var 8) (.cons (.var 9) (.cons (.var 4) .nil)))) .nil))) (.seq (.par [12, 13] (.cons (.lst (.cons (.call "_law_view" (.cons (.idx (.var 10) (.kI 0)) .nil)) (.cons (.call "_law_view" (.cons (.idx (.var 10) (.kI 1)) .nil)) .nil))) (.cons (.lst (.cons (.call "_law_view" (.cons (.idx (.var 11) (.kI 0)) .nil)) (.cons (.call "_law_view" (.cons (.idx (.var 11) (.kI 1)) .nil)) .nil))) .nil))) (.seq (.set 7 (.lst (.cons (.cmp .Eq (.idx (.var 10) (.kI 0)) (.idx (.var 11) (.kI 0))) (.cons (.cmp .Eq (.idx (.var 10) (.kI 1)) (.idx (.var 11) (.kI 1))) .nil)))) (.seq (.ite (.not (.truth (.call "_law_agree" (.cons (.var 12) (.cons (.var 13) (.cons (.var 7) (.cons (.cmp .NotEq (.idx (.var 10) (.kI 2)) (.idx (.var 11) (.kI 2))) .nil))))))) (.ret (.kB false)) .skip) (.ite (.cmp .NotEq (.call "size_after" (.cons (.var 3) (.cons (.var 8) (.cons (.var 9) .nil)))) (.call "size_after" (.cons (.var 4) (.cons (.var 8) (.cons (.var 9) .nil))))) (.ret (.kB false)) .skip)))))))) .skip)))) (.ret (.kB true)))
def t_commute : S := .ret (.call "alike" (.cons (.tup (.star (.var 0) (.star (.var 1) .nil))) (.cons (.tup (.star (.var 1) (.star (.var 0) .nil))) .nil)))
def t_undoes : S := .seq (.set 2 (.call "enough" (.cons (.tup (.star (.var 1) (.star (.var 0) .nil))) (.cons (.tup .nil) .nil)))) (.seq (.par [4, 5] (.cons (.call "all_lines" (.cons (.var 1) (.cons (.var 2) .nil))) (.cons (.call "all_lines" (.cons (.tup (.star (.var 1) (.star (.var 0) .nil))) (.cons (.var 2) .nil))) .nil))) (.seq (.par [6, 7] (.cons (.call "is_swapped" (.cons (.tup (.star (.var 1) (.star (.var 0) .nil))) .nil)) (.cons (.comp [9] (.one 9) (.range2 (.kI 1) (.bin .Add (.var 2) (.kI 1))) (.kB true) (.call "view" (.cons (.listOf (.range1 (.var 9))) .nil))) .nil))) (.seq (.for_ (.one 3) (.range2 (.kI 1) (.bin .Add (.var 2) (.kI 1))) (.for_ (.one 8) (.range2 (.kI 1) (.bin .Add (.var 2) (.kI 1))) (.ite (.cmp .NotIn .kN (.tup (.cons (.idx (.idx (.var 4) (.bin .Sub (.var 3) (.kI 1))) (.kI 0)) (.cons (.idx (.idx (.var 4) (.bin .Sub (.var 8) (.kI 1))) (.kI 1)) .nil)))) (.seq (.set 10 (.tup (.cons (.idx (.idx (.var 5) (.bin .Sub (.var 3) (.kI 1))) (.kI 0)) (.cons (.idx (.idx (.var 5) (.bin .Sub (.var 8) (.kI 1))) (.kI 1)) .nil)))) (.ite (.not (.truth (.call "same_result" (.cons (.var 10) (.cons (.tup (.cons (.idx (.var 7) (.bin .Sub (.var 3) (.kI 1))) (.cons (.idx (.var 7) (.bin .Sub (.var 8) (.kI 1))) .nil))) (.cons (.var 6) .nil)))))) (.ret (.kB false)) .skip)) .skip))) (.ret (.kB true)))))
def t_law_back : S := .seq (.set 2 (.call "_law_most" (.cons (.bin .Add (.var 1) (.var 0)) (.cons (.tup .nil) .nil)))) (.seq (.setT (.many [5, 6]) (.call "_law_row_of" (.cons (.var 1) (.cons (.var 2) .nil)))) (.seq (.setT (.many [7, 8]) (.call "_law_row_of" (.cons (.bin .Add (.var 1) (.var 0)) (.cons (.var 2) .nil)))) (.seq (.setT (.many [9, 10]) (.call "_law_row_of" (.cons (.tup .nil) (.cons (.var 2) .nil)))) (.seq (.set 3 (.comp [12, 13] (.many [12, 13]) (.zip (.var 7) (.var 9)) (.kB true) (.lst (.cons (.cmp .Eq (.idx (.var 12) (.kI 0)) (.idx (.var 13) (.kI 0))) (.cons (.cmp .Eq (.idx (.var 12) (.kI 1)) (.idx (.var 13) (.kI 1))) .nil))))) (.seq (.for_ (.one 4) (.range1 (.var 2)) (.for_ (.one 11) (.range1 (.var 2)) (.ite (.and (.cmp .IsNot (.idx (.idx (.var 5) (.var 4)) (.kI 0)) .kN) (.cmp .IsNot (.idx (.idx (.var 5) (.var 11)) (.kI 1)) .kN)) (.seq (.par [14, 15] (.cons (.lst (.cons (.idx (.idx (.var 8) (.var 4)) (.kI 0)) (.cons (.idx (.idx (.var 8) (.var 11)) (.kI 1)) .nil))) (.cons (.lst (.cons (.idx (.idx (.var 10) (.var 4)) (.kI 0)) (.cons (.idx (.idx (.var 10) (.var 11)) (.kI 1)) .nil))) .nil))) (.ite (.not (.truth (.call "_law_agree" (.cons (.var 14) (.cons (.var 15) (.cons (.lst (.cons (.idx (.idx (.var 3) (.var 4)) (.kI 0)) (.cons (.idx (.idx (.var 3) (.var 11)) (.kI 1)) .nil))) (.cons (.idx (.idx (.var 7) (.kI 0)) (.kI 2)) .nil))))))) (.ret (.kB false)) .skip)) .skip))) (.ret (.kB true)))))))
def t_law_k08 : S := .seq (.setO 1 (.lst (.cons (.scr 0) (.cons (.kI 0) (.cons (.kI 0) .nil))))) (.seq (.for_ (.one 2) (.range1 (.kI 3)) (.seq (.set 4 (.call "_law_stack" (.ref 1 (.cons (.kI 4) .nil)))) (.seq (.set 5 (.call "_law_draw" (.ref 1 (.cons (.bin .Add (.b1 .len (.var 4)) (.kI 1)) .nil)))) (.seq (.par [9, 10] (.cons (.slice (.var 4) .pN (.pE (.var 5))) (.cons (.slice (.var 4) (.pE (.var 5)) .pN) .nil))) (.seq (.ite (.cmp .Eq (.call "_law_draw" (.ref 1 (.cons (.kI 3) .nil))) (.kI 0)) (.seq (.set 11 (.lst (.cons (.tup (.cons (.tup (.cons (.tup (.cons (.kS "pad") (.cons (.kI 1) (.cons (.kI 2) (.cons (.kI 0) (.cons (.kI 0) .nil)))))) .nil)) (.cons (.tup (.cons (.tup (.cons (.kS "trim") (.cons (.kI 1) (.cons (.kI 2) (.cons (.kI 0) (.cons (.kI 0) .nil)))))) .nil)) .nil))) (.cons (.tup (.cons (.tup (.cons (.tup (.cons (.kS "enlarge") (.cons (.kI 3) .nil))) .nil)) (.cons (.tup (.cons (.tup (.cons (.kS "reduce") (.cons (.kI 3) .nil))) .nil)) .nil))) .nil)))) (.setT (.many [10, 9]) (.idx (.bin .Add (.var 11) (.lst (.cons (.tup (.cons (.tup (.cons (.tup (.cons (.kS "turn") (.cons (.kI 1) .nil))) .nil)) (.cons (.tup (.cons (.tup (.cons (.kS "turn") (.cons (.kI 3) .nil))) .nil)) .nil))) .nil))) (.call "_law_draw" (.ref 1 (.cons (.kI 3) .nil)))))) .skip) (.seq (.set 6 (.cmp .Is (.call "_law_parts" (.cons (.bin .Add (.var 9) (.var 10)) (.cons (.bin .Add (.var 10) (.var 9)) (.cons (.call "_law_most" (.cons (.bin .Add (.var 9) (.var 10)) (.cons (.tup .nil) .nil))) .nil)))) .kN)) (.seq (.ite (.or (.not (.truth (.call "_law_like" (.cons (.call "commute" (.cons (.var 9) (.cons (.var 10) .nil))) (.cons (.var 6) .nil))))) (.cmp .NotEq (.call "commute" (.cons (.var 10) (.cons (.var 9) .nil))) (.var 6))) (.ret (.kB false)) .skip) (.seq (.set 7 (.call "_law_back" (.cons (.var 9) (.cons (.var 10) .nil)))) (.seq (.ite (.not (.truth (.call "_law_like" (.cons (.call "undoes" (.cons (.var 9) (.cons (.var 10) .nil))) (.cons (.var 7) .nil))))) (.ret (.kB false)) .skip) (.for_ (.one 8) (.range1 (.kI 3)) (.seq (.set 12 (.call "_law_picture" (.ref 1 (.cons (.kI 6) .nil)))) (.seq (.set 13 (.call "applied" (.cons (.var 12) (.cons (.var 10) .nil)))) (.ite (.and (.truth (.var 7)) (.and (.cmp .IsNot (.var 13) .kN) (.cmp .NotEq (.call "applied" (.cons (.var 13) (.cons (.var 9) .nil))) (.var 12)))) (.ret (.kB false)) .skip))))))))))))) (.seq (.set 3 (.tup (.cons (.kS "trim") (.cons (.kI 1) (.cons (.kI 0) (.cons (.kI 0) (.cons (.kI 0) .nil))))))) (.ret (.and (.call "undoes" (.cons (.tup (.cons (.var 3) .nil)) (.cons (.tup (.cons (.tup (.cons (.kS "pad") (.cons (.kI 1) (.cons (.kI 0) (.cons (.kI 0) (.cons (.kI 0) .nil)))))) .nil)) .nil))) (.call "undoes" (.cons (.tup .nil) (.cons (.tup (.cons (.tup (.cons (.kS "corner") (.cons (.kI 1) (.cons (.kI 1) .nil)))) (.cons (.var 3) .nil))) .nil)))))))
def t_needless : S := .ret (.comp [1] (.one 1) (.range1 (.b1 .len (.var 0))) (.truth (.call "alike" (.cons (.var 0) (.cons (.bin .Add (.slice (.var 0) .pN (.pE (.var 1))) (.slice (.var 0) (.pE (.bin .Add (.var 1) (.kI 1))) .pN)) .nil)))) (.var 1))
def t_law_k09 : S := .seq (.setO 1 (.lst (.cons (.scr 0) (.cons (.kI 0) (.cons (.kI 0) .nil))))) (.seq (.for_ (.one 2) (.range1 (.kI 2)) (.seq (.set 4 (.call "_law_stack" (.ref 1 (.cons (.kI 3) .nil)))) (.seq (.set 5 (.idx (.lst (.cons (.tup (.cons (.kS "pad") (.cons (.kI 0) (.cons (.kI 0) (.cons (.kI 0) (.cons (.kI 0) .nil)))))) (.cons (.tup (.cons (.kS "trim") (.cons (.kI 0) (.cons (.kI 0) (.cons (.kI 0) (.cons (.kI 0) .nil)))))) (.cons (.tup (.cons (.kS "corner") (.cons (.kI 5) (.cons (.kI 5) .nil)))) (.cons (.tup (.cons (.kS "turn") (.cons (.kI 2) .nil))) .nil))))) (.call "_law_draw" (.ref 1 (.cons (.kI 4) .nil))))) (.seq (.set 6 (.call "_law_draw" (.ref 1 (.cons (.bin .Add (.b1 .len (.var 4)) (.kI 1)) .nil)))) (.seq (.parO2 4 (.bin .Add (.bin .Add (.slice (.var 4) .pN (.pE (.var 6))) (.tup (.cons (.var 5) .nil))) (.slice (.var 4) (.pE (.var 6)) .pN)) 8 (.lst .nil)) (.seq (.for_ (.one 7) (.range1 (.b1 .len (.var 4))) (.seq (.set 9 (.bin .Add (.slice (.var 4) .pN (.pE (.var 7))) (.slice (.var 4) (.pE (.bin .Add (.var 7) (.kI 1))) .pN))) (.ite (.cmp .Is (.call "_law_parts" (.cons (.var 4) (.cons (.var 9) (.cons (.call "_law_most" (.cons (.var 4) (.cons (.var 9) .nil))) .nil)))) .kN) (.app 8 (.var 7)) .skip))) (.ite (.not (.truth (.call "_law_like" (.cons (.call "needless" (.cons (.var 4) .nil)) (.ref 8 .nil))))) (.ret (.kB false)) .skip))))))) (.seq (.set 3 (.tup (.cons (.kS "flip") (.cons (.kS "down") .nil)))) (.ret (.and (.cmp .Eq (.call "needless" (.cons (.tup (.cons (.var 3) (.cons (.tup (.cons (.kS "corner") (.cons (.kI 5) (.cons (.kI 5) .nil)))) (.cons (.tup (.cons (.kS "corner") (.cons (.kI 3) (.cons (.kI 3) .nil)))) .nil)))) .nil)) (.lst (.cons (.kI 1) .nil))) (.cmp .Eq (.call "needless" (.cons (.tup (.cons (.var 3) (.cons (.var 3) .nil))) .nil)) (.lst .nil))))))
def t_law_long : S := .seq (.set 3 (.idx (.var 1) (.kI 0))) (.seq (.ite (.cmp .In (.var 3) (.tup (.cons (.kS "trim") (.cons (.kS "pad") .nil)))) (.seq (.set 4 (.bin .Add (.idx (.var 1) (.bin .Add (.kI 1) (.var 2))) (.idx (.var 1) (.bin .Add (.kI 3) (.var 2))))) (.ret (.ite (.cmp .Eq (.var 3) (.kS "pad")) (.bin .Add (.var 0) (.var 4)) (.bin .Sub (.var 0) (.b2 .min (.var 0) (.var 4)))))) .skip) (.seq (.ite (.cmp .Eq (.var 3) (.kS "corner")) (.ret (.b2 .min (.var 0) (.idx (.var 1) (.bin .Add (.kI 1) (.var 2))))) .skip) (.seq (.ite (.cmp .Eq (.var 3) (.kS "enlarge")) (.ret (.bin .Mult (.var 0) (.idx (.var 1) (.kI 1)))) .skip) (.ret (.ite (.cmp .Eq (.var 3) (.kS "reduce")) (.bin .FloorDiv (.bin .Sub (.bin .Add (.var 0) (.idx (.var 1) (.kI 1))) (.kI 1)) (.idx (.var 1) (.kI 1))) (.var 0))))))
def t_law_k10 : S := .seq (.setO 1 (.lst (.cons (.scr 0) (.cons (.kI 0) (.cons (.kI 0) .nil))))) (.seq (.for_ (.one 2) (.range1 (.kI 10)) (.seq (.set 3 (.call "_law_stack" (.ref 1 (.cons (.kI 6) .nil)))) (.seq (.for_ (.one 4) (.range1 (.kI 4)) (.seq (.par [7, 8] (.cons (.bin .Add (.kI 1) (.call "_law_draw" (.ref 1 (.cons (.kI 12) .nil)))) (.cons (.bin .Add (.kI 1) (.call "_law_draw" (.ref 1 (.cons (.kI 12) .nil)))) .nil))) (.seq (.setT (.many [11, 12, 13]) (.call "_law_lines" (.cons (.var 7) (.cons (.var 8) (.cons (.var 3) .nil))))) (.seq (.set 6 .kN) (.seq (.ite (.and (.cmp .IsNot (.var 11) .kN) (.cmp .IsNot (.var 12) .kN)) (.set 6 (.ite (.truth (.var 13)) (.tup (.cons (.b1 .len (.var 12)) (.cons (.b1 .len (.var 11)) .nil))) (.tup (.cons (.b1 .len (.var 11)) (.cons (.b1 .len (.var 12)) .nil))))) .skip) (.ite (.not (.truth (.call "_law_like" (.cons (.call "size_after" (.cons (.var 3) (.cons (.var 7) (.cons (.var 8) .nil)))) (.cons (.var 6) .nil))))) (.ret (.kB false)) .skip)))))) (.seq (.par [7, 8] (.cons (.bin .Add (.kI 1) (.call "_law_draw" (.ref 1 (.cons (.bin .Pow (.kI 10) (.kI 15)) .nil)))) (.cons (.bin .Add (.kI 1) (.call "_law_draw" (.ref 1 (.cons (.bin .Pow (.kI 10) (.kI 15)) .nil)))) .nil))) (.seq (.par [9, 10] (.cons (.call "size_after" (.cons (.var 3) (.cons (.var 7) (.cons (.var 8) .nil)))) (.cons (.kB true) .nil))) (.seq (.for_ (.one 5) (.seq (.var 3)) (.seq (.ite (.cmp .Eq (.idx (.var 5) (.kI 0)) (.kS "turn")) (.setT (.many [7, 8]) (.ite (.cmp .NotEq (.idx (.var 5) (.kI 1)) (.kI 2)) (.tup (.cons (.var 8) (.cons (.var 7) .nil))) (.tup (.cons (.var 7) (.cons (.var 8) .nil))))) (.par [7, 8] (.cons (.call "_law_long" (.cons (.var 7) (.cons (.var 5) (.cons (.kI 0) .nil)))) (.cons (.call "_law_long" (.cons (.var 8) (.cons (.var 5) (.cons (.kI 1) .nil)))) .nil)))) (.set 10 (.and (.var 10) (.and (.cmp .Gt (.var 7) (.kI 0)) (.cmp .Gt (.var 8) (.kI 0))))))) (.ite (.not (.truth (.call "_law_like" (.cons (.var 9) (.cons (.ite (.truth (.var 10)) (.tup (.cons (.var 7) (.cons (.var 8) .nil))) .kN) .nil))))) (.ret (.kB false)) .skip))))))) (.ret (.cmp .Eq (.call "size_after" (.cons (.tup (.cons (.tup (.cons (.kS "enlarge") (.cons (.kI 2) .nil))) .nil)) (.cons (.bin .Pow (.kI 10) (.kI 15)) (.cons (.kI 1) .nil)))) (.tup (.cons (.bin .Mult (.kI 2) (.bin .Pow (.kI 10) (.kI 15))) (.cons (.kI 2) .nil))))))
def t_least_size : S := .seq (.setO 1 (.lst .nil)) (.seq (.for_ (.one 2) (.seq (.tup (.cons (.kI 0) (.cons (.kI 1) .nil)))) (.seq (.set 3 (.comp [4] (.one 4) (.range2 (.kI 1) (.bin .Add (.call "enough" (.cons (.var 0) (.cons (.tup .nil) .nil))) (.kI 1))) (.cmp .IsNot (.idx (.call "own_lines" (.cons (.var 4) (.cons (.var 0) .nil))) (.var 2)) .kN) (.var 4))) (.seq (.ite (.cmp .Eq (.var 3) (.lst .nil)) (.ret .kN) .skip) (.app 1 (.idx (.var 3) (.kI 0)))))) (.ret (.b1 .tuple (.var 1))))
def t_law_k11 : S := .seq (.setO 1 (.lst (.cons (.scr 0) (.cons (.kI 0) (.cons (.kI 0) .nil))))) (.seq (.for_ (.one 2) (.range1 (.kI 8)) (.seq (.set 3 (.call "_law_stack" (.ref 1 (.cons (.kI 5) .nil)))) (.seq (.ite (.and (.cmp .Eq (.call "_law_draw" (.ref 1 (.cons (.kI 2) .nil))) (.kI 0)) (.cmp .Lt (.b1 .len (.var 3)) (.kI 6))) (.seq (.set 7 (.tup (.cons (.call "_law_draw" (.ref 1 (.cons (.kI 4) .nil))) (.cons (.call "_law_draw" (.ref 1 (.cons (.kI 4) .nil))) .nil)))) (.set 3 (.bin .Add (.var 3) (.tup (.cons (.bin .Add (.bin .Add (.tup (.cons (.kS "trim") .nil)) (.var 7)) (.var 7)) .nil))))) .skip) (.seq (.set 4 (.bin .Mult (.kI 3) (.bin .Add (.call "_law_weight" (.cons (.var 3) .nil)) (.kI 12)))) (.seq (.par [8, 9] (.cons (.lst .nil) (.cons (.lst .nil) .nil))) (.seq (.for_ (.one 5) (.range2 (.kI 1) (.bin .Add (.var 4) (.kI 1))) (.seq (.setT (.many [10, 11, 12]) (.call "_law_lines" (.cons (.var 5) (.cons (.var 5) (.cons (.var 3) .nil))))) (.seq (.set 8 (.bin .Add (.var 8) (.bin .Mult (.lst (.cons (.var 5) .nil)) (.b1 .int (.cmp .IsNot (.var 10) .kN))))) (.set 9 (.bin .Add (.var 9) (.bin .Mult (.lst (.cons (.var 5) .nil)) (.b1 .int (.cmp .IsNot (.var 11) .kN)))))))) (.seq (.set 6 (.ite (.and (.cmp .NotEq (.var 8) (.lst .nil)) (.cmp .NotEq (.var 9) (.lst .nil))) (.tup (.cons (.idx (.var 8) (.kI 0)) (.cons (.idx (.var 9) (.kI 0)) .nil))) .kN)) (.seq (.ite (.not (.truth (.call "_law_like" (.cons (.call "least_size" (.cons (.var 3) .nil)) (.cons (.var 6) .nil))))) (.ret (.kB false)) .skip) (.ite (.cmp .IsNot (.var 6) .kN) (.seq (.ite (.or (.cmp .NotEq (.var 8) (.listOf (.range2 (.idx (.var 6) (.kI 0)) (.bin .Add (.var 4) (.kI 1))))) (.cmp .NotEq (.var 9) (.listOf (.range2 (.idx (.var 6) (.kI 1)) (.bin .Add (.var 4) (.kI 1)))))) (.ret (.kB false)) .skip) (.seq (.ite (.cmp .Is (.call "size_after" (.cons (.var 3) (.cons (.idx (.var 6) (.kI 0)) (.cons (.idx (.var 6) (.kI 1)) .nil)))) .kN) (.ret (.kB false)) .skip) (.seq (.ite (.and (.cmp .Gt (.idx (.var 6) (.kI 0)) (.kI 1)) (.cmp .IsNot (.call "size_after" (.cons (.var 3) (.cons (.bin .Sub (.idx (.var 6) (.kI 0)) (.kI 1)) (.cons (.bin .Pow (.kI 10) (.kI 15)) .nil)))) .kN)) (.ret (.kB false)) .skip) (.ite (.and (.cmp .Gt (.idx (.var 6) (.kI 1)) (.kI 1)) (.cmp .IsNot (.call "size_after" (.cons (.var 3) (.cons (.bin .Pow (.kI 10) (.kI 15)) (.cons (.bin .Sub (.idx (.var 6) (.kI 1)) (.kI 1)) .nil)))) .kN)) (.ret (.kB false)) .skip)))) .skip))))))))) (.ret (.and (.cmp .Eq (.call "least_size" (.cons (.tup .nil) .nil)) (.tup (.cons (.kI 1) (.cons (.kI 1) .nil)))) (.cmp .Is (.call "least_size" (.cons (.tup (.cons (.tup (.cons (.kS "corner") (.cons (.kI 2) (.cons (.kI 2) .nil)))) (.cons (.tup (.cons (.kS "trim") (.cons (.kI 1) (.cons (.kI 0) (.cons (.kI 1) (.cons (.kI 0) .nil)))))) .nil))) .nil)) .kN))))
def t_place_before : S := .seq (.set 4 (.idx (.var 2) (.kI 0))) (.seq (.ite (.cmp .Eq (.var 4) (.kS "flip")) (.ret (.ite (.cmp .Eq (.idx (.var 2) (.kI 1)) (.idx (.tup (.cons (.kS "across") (.cons (.kS "down") .nil))) (.var 3))) (.bin .Sub (.bin .Sub (.var 1) (.kI 1)) (.var 0)) (.var 0))) .skip) (.seq (.ite (.cmp .Eq (.var 4) (.kS "trim")) (.ret (.bin .Add (.var 0) (.idx (.var 2) (.bin .Add (.kI 1) (.var 3))))) .skip) (.seq (.ite (.cmp .Eq (.var 4) (.kS "pad")) (.ret (.ite (.chain .LtE .Lt (.kI 0) (.bin .Sub (.var 0) (.idx (.var 2) (.bin .Add (.kI 1) (.var 3)))) (.var 1)) (.bin .Sub (.var 0) (.idx (.var 2) (.bin .Add (.kI 1) (.var 3)))) .kN)) .skip) (.seq (.ite (.cmp .Eq (.var 4) (.kS "enlarge")) (.ret (.bin .FloorDiv (.var 0) (.idx (.var 2) (.kI 1)))) .skip) (.ret (.ite (.cmp .Eq (.var 4) (.kS "reduce")) (.bin .Mult (.var 0) (.idx (.var 2) (.kI 1))) (.var 0)))))))
def t_turn_before : S := .seq (.for_ (.one 4) (.range1 (.var 3)) (.par [0, 1, 2] (.cons (.var 1) (.cons (.bin .Sub (.bin .Sub (.idx (.var 2) (.kI 0)) (.kI 1)) (.var 0)) (.cons (.tup (.cons (.idx (.var 2) (.kI 1)) (.cons (.idx (.var 2) (.kI 0)) .nil))) .nil))))) (.ret (.tup (.cons (.var 0) (.cons (.var 1) .nil))))
def t_source : S := .seq (.set 5 (.call "sizes" (.cons (.var 1) (.cons (.var 2) (.cons (.var 0) .nil))))) (.seq (.for_ (.many [6, 7, 8]) (.seq (.call "zip" (.cons (.rev (.var 0)) (.cons (.rev (.slice (.var 5) .pN (.pE (.neg (.kI 1))))) (.cons (.rev (.slice (.var 5) (.pE (.kI 1)) .pN)) .nil))))) (.ite (.cmp .Eq (.idx (.var 6) (.kI 0)) (.kS "turn")) (.setT (.many [3, 4]) (.call "turn_before" (.cons (.var 3) (.cons (.var 4) (.cons (.var 8) (.cons (.idx (.var 6) (.kI 1)) .nil)))))) (.seq (.par [3, 4] (.cons (.call "place_before" (.cons (.var 3) (.cons (.idx (.var 7) (.kI 0)) (.cons (.var 6) (.cons (.kI 0) .nil))))) (.cons (.call "place_before" (.cons (.var 4) (.cons (.idx (.var 7) (.kI 1)) (.cons (.var 6) (.cons (.kI 1) .nil))))) .nil))) (.ite (.or (.cmp .Is (.var 3) .kN) (.cmp .Is (.var 4) .kN)) (.ret .kN) .skip)))) (.ret (.tup (.cons (.var 3) (.cons (.var 4) .nil)))))
def t_law_back_in : S := .seq (.set 4 (.idx (.var 2) (.kI 0))) (.seq (.ite (.cmp .Eq (.var 4) (.kS "flip")) (.ret (.ite (.cmp .Eq (.idx (.var 2) (.kI 1)) (.idx (.lst (.cons (.kS "across") (.cons (.kS "down") .nil))) (.var 3))) (.bin .Sub (.bin .Sub (.var 1) (.kI 1)) (.var 0)) (.var 0))) .skip) (.seq (.ite (.cmp .Eq (.var 4) (.kS "trim")) (.ret (.bin .Add (.var 0) (.idx (.var 2) (.bin .Add (.kI 1) (.var 3))))) .skip) (.seq (.ite (.cmp .Eq (.var 4) (.kS "pad")) (.seq (.set 5 (.bin .Sub (.var 0) (.idx (.var 2) (.bin .Add (.kI 1) (.var 3))))) (.ret (.ite (.chain .LtE .Lt (.kI 0) (.var 5) (.var 1)) (.var 5) .kN))) .skip) (.seq (.ite (.cmp .Eq (.var 4) (.kS "enlarge")) (.ret (.bin .FloorDiv (.bin .Sub (.var 0) (.bin .Mod (.b1 .int (.var 0)) (.idx (.var 2) (.kI 1)))) (.idx (.var 2) (.kI 1)))) .skip) (.ret (.ite (.cmp .Eq (.var 4) (.kS "reduce")) (.bin .Mult (.var 0) (.idx (.var 2) (.kI 1))) (.var 0)))))))
def t_law_from : S := .seq (.ite (.cmp .Eq (.var 0) (.tup .nil)) (.ret (.tup (.cons (.var 3) (.cons (.var 4) .nil)))) .skip) (.seq (.par [5, 6] (.cons (.slice (.var 0) .pN (.pE (.neg (.kI 1)))) (.cons (.idx (.var 0) (.neg (.kI 1))) .nil))) (.seq (.setT (.many [7, 8]) (.call "size_after" (.cons (.var 5) (.cons (.var 1) (.cons (.var 2) .nil))))) (.seq (.ite (.cmp .Eq (.idx (.var 6) (.kI 0)) (.kS "turn")) (.seq (.for_ (.one 9) (.range1 (.idx (.var 6) (.kI 1))) (.seq (.set 12 (.bin .Sub (.idx (.var 6) (.kI 1)) (.var 9))) (.seq (.set 13 (.ite (.cmp .Eq (.bin .Mod (.b1 .int (.var 12)) (.kI 2)) (.kI 0)) (.var 7) (.var 8))) (.par [3, 4] (.cons (.var 4) (.cons (.bin .Sub (.bin .Sub (.var 13) (.kI 1)) (.var 3)) .nil)))))) (.ret (.call "_law_from" (.cons (.var 5) (.cons (.var 1) (.cons (.var 2) (.cons (.var 3) (.cons (.var 4) .nil)))))))) .skip) (.seq (.par [10, 11] (.cons (.call "_law_back_in" (.cons (.var 3) (.cons (.var 7) (.cons (.var 6) (.cons (.kI 0) .nil))))) (.cons (.call "_law_back_in" (.cons (.var 4) (.cons (.var 8) (.cons (.var 6) (.cons (.kI 1) .nil))))) .nil))) (.seq (.ite (.or (.cmp .Is (.var 10) .kN) (.cmp .Is (.var 11) .kN)) (.ret .kN) .skip) (.ret (.call "_law_from" (.cons (.var 5) (.cons (.var 1) (.cons (.var 2) (.cons (.var 10) (.cons (.var 11) .nil))))))))))))
def t_law_k12 : S := .seq (.setO 1 (.lst (.cons (.scr 0) (.cons (.kI 0) (.cons (.kI 0) .nil))))) (.seq (.for_ (.one 2) (.range1 (.kI 8)) (.seq (.set 3 (.call "_law_stack" (.ref 1 (.cons (.kI 6) .nil)))) (.for_ (.one 4) (.seq (.tup (.cons (.kB false) (.cons (.kB true) .nil)))) (.seq (.set 5 (.ite (.truth (.var 4)) (.bin .Pow (.kI 10) (.kI 15)) (.kI 9))) (.seq (.par [8, 9] (.cons (.bin .Add (.kI 1) (.call "_law_draw" (.ref 1 (.cons (.var 5) .nil)))) (.cons (.bin .Add (.kI 1) (.call "_law_draw" (.ref 1 (.cons (.var 5) .nil)))) .nil))) (.seq (.set 6 (.call "size_after" (.cons (.var 3) (.cons (.var 8) (.cons (.var 9) .nil))))) (.for_ (.one 7) (.range1 (.kI 4)) (.ite (.cmp .IsNot (.var 6) .kN) (.seq (.par [11, 12] (.cons (.call "_law_draw" (.ref 1 (.cons (.idx (.var 6) (.kI 0)) .nil))) (.cons (.call "_law_draw" (.ref 1 (.cons (.idx (.var 6) (.kI 1)) .nil))) .nil))) (.seq (.set 10 (.call "source" (.cons (.var 3) (.cons (.var 8) (.cons (.var 9) (.cons (.var 11) (.cons (.var 12) .nil))))))) (.seq (.ite (.not (.truth (.call "_law_like" (.cons (.var 10) (.cons (.call "_law_from" (.cons (.var 3) (.cons (.var 8) (.cons (.var 9) (.cons (.var 11) (.cons (.var 12) .nil)))))) .nil))))) (.ret (.kB false)) .skip) (.ite (.not (.truth (.var 4))) (.seq (.setT (.many [14, 15, 16]) (.call "_law_lines" (.cons (.var 8) (.cons (.var 9) (.cons (.var 3) .nil))))) (.seq (.set 13 (.ite (.truth (.var 16)) (.tup (.cons (.idx (.var 14) (.var 12)) (.cons (.idx (.var 15) (.var 11)) .nil))) (.tup (.cons (.idx (.var 14) (.var 11)) (.cons (.idx (.var 15) (.var 12)) .nil))))) (.ite (.not (.truth (.call "_law_like" (.cons (.var 10) (.cons (.ite (.cmp .In .kN (.var 13)) .kN (.var 13)) .nil))))) (.ret (.kB false)) .skip))) .skip)))) .skip)))))))) (.ret (.cmp .Eq (.call "source" (.cons (.tup (.cons (.tup (.cons (.kS "turn") (.cons (.kI 1) .nil))) .nil)) (.cons (.kI 3) (.cons (.kI 2) (.cons (.kI 0) (.cons (.kI 0) .nil)))))) (.tup (.cons (.kI 0) (.cons (.kI 1) .nil))))))
def t_seen_places : S := .ret (.ite (.cmp .Is (.var 0) .kN) (.lst .nil) (.call "sorted" (.cons (.call "set" (.cons (.comp [1] (.one 1) (.seq (.var 0)) (.cmp .IsNot (.var 1) .kN) (.var 1)) .nil)) .nil)))
def t_seen_columns : S := .ret (.call "seen_places" (.cons (.idx (.call "own_lines" (.cons (.var 1) (.cons (.var 0) .nil))) (.kI 0)) .nil))
def t_seen_rows : S := .ret (.call "seen_places" (.cons (.idx (.call "own_lines" (.cons (.var 1) (.cons (.var 0) .nil))) (.kI 1)) .nil))
def t_times_seen : S := .seq (.par [5, 6] (.cons (.idx (.call "own_lines" (.cons (.var 1) (.cons (.var 0) .nil))) (.kI 0)) (.cons (.idx (.call "own_lines" (.cons (.var 2) (.cons (.var 0) .nil))) (.kI 1)) .nil))) (.seq (.ite (.or (.cmp .Is (.var 5) .kN) (.cmp .Is (.var 6) .kN)) (.ret (.kI 0)) .skip) (.ret (.bin .Mult (.m1 .count (.var 5) (.var 3)) (.m1 .count (.var 6) (.var 4)))))
def t_law_shown : S := .ret (.ite (.cmp .Is (.var 0) .kN) (.lst .nil) (.call "sorted" (.cons (.call "set" (.cons (.comp [1] (.one 1) (.seq (.var 0)) (.cmp .IsNot (.var 1) .kN) (.var 1)) .nil)) .nil)))
def t_law_k13 : S := .seq (.setO 1 (.lst (.cons (.scr 0) (.cons (.kI 0) (.cons (.kI 0) .nil))))) (.seq (.for_ (.one 2) (.range1 (.kI 10)) (.seq (.set 3 (.call "_law_stack" (.ref 1 (.cons (.kI 6) .nil)))) (.seq (.par [4, 8] (.cons (.bin .Add (.kI 1) (.call "_law_draw" (.ref 1 (.cons (.kI 200) .nil)))) (.cons (.bin .Add (.kI 1) (.call "_law_draw" (.ref 1 (.cons (.kI 12) .nil)))) .nil))) (.seq (.setT (.many [9, 10, 11]) (.call "_law_lines" (.cons (.var 4) (.cons (.var 8) (.cons (.var 3) .nil))))) (.seq (.ite (.not (.truth (.call "_law_like" (.cons (.call "seen_columns" (.cons (.var 3) (.cons (.var 4) .nil))) (.cons (.call "_law_shown" (.cons (.var 9) .nil)) .nil))))) (.ret (.kB false)) .skip) (.seq (.ite (.not (.truth (.call "_law_like" (.cons (.call "seen_rows" (.cons (.var 3) (.cons (.var 8) .nil))) (.cons (.call "_law_shown" (.cons (.var 10) .nil)) .nil))))) (.ret (.kB false)) .skip) (.seq (.set 4 (.bin .Add (.kI 1) (.call "_law_draw" (.ref 1 (.cons (.kI 8) .nil))))) (.seq (.par [12, 13] (.cons (.call "_law_draw" (.ref 1 (.cons (.var 4) .nil))) (.cons (.call "_law_draw" (.ref 1 (.cons (.var 8) .nil))) .nil))) (.seq (.set 5 (.call "_law_after" (.cons (.call "_law_unlike" (.cons (.var 4) (.cons (.var 8) .nil))) (.cons (.var 3) .nil)))) (.seq (.set 6 (.kI 0)) (.seq (.for_ (.one 7) (.seq (.ite (.cmp .Is (.var 5) .kN) (.tup .nil) (.var 5))) (.set 6 (.bin .Add (.var 6) (.m1 .count (.var 7) (.bin .Add (.bin .Mult (.var 4) (.var 13)) (.var 12)))))) (.ite (.not (.truth (.call "_law_like" (.cons (.call "times_seen" (.cons (.var 3) (.cons (.var 4) (.cons (.var 8) (.cons (.var 12) (.cons (.var 13) .nil)))))) (.cons (.var 6) .nil))))) (.ret (.kB false)) .skip)))))))))))) (.ret (.and (.cmp .Eq (.call "times_seen" (.cons (.tup (.cons (.tup (.cons (.kS "enlarge") (.cons (.kI 3) .nil))) .nil)) (.cons (.kI 200) (.cons (.kI 1) (.cons (.kI 199) (.cons (.kI 0) .nil)))))) (.kI 9)) (.cmp .Eq (.call "seen_columns" (.cons (.tup (.cons (.tup (.cons (.kS "trim") (.cons (.kI 3) (.cons (.kI 0) (.cons (.kI 0) (.cons (.kI 0) .nil)))))) .nil)) (.cons (.kI 3) .nil))) (.lst .nil)))))
def t_shows_all : S := .seq (.for_ (.one 1) (.range2 (.kI 1) (.bin .Add (.call "enough" (.cons (.var 0) (.cons (.tup .nil) .nil))) (.kI 1))) (.seq (.setT (.many [2, 3]) (.call "own_lines" (.cons (.var 1) (.cons (.var 0) .nil)))) (.ite (.or (.cmp .NotEq (.call "seen_places" (.cons (.var 2) .nil)) (.listOf (.range1 (.var 1)))) (.cmp .NotEq (.call "seen_places" (.cons (.var 3) .nil)) (.listOf (.range1 (.var 1))))) (.ret (.kB false)) .skip))) (.ret (.kB true))
def t_law_k14 : S := .seq (.setO 1 (.lst (.cons (.scr 0) (.cons (.kI 0) (.cons (.kI 0) .nil))))) (.seq (.for_ (.one 2) (.range1 (.kI 6)) (.seq (.set 3 (.call "_law_stack" (.ref 1 (.cons (.kI 4) .nil)))) (.seq (.ite (.cmp .Eq (.call "_law_draw" (.ref 1 (.cons (.kI 2) .nil))) (.kI 0)) (.seq (.set 8 (.lst (.cons (.tup (.cons (.kS "turn") (.cons (.kI 1) .nil))) (.cons (.tup (.cons (.kS "flip") (.cons (.kS "across") .nil))) (.cons (.tup (.cons (.kS "pad") (.cons (.kI 1) (.cons (.kI 0) (.cons (.kI 2) (.cons (.kI 3) .nil)))))) (.cons (.tup (.cons (.kS "trim") (.cons (.kI 0) (.cons (.kI 0) (.cons (.kI 0) (.cons (.kI 0) .nil)))))) (.cons (.tup (.cons (.kS "turn") (.cons (.kI 3) .nil))) .nil))))))) (.seq (.set 3 (.tup (.cons (.idx (.var 8) (.call "_law_draw" (.ref 1 (.cons (.kI 5) .nil)))) (.cons (.tup (.cons (.kS "enlarge") (.cons (.bin .Add (.kI 2) (.call "_law_draw" (.ref 1 (.cons (.kI 2) .nil)))) .nil))) (.cons (.idx (.var 8) (.call "_law_draw" (.ref 1 (.cons (.kI 5) .nil)))) .nil))))) (.seq (.set 9 (.idx (.lst (.cons (.tup (.cons (.kS "trim") (.cons (.kI 1) (.cons (.kI 0) (.cons (.kI 0) (.cons (.kI 0) .nil)))))) (.cons (.tup (.cons (.kS "reduce") (.cons (.kI 2) .nil))) (.cons (.tup (.cons (.kS "trim") (.cons (.kI 0) (.cons (.kI 1) (.cons (.kI 1) (.cons (.kI 0) .nil)))))) (.cons (.tup (.cons (.kS "corner") (.cons (.kI 5) (.cons (.kI 5) .nil)))) .nil))))) (.call "_law_draw" (.ref 1 (.cons (.kI 4) .nil))))) (.set 3 (.bin .Add (.var 3) (.tup (.cons (.var 9) .nil))))))) .skip) (.seq (.par [10, 11] (.cons (.bin .Mult (.kI 3) (.bin .Add (.call "_law_weight" (.cons (.var 3) .nil)) (.kI 12))) (.cons (.kB true) .nil))) (.seq (.for_ (.one 4) (.range2 (.kI 1) (.bin .Add (.var 10) (.kI 1))) (.seq (.setT (.many [13, 14, 15]) (.call "_law_lines" (.cons (.var 4) (.cons (.var 4) (.cons (.var 3) .nil))))) (.for_ (.one 12) (.seq (.tup (.cons (.var 13) (.cons (.var 14) .nil)))) (.seq (.set 16 (.ite (.cmp .Is (.var 12) .kN) (.lst .nil) (.comp [17] (.one 17) (.seq (.var 12)) (.cmp .IsNot (.var 17) .kN) (.var 17)))) (.ite (.cmp .NotEq (.call "sorted" (.cons (.call "set" (.cons (.var 16) .nil)) .nil)) (.listOf (.range1 (.var 4)))) (.set 11 (.kB false)) .skip))))) (.seq (.set 5 (.call "shows_all" (.cons (.var 3) .nil))) (.seq (.ite (.not (.truth (.call "_law_like" (.cons (.var 5) (.cons (.var 11) .nil))))) (.ret (.kB false)) .skip) (.seq (.set 4 (.bin .Add (.bin .Add (.var 10) (.kI 1)) (.call "_law_draw" (.ref 1 (.cons (.kI 100) .nil))))) (.seq (.set 6 (.b2 .min (.kI 200) (.var 4))) (.seq (.set 7 (.tup (.cons (.b1 .len (.call "seen_columns" (.cons (.var 3) (.cons (.var 6) .nil)))) (.cons (.b1 .len (.call "seen_rows" (.cons (.var 3) (.cons (.kI 200) .nil)))) .nil)))) (.ite (.and (.truth (.var 5)) (.cmp .NotEq (.var 7) (.tup (.cons (.var 6) (.cons (.kI 200) .nil))))) (.ret (.kB false)) .skip))))))))))) (.seq (.ite (.or (.not (.truth (.call "shows_all" (.cons (.tup (.cons (.tup (.cons (.kS "turn") (.cons (.kI 1) .nil))) (.cons (.tup (.cons (.kS "pad") (.cons (.kI 1) (.cons (.kI 1) (.cons (.kI 1) (.cons (.kI 1) .nil)))))) .nil))) .nil)))) (.not (.truth (.call "shows_all" (.cons (.tup .nil) .nil))))) (.ret (.kB false)) .skip) (.ret (.and (.not (.call "shows_all" (.cons (.tup (.cons (.tup (.cons (.kS "corner") (.cons (.kI 5) (.cons (.kI 5) .nil)))) .nil)) .nil))) (.not (.call "shows_all" (.cons (.tup (.cons (.tup (.cons (.kS "trim") (.cons (.kI 0) (.cons (.kI 1) (.cons (.kI 0) (.cons (.kI 0) .nil)))))) .nil)) .nil)))))))
def t_fours : S := .seq (.set 1 (.comp2 [2, 3] [3] (.one 2) (.range1 (.kI 4)) (.kB true) (.one 3) (.range1 (.kI 4)) (.kB true) (.tup (.cons (.var 2) (.cons (.var 3) .nil))))) (.ret (.comp2 [2, 3] [3] (.one 2) (.seq (.var 1)) (.kB true) (.one 3) (.seq (.var 1)) (.kB true) (.tup (.cons (.var 0) (.star (.var 2) (.star (.var 3) .nil))))))
def t_hidden_edits : S := .seq (.setO 4 (.lst .nil)) (.seq (.for_ (.one 5) (.seq (.call "all_edits" .nil)) (.seq (.set 6 (.tup (.star (.slice (.var 1) .pN (.pE (.var 2))) (.cons (.var 5) (.star (.slice (.var 1) (.pE (.var 2)) .pN) .nil))))) (.ite (.and (.truth (.call "is_stack" (.cons (.var 6) .nil))) (.cmp .Eq (.call "applied" (.cons (.var 0) (.cons (.var 6) .nil))) (.var 3))) (.app 4 (.var 5)) .skip))) (.ret (.var 4)))
def t_law_every : S := .seq (.set 0 (.lst (.cons (.tup (.cons (.kS "turn") (.cons (.kI 1) .nil))) (.cons (.tup (.cons (.kS "turn") (.cons (.kI 2) .nil))) (.cons (.tup (.cons (.kS "turn") (.cons (.kI 3) .nil))) (.cons (.tup (.cons (.kS "flip") (.cons (.kS "across") .nil))) (.cons (.tup (.cons (.kS "flip") (.cons (.kS "down") .nil))) .nil))))))) (.seq (.set 0 (.bin .Add (.var 0) (.lst (.cons (.tup (.cons (.kS "enlarge") (.cons (.kI 2) .nil))) (.cons (.tup (.cons (.kS "enlarge") (.cons (.kI 3) .nil))) (.cons (.tup (.cons (.kS "reduce") (.cons (.kI 2) .nil))) (.cons (.tup (.cons (.kS "reduce") (.cons (.kI 3) .nil))) .nil))))))) (.seq (.for_ (.one 1) (.range1 (.kI 5)) (.set 0 (.bin .Add (.var 0) (.comp [4] (.one 4) (.range1 (.kI 5)) (.kB true) (.tup (.cons (.kS "corner") (.cons (.bin .Add (.var 1) (.kI 1)) (.cons (.bin .Add (.var 4) (.kI 1)) .nil)))))))) (.seq (.for_ (.one 2) (.range1 (.kI 256)) (.seq (.set 3 (.tup (.cons (.bin .FloorDiv (.var 2) (.kI 64)) (.cons (.bin .Mod (.b1 .int (.bin .FloorDiv (.var 2) (.kI 16))) (.kI 4)) (.cons (.bin .Mod (.b1 .int (.bin .FloorDiv (.var 2) (.kI 4))) (.kI 4)) (.cons (.bin .Mod (.b1 .int (.var 2)) (.kI 4)) .nil)))))) (.set 0 (.bin .Add (.var 0) (.lst (.cons (.bin .Add (.tup (.cons (.kS "trim") .nil)) (.var 3)) (.cons (.bin .Add (.tup (.cons (.kS "pad") .nil)) (.var 3)) .nil))))))) (.ret (.var 0)))))
def t_law_k15 : S := .seq (.setO 1 (.lst (.cons (.scr 0) (.cons (.kI 0) (.cons (.kI 0) .nil))))) (.seq (.par [5, 6] (.cons (.call "_law_picture" (.ref 1 (.cons (.kI 5) .nil))) (.cons (.call "_law_stack" (.ref 1 (.cons (.kI 3) .nil))) .nil))) (.seq (.par [7, 8] (.cons (.call "_law_draw" (.ref 1 (.cons (.bin .Add (.b1 .len (.var 6)) (.kI 1)) .nil))) (.cons (.call "_law_edit" (.ref 1 .nil)) .nil))) (.seq (.set 2 (.call "_law_after" (.cons (.var 5) (.cons (.bin .Add (.bin .Add (.slice (.var 6) .pN (.pE (.var 7))) (.tup (.cons (.var 8) .nil))) (.slice (.var 6) (.pE (.var 7)) .pN)) .nil)))) (.seq (.ite (.or (.cmp .Is (.var 2) .kN) (.cmp .Eq (.call "_law_draw" (.ref 1 (.cons (.kI 5) .nil))) (.kI 0))) (.set 2 (.call "_law_picture" (.ref 1 (.cons (.kI 4) .nil)))) .skip) (.seq (.setO 3 (.lst .nil)) (.seq (.for_ (.one 4) (.seq (.call "_law_every" .nil)) (.seq (.set 9 (.bin .Add (.bin .Add (.slice (.var 6) .pN (.pE (.var 7))) (.tup (.cons (.var 4) .nil))) (.slice (.var 6) (.pE (.var 7)) .pN))) (.ite (.and (.truth (.call "_law_fits" (.cons (.var 9) .nil))) (.cmp .Eq (.call "_law_after" (.cons (.var 5) (.cons (.var 9) .nil))) (.var 2))) (.app 3 (.var 4)) .skip))) (.seq (.ite (.not (.truth (.call "_law_like" (.cons (.call "hidden_edits" (.cons (.var 5) (.cons (.var 6) (.cons (.var 7) (.cons (.var 2) .nil))))) (.cons (.call "sorted" (.ref 3 .nil)) .nil))))) (.ret (.kB false)) .skip) (.ret (.cmp .Eq (.call "hidden_edits" (.cons (.tup (.cons (.tup (.cons (.kI 1) (.cons (.kI 2) .nil))) .nil)) (.cons (.tup .nil) (.cons (.kI 0) (.cons (.tup (.cons (.tup (.cons (.kI 2) (.cons (.kI 1) .nil))) .nil)) .nil))))) (.lst (.cons (.tup (.cons (.kS "flip") (.cons (.kS "across") .nil))) (.cons (.tup (.cons (.kS "turn") (.cons (.kI 2) .nil))) .nil))))))))))))
def t_fitting_stacks : S := .seq (.setO 4 (.lst .nil)) (.seq (.for_ (.many [5, 6]) (.enum (.var 0)) (.seq (.set 7 (.call "applied" (.cons (.bin .Mult (.tup (.cons (.bin .Mult (.tup (.cons .kN .nil)) (.var 1)) .nil)) (.var 2)) (.cons (.var 6) .nil)))) (.ite (.cmp .Eq (.var 3) (.ite (.cmp .Is (.var 7) .kN) .kN (.tup (.cons (.b1 .len (.idx (.var 7) (.kI 0))) (.cons (.b1 .len (.var 7)) .nil))))) (.app 4 (.var 5)) .skip))) (.ret (.var 4)))
def t_law_k16 : S := .seq (.setO 1 (.lst (.cons (.scr 0) (.cons (.kI 0) (.cons (.kI 0) .nil))))) (.seq (.for_ (.one 2) (.range1 (.kI 8)) (.seq (.set 3 (.tup .nil)) (.seq (.for_ (.one 4) (.range1 (.call "_law_draw" (.ref 1 (.cons (.kI 7) .nil)))) (.set 3 (.bin .Add (.var 3) (.tup (.cons (.call "_law_stack" (.ref 1 (.cons (.kI 4) .nil))) .nil))))) (.seq (.par [8, 9] (.cons (.bin .Add (.kI 1) (.call "_law_draw" (.ref 1 (.cons (.kI 12) .nil)))) (.cons (.bin .Add (.kI 1) (.call "_law_draw" (.ref 1 (.cons (.kI 12) .nil)))) .nil))) (.seq (.setO 5 (.lst .nil)) (.seq (.for_ (.one 6) (.seq (.var 3)) (.seq (.setT (.many [11, 12, 13]) (.call "_law_lines" (.cons (.var 8) (.cons (.var 9) (.cons (.var 6) .nil))))) (.seq (.set 7 .kN) (.seq (.ite (.and (.cmp .IsNot (.var 11) .kN) (.cmp .IsNot (.var 12) .kN)) (.set 7 (.ite (.truth (.var 13)) (.tup (.cons (.b1 .len (.var 12)) (.cons (.b1 .len (.var 11)) .nil))) (.tup (.cons (.b1 .len (.var 11)) (.cons (.b1 .len (.var 12)) .nil))))) .skip) (.app 5 (.var 7)))))) (.for_ (.one 7) (.seq (.bin .Add (.var 5) (.lst (.cons .kN (.cons (.tup (.cons (.var 8) (.cons (.var 9) .nil))) (.cons (.tup (.cons (.kI 1) (.cons (.kI 1) .nil))) (.cons (.tup (.cons (.kI 0) (.cons (.kI 0) .nil))) .nil))))))) (.seq (.set 10 (.comp [14] (.one 14) (.range1 (.b1 .len (.var 3))) (.cmp .Eq (.ownIdx 5 (.var 14)) (.var 7)) (.var 14))) (.ite (.not (.truth (.call "_law_like" (.cons (.call "fitting_stacks" (.cons (.var 3) (.cons (.var 8) (.cons (.var 9) (.cons (.var 7) .nil))))) (.cons (.var 10) .nil))))) (.ret (.kB false)) .skip))))))))) (.ret (.cmp .Eq (.call "fitting_stacks" (.cons (.tup .nil) (.cons (.kI 1) (.cons (.kI 1) (.cons .kN .nil))))) (.lst .nil))))
def t_read_part : S := .ret (.ite (.and (.cmp .Eq (.b1 .len (.var 0)) (.kI 1)) (.cmp .In (.var 0) (.kS "0123456789"))) (.b1 .int (.var 0)) (.var 0))
def t_law_still : S := .ret (.call "_law_after" (.cons (.tup (.cons (.tup (.cons (.kI 0) (.cons (.kI 1) (.cons (.kI 2) .nil)))) (.cons (.tup (.cons (.kI 3) (.cons (.kI 4) (.cons (.kI 5) .nil)))) .nil))) (.cons (.var 0) .nil)))
def t_law_k18 : S := .seq (.setO 1 (.lst (.cons (.scr 0) (.cons (.kI 0) (.cons (.kI 0) .nil))))) (.seq (.set 2 (.lst (.cons (.tup (.cons (.kS "turn") (.cons (.kI 1) .nil))) (.cons (.tup (.cons (.kS "turn") (.cons (.kI 2) .nil))) (.cons (.tup (.cons (.kS "turn") (.cons (.kI 3) .nil))) (.cons (.tup (.cons (.kS "flip") (.cons (.kS "across") .nil))) (.cons (.tup (.cons (.kS "flip") (.cons (.kS "down") .nil))) .nil))))))) (.seq (.setO 3 (.lst .nil)) (.seq (.for_ (.one 4) (.range1 (.kI 4)) (.seq (.set 6 (.tup .nil)) (.seq (.for_ (.one 7) (.range1 (.call "_law_draw" (.ref 1 (.cons (.kI 4) .nil)))) (.set 6 (.bin .Add (.var 6) (.tup (.cons (.idx (.var 2) (.call "_law_draw" (.ref 1 (.cons (.kI 5) .nil)))) .nil))))) (.app 3 (.var 6))))) (.seq (.set 5 (.lst (.cons (.tup .nil) (.cons (.tup (.cons (.idx (.var 2) (.kI 0)) .nil)) (.cons (.tup (.cons (.idx (.var 2) (.kI 1)) .nil)) (.cons (.tup (.cons (.idx (.var 2) (.kI 2)) .nil)) (.cons (.tup (.cons (.idx (.var 2) (.kI 3)) .nil)) (.cons (.tup (.cons (.idx (.var 2) (.kI 4)) .nil)) .nil)))))))) (.seq (.set 5 (.bin .Add (.var 5) (.lst (.cons (.tup (.cons (.idx (.var 2) (.kI 0)) (.cons (.idx (.var 2) (.kI 3)) .nil))) (.cons (.tup (.cons (.idx (.var 2) (.kI 0)) (.cons (.idx (.var 2) (.kI 4)) .nil))) .nil))))) (.seq (.for_ (.one 6) (.seq (.var 3)) (.seq (.set 8 (.comp [13] (.one 13) (.seq (.var 5)) (.truth (.call "alike" (.cons (.var 6) (.cons (.var 13) .nil)))) (.var 13))) (.seq (.ite (.or (.cmp .NotEq (.b1 .len (.var 8)) (.kI 1)) (.cmp .NotEq (.call "_law_still" (.cons (.idx (.var 8) (.kI 0)) .nil)) (.call "_law_still" (.cons (.var 6) .nil)))) (.ret (.kB false)) .skip) (.seq (.for_ (.one 9) (.seq (.var 3)) (.ite (.cmp .NotEq (.call "alike" (.cons (.var 6) (.cons (.var 9) .nil))) (.cmp .Eq (.call "_law_still" (.cons (.var 6) .nil)) (.call "_law_still" (.cons (.var 9) .nil)))) (.ret (.kB false)) .skip)) (.seq (.set 10 (.tup .nil)) (.seq (.for_ (.one 11) (.seq (.var 6)) (.seq (.set 12 (.ite (.cmp .Eq (.idx (.var 11) (.kI 0)) (.kS "turn")) (.tup (.cons (.kS "turn") (.cons (.bin .Sub (.kI 4) (.idx (.var 11) (.kI 1))) .nil))) (.var 11))) (.set 10 (.bin .Add (.tup (.cons (.var 12) .nil)) (.var 10))))) (.ite (.or (.not (.truth (.call "undoes" (.cons (.var 10) (.cons (.var 6) .nil))))) (.not (.truth (.call "undoes" (.cons (.var 6) (.cons (.var 10) .nil)))))) (.ret (.kB false)) .skip))))))) (.ret (.cmp .Eq (.b1 .len (.call "set" (.cons (.comp [13] (.one 13) (.seq (.var 5)) (.kB true) (.call "_law_still" (.cons (.var 13) .nil))) .nil))) (.kI 8)))))))))
def t_law_mirrored : S := .seq (.set 1 (.tup .nil)) (.seq (.for_ (.one 2) (.seq (.var 0)) (.ite (.cmp .Eq (.idx (.var 2) (.kI 0)) (.kS "turn")) (.set 1 (.bin .Add (.var 1) (.tup (.cons (.tup (.cons (.kS "turn") (.cons (.bin .Sub (.kI 4) (.idx (.var 2) (.kI 1))) .nil))) .nil)))) (.ite (.cmp .In (.idx (.var 2) (.kI 0)) (.tup (.cons (.kS "trim") (.cons (.kS "pad") .nil)))) (.seq (.setT (.many [3, 4, 5, 6, 7]) (.var 2)) (.set 1 (.bin .Add (.var 1) (.tup (.cons (.tup (.cons (.var 3) (.cons (.var 6) (.cons (.var 5) (.cons (.var 4) (.cons (.var 7) .nil)))))) .nil))))) (.set 1 (.bin .Add (.var 1) (.tup (.cons (.var 2) .nil))))))) (.ret (.var 1)))
def t_law_k19 : S := .seq (.setO 1 (.lst (.cons (.scr 0) (.cons (.kI 0) (.cons (.kI 0) .nil))))) (.seq (.for_ (.one 2) (.range1 (.kI 4)) (.seq (.set 3 (.b1 .tuple (.comp [8] (.one 8) (.seq (.call "_law_stack" (.ref 1 (.cons (.kI 4) .nil)))) (.cmp .NotIn (.idx (.var 8) (.kI 0)) (.tup (.cons (.kS "corner") (.cons (.kS "reduce") .nil)))) (.var 8)))) (.seq (.set 4 (.call "_law_mirrored" (.cons (.var 3) .nil))) (.seq (.set 5 (.tup (.cons (.kS "flip") (.cons (.kS "across") .nil)))) (.seq (.ite (.not (.truth (.call "alike" (.cons (.bin .Add (.bin .Add (.tup (.cons (.var 5) .nil)) (.var 4)) (.tup (.cons (.var 5) .nil))) (.cons (.var 3) .nil))))) (.ret (.kB false)) .skip) (.seq (.set 6 (.call "_law_picture" (.ref 1 (.cons (.kI 6) .nil)))) (.seq (.set 7 (.call "applied" (.cons (.var 6) (.cons (.var 3) .nil)))) (.seq (.ite (.cmp .NotEq (.var 7) (.call "applied" (.cons (.var 6) (.cons (.bin .Add (.bin .Add (.tup (.cons (.var 5) .nil)) (.var 4)) (.tup (.cons (.var 5) .nil))) .nil)))) (.ret (.kB false)) .skip) (.ite (.or (.cmp .NotEq (.call "least_size" (.cons (.var 3) .nil)) (.call "least_size" (.cons (.var 4) .nil))) (.cmp .NotEq (.call "shows_all" (.cons (.var 3) .nil)) (.call "shows_all" (.cons (.var 4) .nil)))) (.ret (.kB false)) .skip))))))))) (.ret (.call "alike" (.cons (.tup (.cons (.tup (.cons (.kS "flip") (.cons (.kS "across") .nil))) (.cons (.tup (.cons (.kS "trim") (.cons (.kI 1) (.cons (.kI 0) (.cons (.kI 0) (.cons (.kI 0) .nil)))))) (.cons (.tup (.cons (.kS "flip") (.cons (.kS "across") .nil))) .nil)))) (.cons (.tup (.cons (.tup (.cons (.kS "trim") (.cons (.kI 0) (.cons (.kI 0) (.cons (.kI 1) (.cons (.kI 0) .nil)))))) .nil)) .nil)))))

/-! Py1: evaluation by rules. -/
open PySem
@[irreducible] def opX (op : Operator) (x y : D) : Option D := opD op x y
@[irreducible] def cmpX (op : CmpOp) (x y : D) : Option Bool := cmpD op x y
@[irreducible] def stepX (x y : D) : Option D := stepD x y
@[irreducible] def szX : Nat := sizeLine
theorem opX_eq : opX = opD := by funext op x y; unfold opX; rfl
theorem cmpX_eq : cmpX = cmpD := by funext op x y; unfold cmpX; rfl
theorem stepX_eq : stepX = stepD := by funext x y; unfold stepX; rfl
theorem szX_eq : szX = sizeLine := by unfold szX; rfl
section
variable {Φ : Phi} {Γ : Str → Option D} {ρ ρ1 ρ2 ρ3 : Env} {Q : Out → Env → Prop}
/-! ### expressions -/
theorem ev_var {i : Nat} {d : D} (h : ρ[i]? = some (.val d)) : ev Φ Γ (.var i) ρ = some (d, ρ) := by
  show varD i ρ = _
  unfold varD; rw [h]
theorem ev_own {i : Nat} {xs : List D} (h : ρ[i]? = some (.own xs)) : ev Φ Γ (.var i) ρ = some (.list xs, ρ.set i (.val (.list xs))) := by
  show varD i ρ = _
  unfold varD; rw [h]
theorem ev_kN : ev Φ Γ .kN ρ = some (.none, ρ) := rfl
theorem ev_kB {b : Bool} : ev Φ Γ (.kB b) ρ = some (.bool b, ρ) := rfl
theorem ev_kI {i : Int} : ev Φ Γ (.kI i) ρ = some (.int i, ρ) := rfl
theorem ev_kS {s : Str} : ev Φ Γ (.kS s) ρ = some (.str s, ρ) := rfl
theorem ev_scr {i : Nat} {ns : List Int} (h : ρ[i]? = some (.scr ns)) : ev Φ Γ (.scr i) ρ = some (.list (ns.map .int), ρ) := by
  show vScr i ρ = _
  unfold vScr; rw [h]
theorem ev_ownIdx {i : Nat} {a : E} {n : Int} {xs : List D} {d : D} (h0 : (heldD i ρ).isSome = true) (h1 : ev Φ Γ a ρ = some (.int n, ρ1)) (h2 : heldD i ρ1 = some xs) (h3 : atI xs n = some d) : ev Φ Γ (.ownIdx i a) ρ = some (d, ρ1) := by
  show eB (hasHeld i) _ ρ = _
  obtain ⟨ys, hy⟩ := Option.isSome_iff_exists.mp h0
  unfold eB hasHeld
  rw [hy]
  show eB (ev Φ Γ a) _ ρ = _
  unfold eB
  rw [h1]
  show atHeld i (.int n) ρ1 = _
  unfold atHeld
  rw [h2]
  show (match atI xs n with | some d => some (d, ρ1) | none => none) = _
  rw [h3]
theorem ev_ownLen {i : Nat} {xs : List D} (h : heldD i ρ = some xs) : ev Φ Γ (.ownLen i) ρ = some (.int xs.length, ρ) := by
  show vOwnLen i ρ = _
  unfold vOwnLen; rw [h]
theorem ev_tup {es : E} {ds : List D} (h : evL Φ Γ es ρ = some (ds, ρ1)) (hl : ds.length ≤ szX) : ev Φ Γ (.tup es) ρ = some (.tuple ds, ρ1) := by
  rw [szX_eq] at hl
  show vTup _ ρ = _
  unfold vTup eB
  rw [h]
  simp only
  rw [if_pos (show okL _ = true from decide_eq_true hl)]; rfl
theorem ev_lst {es : E} {ds : List D} (h : evL Φ Γ es ρ = some (ds, ρ1)) (hl : ds.length ≤ szX) : ev Φ Γ (.lst es) ρ = some (.list ds, ρ1) := by
  rw [szX_eq] at hl
  show vLst _ ρ = _
  unfold vLst eB
  rw [h]
  simp only
  rw [if_pos (show okL _ = true from decide_eq_true hl)]; rfl
theorem ev_bin {op : Operator} {a b : E} {x y z : D} (h1 : ev Φ Γ a ρ = some (x, ρ1)) (h2 : ev Φ Γ b ρ1 = some (y, ρ2)) (h3 : opX op x y = some z) : ev Φ Γ (.bin op a b) ρ = some (z, ρ2) := by
  rw [opX_eq] at h3
  show v2 _ _ _ ρ = _
  unfold v2 eB
  rw [h1]; simp only; rw [h2]; simp only; rw [h3]; rfl
theorem ev_idx {a b : E} {x y z : D} (h1 : ev Φ Γ a ρ = some (x, ρ1)) (h2 : ev Φ Γ b ρ1 = some (y, ρ2)) (h3 : idxD x y = some z) : ev Φ Γ (.idx a b) ρ = some (z, ρ2) := by
  show v2 _ _ _ ρ = _
  unfold v2 eB
  rw [h1]; simp only; rw [h2]; simp only; rw [h3]; rfl
theorem ev_step {a b : E} {x y z : D} (h1 : ev Φ Γ a ρ = some (x, ρ1)) (h2 : ev Φ Γ b ρ1 = some (y, ρ2)) (h3 : stepX x y = some z) : ev Φ Γ (.step a b) ρ = some (z, ρ2) := by
  rw [stepX_eq] at h3
  show v2 _ _ _ ρ = _
  unfold v2 eB
  rw [h1]; simp only; rw [h2]; simp only; rw [h3]; rfl
theorem ev_b2 {f : B2} {a b : E} {x y z : D} (h1 : ev Φ Γ a ρ = some (x, ρ1)) (h2 : ev Φ Γ b ρ1 = some (y, ρ2)) (h3 : b2D f x y = some z) : ev Φ Γ (.b2 f a b) ρ = some (z, ρ2) := by
  show v2 _ _ _ ρ = _
  unfold v2 eB
  rw [h1]; simp only; rw [h2]; simp only; rw [h3]; rfl
theorem ev_m1 {f : M1} {a b : E} {x y z : D} (h1 : ev Φ Γ a ρ = some (x, ρ1)) (h2 : ev Φ Γ b ρ1 = some (y, ρ2)) (h3 : m1D f x y = some z) : ev Φ Γ (.m1 f a b) ρ = some (z, ρ2) := by
  show v2 _ _ _ ρ = _
  unfold v2 eB
  rw [h1]; simp only; rw [h2]; simp only; rw [h3]; rfl
theorem ev_b1 {f : B1} {a : E} {x z : D} (h1 : ev Φ Γ a ρ = some (x, ρ1)) (h3 : b1D f x = some z) : ev Φ Γ (.b1 f a) ρ = some (z, ρ1) := by
  show v1 _ _ ρ = _
  unfold v1 eB
  rw [h1]; simp only; rw [h3]; rfl
theorem ev_rev {a : E} {x z : D} (h1 : ev Φ Γ a ρ = some (x, ρ1)) (h3 : revD x = some z) : ev Φ Γ (.rev a) ρ = some (z, ρ1) := by
  show v1 _ _ ρ = _
  unfold v1 eB
  rw [h1]; simp only; rw [h3]; rfl
theorem ev_neg {a : E} {i : Int} (h1 : ev Φ Γ a ρ = some (.int i, ρ1)) : ev Φ Γ (.neg a) ρ = some (.int (-i), ρ1) := by
  show vNeg _ ρ = _
  unfold vNeg eB
  rw [h1]; rfl
theorem ev_not {a : E} {b : Bool} (h1 : ev Φ Γ a ρ = some (.bool b, ρ1)) : ev Φ Γ (.not a) ρ = some (.bool (!b), ρ1) := by
  show vNot _ ρ = _
  unfold vNot eB
  rw [h1]; rfl
theorem ev_truth {a : E} {b : Bool} (h1 : ev Φ Γ a ρ = some (.bool b, ρ1)) : ev Φ Γ (.truth a) ρ = some (.bool b, ρ1) := by
  show vTruth _ ρ = _
  unfold vTruth eB
  rw [h1]; rfl
theorem ev_cmp {op : CmpOp} {a b : E} {x y : D} {c : Bool} (h1 : ev Φ Γ a ρ = some (x, ρ1)) (h2 : ev Φ Γ b ρ1 = some (y, ρ2)) (h3 : cmpX op x y = some c) : ev Φ Γ (.cmp op a b) ρ = some (.bool c, ρ2) := by
  rw [cmpX_eq] at h3
  show vCmp _ _ _ ρ = _
  unfold vCmp eB
  rw [h1]; simp only; rw [h2]; simp only; rw [h3]; rfl
/-- both sides looked at -/
theorem ev_and {a b : E} {c d : Bool} (h1 : ev Φ Γ a ρ = some (.bool c, ρ)) (h2 : c = true → ev Φ Γ b ρ = some (.bool d, ρ)) : ev Φ Γ (.and a b) ρ = some (.bool (c && d), ρ) := by
  show vAnd _ _ ρ = _
  unfold vAnd eB
  rw [h1]
  cases c with
  | false => rfl
  | true => simp only; rw [h2 rfl]; rfl
theorem ev_or {a b : E} {c d : Bool} (h1 : ev Φ Γ a ρ = some (.bool c, ρ)) (h2 : c = false → ev Φ Γ b ρ = some (.bool d, ρ)) : ev Φ Γ (.or a b) ρ = some (.bool (c || d), ρ) := by
  show vOr _ _ ρ = _
  unfold vOr eB
  rw [h1]
  cases c with
  | true => rfl
  | false => simp only; rw [h2 rfl]; rfl
theorem ev_andF {a b : E} {c : Bool} (h1 : ev Φ Γ a ρ = some (.bool c, ρ1)) (hc : c = false) : ev Φ Γ (.and a b) ρ = some (.bool false, ρ1) := by
  show vAnd _ _ ρ = _
  unfold vAnd eB
  rw [h1, hc]; rfl
theorem ev_orT {a b : E} {c : Bool} (h1 : ev Φ Γ a ρ = some (.bool c, ρ1)) (hc : c = true) : ev Φ Γ (.or a b) ρ = some (.bool true, ρ1) := by
  show vOr _ _ ρ = _
  unfold vOr eB
  rw [h1, hc]; rfl
theorem ev_chain {op op' : CmpOp} {a b c : E} {x y z : D} {k l : Bool} (h1 : ev Φ Γ a ρ = some (x, ρ)) (h2 : ev Φ Γ b ρ = some (y, ρ)) (h3 : cmpX op x y = some k) (h4 : ev Φ Γ c ρ = some (z, ρ)) (h5 : cmpX op' y z = some l) : ev Φ Γ (.chain op op' a b c) ρ = some (.bool (k && l), ρ) := by
  rw [cmpX_eq] at h3 h5
  show vChain _ _ _ _ _ ρ = _
  unfold vChain eB
  rw [h1]; simp only; rw [h2]; simp only; rw [h3]
  cases k with
  | false => rfl
  | true => simp only; rw [h4]; simp only; rw [h5]; rfl
theorem ev_iteT {c a b : E} {k : Bool} {x : D} (h1 : ev Φ Γ c ρ = some (.bool k, ρ1)) (hk : k = true) (h2 : ev Φ Γ a ρ1 = some (x, ρ2)) : ev Φ Γ (.ite c a b) ρ = some (x, ρ2) := by
  show vIte _ _ _ ρ = _
  unfold vIte eB
  rw [h1, hk]; exact h2
theorem ev_iteF {c a b : E} {k : Bool} {x : D} (h1 : ev Φ Γ c ρ = some (.bool k, ρ1)) (hk : k = false) (h2 : ev Φ Γ b ρ1 = some (x, ρ2)) : ev Φ Γ (.ite c a b) ρ = some (x, ρ2) := by
  show vIte _ _ _ ρ = _
  unfold vIte eB
  rw [h1, hk]; exact h2
theorem ev_slice {a l h : E} {x z : D} {lo hi : Option Int} (h1 : ev Φ Γ a ρ = some (x, ρ1)) (h2 : evP Φ Γ l ρ1 = some (lo, ρ2)) (h3 : evP Φ Γ h ρ2 = some (hi, ρ3)) (h4 : sliceD x lo hi = some z) : ev Φ Γ (.slice a l h) ρ = some (z, ρ3) := by
  show vSlice _ _ _ ρ = _
  unfold vSlice eB
  rw [h1]; simp only; rw [h2]; simp only; rw [h3]; simp only; rw [h4]; rfl
theorem ev_isi {a : E} {ts : List String} {x : D} {b : Bool} (h1 : ev Φ Γ a ρ = some (x, ρ1)) (h2 : isiD x ts = b) : ev Φ Γ (.isi a ts) ρ = some (.bool b, ρ1) := by
  show eB _ _ ρ = _
  unfold eB
  rw [h1, ← h2]; rfl
theorem ev_glob {x : Str} {d : D} (h : Γ x = some d) : ev Φ Γ (.glob x) ρ = some (d, ρ) := by
  show eO _ ρ = _
  unfold eO
  rw [h]
theorem ev_listOf {it : E} {ds : List D} (h : evI Φ Γ it ρ = some (ds, ρ1)) (hl : ds.length ≤ szX) : ev Φ Γ (.listOf it) ρ = some (.list ds, ρ1) := by
  rw [szX_eq] at hl
  show vLst _ ρ = _
  unfold vLst eB
  rw [h]
  simp only
  rw [if_pos (show okL _ = true from decide_eq_true hl)]; rfl
theorem ev_call {f : Str} {es : E} {as : List Ar} {F : FSem} {sl sl' : List Sl} {d : D} (h1 : evA Φ Γ es ρ = some (as, ρ1)) (h2 : Φ f = some F) (h3 : argSl ρ1 as = some sl) (h5 : F sl = some (d, sl')) (h4 : (arIx as).Nodup) (h6 : argBack as sl' ρ1 = some ρ2) : ev Φ Γ (.call f es) ρ = some (d, ρ2) := by
  show eB _ _ ρ = _
  unfold eB
  rw [h1]
  show callD Φ f as ρ1 = _
  unfold callD
  rw [h2]; simp only; rw [h3]; simp only; rw [if_pos h4, h5]; simp only; rw [h6]
theorem el_nil : evL Φ Γ .nil ρ = some ([], ρ) := rfl
theorem el_cons {a es : E} {d : D} {ds : List D} (h1 : ev Φ Γ a ρ = some (d, ρ1)) (h2 : evL Φ Γ es ρ1 = some (ds, ρ2)) : evL Φ Γ (.cons a es) ρ = some (d :: ds, ρ2) := by
  show eB _ _ ρ = _
  unfold eB
  rw [h1]; simp only; rw [h2]; rfl
theorem el_star {a es : E} {d : D} {xs ds : List D} (h1 : ev Φ Γ a ρ = some (d, ρ1)) (hq : seqD d = some xs) (h2 : evL Φ Γ es ρ1 = some (ds, ρ2)) : evL Φ Γ (.star a es) ρ = some (xs ++ ds, ρ2) := by
  show vStar _ _ ρ = _
  unfold vStar eB
  rw [h1]; simp only; rw [hq]; simp only; rw [h2]; rfl
theorem ea_nil : evA Φ Γ .nil ρ = some ([], ρ) := rfl
theorem ea_cons {a es : E} {d : D} {ds : List Ar} (h1 : ev Φ Γ a ρ = some (d, ρ1)) (h2 : evA Φ Γ es ρ1 = some (ds, ρ2)) : evA Φ Γ (.cons a es) ρ = some (.d d :: ds, ρ2) := by
  show eB _ _ ρ = _
  unfold eB
  rw [h1]; simp only; rw [h2]; rfl
theorem ea_ref {i : Nat} {es : E} {ds : List Ar} (h1 : (heldD i ρ).isSome = true) (h2 : evA Φ Γ es ρ = some (ds, ρ1)) : evA Φ Γ (.ref i es) ρ = some (.o i :: ds, ρ1) := by
  show eB _ _ ρ = _
  obtain ⟨ys, hy⟩ := Option.isSome_iff_exists.mp h1
  unfold eB hasHeld
  rw [hy]; simp only; rw [h2]; rfl
theorem ep_n : evP Φ Γ .pN ρ = some (none, ρ) := rfl
theorem ep_e {a : E} {i : Int} (h : ev Φ Γ a ρ = some (.int i, ρ1)) : evP Φ Γ (.pE a) ρ = some (some i, ρ1) := by
  show vPartI _ ρ = _
  unfold vPartI eB
  rw [h]; rfl
theorem ei_seq {a : E} {d : D} {xs : List D} (h : ev Φ Γ a ρ = some (d, ρ1)) (hq : seqD d = some xs) : evI Φ Γ (.seq a) ρ = some (xs, ρ1) := by
  show vSeq _ ρ = _
  unfold vSeq eB
  rw [h]; simp only; rw [hq]; rfl
theorem ei_r1 {a : E} {j : Int} (h : ev Φ Γ a ρ = some (.int j, ρ1)) (hj : -(2 ^ 62) ≤ j ∧ j < 2 ^ 62) : evI Φ Γ (.range1 a) ρ = some (rangeD 0 j.toNat 1, ρ1) := by
  show vRange1 _ ρ = _
  unfold vRange1 eB
  rw [h]
  simp only
  rw [if_pos (by unfold r62; simp only [Bool.and_eq_true, decide_eq_true_eq]; exact hj)]; rfl
theorem ei_r2 {a b : E} {i j : Int} (h : ev Φ Γ a ρ = some (.int i, ρ1)) (h2 : ev Φ Γ b ρ1 = some (.int j, ρ2)) (hi : -(2 ^ 62) ≤ i ∧ i < 2 ^ 62) (hj : -(2 ^ 62) ≤ j ∧ j < 2 ^ 62) : evI Φ Γ (.range2 a b) ρ = some (rangeD i (j - i).toNat 1, ρ2) := by
  show vRange2 _ _ ρ = _
  unfold vRange2 eB
  rw [h]
  simp only
  rw [h2]
  simp only
  rw [if_pos (by unfold r62; simp only [Bool.and_eq_true, decide_eq_true_eq]; exact ⟨hi, hj⟩)]; rfl
theorem ei_r3 {a b c : E} {i j l : Int} (h : ev Φ Γ a ρ = some (.int i, ρ1)) (h2 : ev Φ Γ b ρ1 = some (.int j, ρ2)) (h3 : ev Φ Γ c ρ2 = some (.int l, ρ3)) (hi : -(2 ^ 62) ≤ i ∧ i < 2 ^ 62) (hj : -(2 ^ 62) ≤ j ∧ j < 2 ^ 62) (hl : 0 < l ∧ l < 2 ^ 29) : evI Φ Γ (.range3 a b c) ρ = some (rangeD i (rangeN i j l) l, ρ3) := by
  show vRange3 _ _ _ ρ = _
  unfold vRange3 eB
  rw [h]
  simp only
  rw [h2]
  simp only
  rw [h3]
  simp only
  rw [if_pos (by unfold r62; simp only [Bool.and_eq_true, decide_eq_true_eq]; exact ⟨⟨⟨hi, hj⟩, hl.1⟩, hl.2⟩)]; rfl
theorem ei_zipL {a b : E} {xs ys : List D} (h : ev Φ Γ a ρ = some (.list xs, ρ1)) (h2 : ev Φ Γ b ρ1 = some (.list ys, ρ2)) : evI Φ Γ (.zip a b) ρ = some (zipD xs ys, ρ2) := by
  show vZip _ _ ρ = _
  unfold vZip eB
  rw [h]; simp only; rw [h2]; rfl
/-- a comprehension: filter and map -/
theorem lcLoop_fm {vs : List Nat} {tg : Tg} {c a : Ev D} {p : D → Bool} {g : D → D} {ρ : Env} : ∀ {ds : List D}, (∀ d ∈ ds, ∃ ρ1 ρ2, bindT tg d ρ = some ρ1 ∧ c ρ1 = some (.bool (p d), ρ2) ∧ (p d = false → wipeE vs ρ2 = ρ) ∧ (p d = true → ∃ ρ3, a ρ2 = some (g d, ρ3) ∧ wipeE vs ρ3 = ρ)) → lcLoop vs tg c a ds ρ = some ((ds.filter p).map g, ρ)
  | [], _ => rfl
  | d :: ds, h => by
    obtain ⟨ρ1, ρ2, h1, h2, h3, h4⟩ := h d List.mem_cons_self
    have ih := lcLoop_fm (ds := ds) fun x hx => h x (List.mem_cons_of_mem _ hx)
    unfold lcLoop
    rw [h1]; simp only; rw [h2]
    cases hp : p d with
    | false =>
      simp only
      rw [h3 hp, ih, List.filter_cons_of_neg (by rw [hp]; decide)]
    | true =>
      obtain ⟨ρ3, h5, h6⟩ := h4 hp
      simp only
      rw [h5]; simp only; rw [h6, ih, List.filter_cons_of_pos hp]; rfl
theorem ev_compF {vs : List Nat} {tg : Tg} {it c a : E} {ds : List D} (p : D → Bool) (g : D → D) (h1 : evI Φ Γ it ρ = some (ds, ρ1)) (h2 : noHeld vs ρ1 = true) (h3 : ds.length ≤ szX) (hb : backE vs ρ1 (wipeE vs ρ1) = ρ1)
    (h : ∀ d ∈ ds, ∃ ρ2 ρ3, bindT tg d (wipeE vs ρ1) = some ρ2 ∧ ev Φ Γ c ρ2 = some (.bool (p d), ρ3) ∧ (p d = false → wipeE vs ρ3 = wipeE vs ρ1) ∧ (p d = true → ∃ ρ4, ev Φ Γ a ρ3 = some (g d, ρ4) ∧ wipeE vs ρ4 = wipeE vs ρ1)) :
    ev Φ Γ (.comp vs tg it c a) ρ = some (.list ((ds.filter p).map g), ρ1) := by
  rw [szX_eq] at h3
  show eB (lcRun vs tg (evI Φ Γ it) (ev Φ Γ c) (ev Φ Γ a)) _ ρ = _
  unfold eB lcRun
  rw [h1]
  simp only
  rw [if_pos (by rw [h2]; exact decide_eq_true h3), lcLoop_fm h]
  simp only
  rw [hb]; rfl
theorem ev_compM {vs : List Nat} {tg : Tg} {it a : E} {ds : List D} (g : D → D) (h1 : evI Φ Γ it ρ = some (ds, ρ1)) (h2 : noHeld vs ρ1 = true) (h3 : ds.length ≤ szX) (hb : backE vs ρ1 (wipeE vs ρ1) = ρ1)
    (h : ∀ d ∈ ds, ∃ ρ2, bindT tg d (wipeE vs ρ1) = some ρ2 ∧ ∃ ρ4, ev Φ Γ a ρ2 = some (g d, ρ4) ∧ wipeE vs ρ4 = wipeE vs ρ1) :
    ev Φ Γ (.comp vs tg it (.kB true) a) ρ = some (.list (ds.map g), ρ1) := by
  have := ev_compF (Φ := Φ) (Γ := Γ) (c := .kB true) (tg := tg) (a := a) (fun _ => true) g h1 h2 h3 hb fun d hd => by
    obtain ⟨ρ2, q1, ρ4, q2, q3⟩ := h d hd
    exact ⟨ρ2, ρ2, q1, rfl, (fun z => by cases z), fun _ => ⟨ρ4, q2, q3⟩⟩
  rw [this, List.filter_eq_self.mpr (fun _ _ => rfl)]
theorem ee {m : E} {d : D} {vs : List Nat} {ρw ρ4 : Env} (h1 : ev Φ Γ m ρ = some (d, ρ4)) (h2 : wipeE vs ρ4 = ρw) : ∃ ρ4, ev Φ Γ m ρ = some (d, ρ4) ∧ wipeE vs ρ4 = ρw := ⟨_, h1, h2⟩
/-- two clauses -/
theorem lcLoop2_fm {vs vs1 : List Nat} {tg : Tg} {c : Ev D} {tg1 : Tg} {it1 : Ev (List D)} {c1 a : Ev D} {g : D → List D} {ρ : Env} : ∀ {ds : List D}, (∀ d ∈ ds, ∃ ρ1 ρ2 ρ3 es ρ4, bindT tg d ρ = some ρ1 ∧ c ρ1 = some (.bool true, ρ2) ∧ it1 ρ2 = some (es, ρ3) ∧ lcLoop vs1 tg1 c1 a es (wipeE vs1 ρ3) = some (g d, ρ4) ∧ wipeE vs ρ4 = ρ) → (ds.flatMap g).length ≤ sizeLine → lcLoop2 vs vs1 tg c tg1 it1 c1 a ds ρ = some (ds.flatMap g, ρ)
  | [], _, _ => rfl
  | d :: ds, h, hl => by
    obtain ⟨ρ1, ρ2, ρ3, es, ρ4, h1, h2, h3, h4, h5⟩ := h d List.mem_cons_self
    rw [List.flatMap_cons] at hl ⊢
    have ih := lcLoop2_fm (ds := ds) (fun x hx => h x (List.mem_cons_of_mem _ hx)) (by rw [List.length_append] at hl; omega)
    unfold lcLoop2
    rw [h1]; simp only; rw [h2]; simp only; rw [h3]; simp only; rw [h4]; simp only; rw [h5, ih]; simp only
    rw [if_pos (show okL _ = true from decide_eq_true hl)]
theorem ev_comp2 {vs vs1 : List Nat} {tg tg1 : Tg} {it c it1 c1 a : E} {ds : List D} (g : D → List D) (h1 : evI Φ Γ it ρ = some (ds, ρ1)) (h2 : noHeld vs ρ1 = true) (h3 : ds.length ≤ szX) (hl : (ds.flatMap g).length ≤ szX) (hb : backE vs ρ1 (wipeE vs ρ1) = ρ1)
    (h : ∀ d ∈ ds, ∃ ρ2 ρ3 ρ4 es ρ5, bindT tg d (wipeE vs ρ1) = some ρ2 ∧ ev Φ Γ c ρ2 = some (.bool true, ρ3) ∧ evI Φ Γ it1 ρ3 = some (es, ρ4) ∧ lcLoop vs1 tg1 (ev Φ Γ c1) (ev Φ Γ a) es (wipeE vs1 ρ4) = some (g d, ρ5) ∧ wipeE vs ρ5 = wipeE vs ρ1) :
    ev Φ Γ (.comp2 vs vs1 tg it c tg1 it1 c1 a) ρ = some (.list (ds.flatMap g), ρ1) := by
  rw [szX_eq] at h3 hl
  show eB (lcRun2 vs vs1 tg (evI Φ Γ it) (ev Φ Γ c) tg1 (evI Φ Γ it1) (ev Φ Γ c1) (ev Φ Γ a)) _ ρ = _
  unfold eB lcRun2
  rw [h1]
  simp only
  rw [if_pos (by rw [h2]; exact decide_eq_true h3), lcLoop2_fm h hl]
  simp only
  rw [hb]; rfl
/-! ### statements -/
def Ends (Φ : Phi) (Γ : Str → Option D) (m : S) (ρ : Env) (Q : Out → Env → Prop) : Prop := ∃ o ρ', evS Φ Γ m ρ = some (o, ρ') ∧ Q o ρ'
def seqQ (Φ : Phi) (Γ : Str → Option D) (t : S) (Q : Out → Env → Prop) : Out → Env → Prop := fun o ρ => match o with
  | .nx => Ends Φ Γ t ρ Q
  | .ret v => Q (.ret v) ρ
theorem en_seq {s t : S} (h : Ends Φ Γ s ρ (seqQ Φ Γ t Q)) : Ends Φ Γ (.seq s t) ρ Q := by
  obtain ⟨o, ρ1, e, h⟩ := h
  cases o with
  | nx =>
    obtain ⟨o2, ρ2, e2, h2⟩ := h
    exact ⟨o2, ρ2, by simp only [evS]; rw [e]; exact e2, h2⟩
  | ret v => exact ⟨_, _, by simp only [evS]; rw [e], h⟩
theorem sq_nx {t : S} (h : Ends Φ Γ t ρ Q) : seqQ Φ Γ t Q .nx ρ := h
theorem sq_ret {t : S} {v : D} (h : Q (.ret v) ρ) : seqQ Φ Γ t Q (.ret v) ρ := h
theorem en_skip (h : Q .nx ρ) : Ends Φ Γ .skip ρ Q := ⟨_, _, rfl, h⟩
theorem en_set {i : Nat} {a : E} {d : D} (h1 : ev Φ Γ a ρ = some (d, ρ1)) (h2 : setV i d ρ1 = some ρ2) (h : Q .nx ρ2) : Ends Φ Γ (.set i a) ρ Q := ⟨_, _, by rw [evS, sB, h1]; simp only; rw [h2]; rfl, h⟩
theorem en_setO {i : Nat} {a : E} {ds : List D} (h1 : ev Φ Γ a ρ = some (.list ds, ρ1)) (h2 : setO i ds ρ1 = some ρ2) (h : Q .nx ρ2) : Ends Φ Γ (.setO i a) ρ Q := ⟨_, _, by rw [evS, sB, h1]; simp only; rw [h2]; rfl, h⟩
theorem en_setT {tg : Tg} {a : E} {d : D} (h1 : ev Φ Γ a ρ = some (d, ρ1)) (h2 : bindT tg d ρ1 = some ρ2) (h : Q .nx ρ2) : Ends Φ Γ (.setT tg a) ρ Q := ⟨_, _, by rw [evS, sB, h1]; simp only; rw [h2]; rfl, h⟩
theorem en_par {is : List Nat} {es : E} {ds : List D} (h1 : evL Φ Γ es ρ = some (ds, ρ1)) (h2 : setVs is ds ρ1 = some ρ2) (h : Q .nx ρ2) : Ends Φ Γ (.par is es) ρ Q := ⟨_, _, by rw [evS, sB, h1]; simp only; rw [h2]; rfl, h⟩
theorem en_parO {i j : Nat} {a b : E} {ds : List D} {y : D} {ρ4 : Env} (h1 : ev Φ Γ a ρ = some (.list ds, ρ1)) (h2 : ev Φ Γ b ρ1 = some (y, ρ2)) (h3 : setV j y ρ2 = some ρ3) (h4 : setO i ds ρ3 = some ρ4) (h : Q .nx ρ4) : Ends Φ Γ (.parO i a j b) ρ Q := ⟨_, _, by rw [evS, sB, h1]; simp only; rw [sB, h2]; simp only; rw [h3]; simp only; rw [h4]; rfl, h⟩
theorem en_parO2 {i j : Nat} {a b : E} {ds : List D} {y : D} {ρ4 : Env} (h1 : ev Φ Γ a ρ = some (y, ρ1)) (h2 : ev Φ Γ b ρ1 = some (.list ds, ρ2)) (h3 : setO j ds ρ2 = some ρ3) (h4 : setV i y ρ3 = some ρ4) (h : Q .nx ρ4) : Ends Φ Γ (.parO2 i a j b) ρ Q := ⟨_, _, by rw [evS, sB, h1]; simp only; rw [sB, h2]; simp only; rw [h3]; simp only; rw [h4]; rfl, h⟩
theorem en_put {i : Nat} {k a : E} {n v : D} {xs ys : List D} (h1 : ev Φ Γ a ρ = some (v, ρ1)) (h0 : (heldD i ρ1).isSome = true) (h2 : ev Φ Γ k ρ1 = some (n, ρ2)) (h3 : heldD i ρ2 = some xs) (h4 : putX n v xs = some ys) (h5 : putHeld i ys ρ2 = ρ3) (h : Q .nx ρ3) : Ends Φ Γ (.put i k a) ρ Q := by
  obtain ⟨zs, hz⟩ := Option.isSome_iff_exists.mp h0
  refine ⟨_, _, ?_, h⟩
  rw [evS, sB, h1]; simp only; rw [sB, hasHeld, hz]; simp only; rw [sB, h2]; simp only; rw [chHeld, h3]; simp only [Option.bind]; rw [h4]; simp only; rw [h5]
theorem en_app {i : Nat} {a : E} {v : D} {xs : List D} (h0 : (heldD i ρ).isSome = true) (h1 : ev Φ Γ a ρ = some (v, ρ1)) (h3 : heldD i ρ1 = some xs) (h4 : xs.length < szX) (h5 : putHeld i (xs ++ [v]) ρ1 = ρ2) (h : Q .nx ρ2) : Ends Φ Γ (.app i a) ρ Q := by
  rw [szX_eq] at h4
  obtain ⟨zs, hz⟩ := Option.isSome_iff_exists.mp h0
  refine ⟨_, _, ?_, h⟩
  rw [evS, sB, hasHeld, hz]; simp only; rw [sB, h1]; simp only; rw [chHeld, h3]; simp only [Option.bind]; rw [appX, if_pos h4]; simp only; rw [h5]
theorem en_expr {a : E} {d : D} (h1 : ev Φ Γ a ρ = some (d, ρ1)) (h : Q .nx ρ1) : Ends Φ Γ (.expr a) ρ Q := ⟨_, _, by rw [evS, sB, h1], h⟩
theorem en_iteT {c : E} {s t : S} {b : Bool} (h1 : ev Φ Γ c ρ = some (.bool b, ρ1)) (hb : b = true) (h : Ends Φ Γ s ρ1 Q) : Ends Φ Γ (.ite c s t) ρ Q := by
  obtain ⟨o, ρ2, e, h⟩ := h
  exact ⟨o, ρ2, by rw [evS, sB, h1, hb]; exact e, h⟩
theorem en_iteF {c : E} {s t : S} {b : Bool} (h1 : ev Φ Γ c ρ = some (.bool b, ρ1)) (hb : b = false) (h : Ends Φ Γ t ρ1 Q) : Ends Φ Γ (.ite c s t) ρ Q := by
  obtain ⟨o, ρ2, e, h⟩ := h
  exact ⟨o, ρ2, by rw [evS, sB, h1, hb]; exact e, h⟩
theorem en_ret {a : E} {d : D} (h1 : ev Φ Γ a ρ = some (d, ρ1)) (h : Q (.ret d) ρ1) : Ends Φ Γ (.ret a) ρ Q := ⟨_, _, by rw [evS, sB, h1], h⟩
theorem forLoop_ind {tg : Tg} {f : Env → Option (Out × Env)} {Q : Out → Env → Prop} (ds : List D) (I : Nat → Env → Prop) (h : ∀ i d ρ, ds[i]? = some d → I i ρ → ∃ ρ1, bindT tg d ρ = some ρ1 ∧ ∃ o ρ2, f ρ1 = some (o, ρ2) ∧ (match o with | .nx => I (i + 1) ρ2 | .ret v => Q (.ret v) ρ2)) (hq : ∀ ρ, I ds.length ρ → Q .nx ρ) :
    ∀ (k : Nat) (es : List D) (ρ : Env), ds.drop k = es → k ≤ ds.length → I k ρ → ∃ o ρ', forLoop tg f es ρ = some (o, ρ') ∧ Q o ρ'
  | k, [], ρ, e, hk, hi => ⟨.nx, ρ, rfl, hq ρ (by
    have : ds.length ≤ k := List.drop_eq_nil_iff.mp e
    have q : k = ds.length := by omega
    rw [← q]; exact hi)⟩
  | k, d :: es, ρ, e, hk0, hi => by
    have hk : k < ds.length := by
      by_cases q : k < ds.length
      · exact q
      · rw [List.drop_eq_nil_of_le (by omega)] at e; cases e
    have hd : ds[k]? = some d := by rw [← List.head?_drop, e]; rfl
    have he : ds.drop (k + 1) = es := by rw [← List.tail_drop, e]; rfl
    obtain ⟨ρ1, b1, o, ρ2, b2, b3⟩ := h k d ρ hd hi
    unfold forLoop
    rw [b1]; simp only; rw [b2]
    cases o with
    | nx => exact forLoop_ind ds I h hq (k + 1) es ρ2 he hk b3
    | ret v => exact ⟨_, _, rfl, b3⟩
theorem en_imp {m : S} {Q' : Out → Env → Prop} (h : Ends Φ Γ m ρ Q) (hq : ∀ o ρ, Q o ρ → Q' o ρ) : Ends Φ Γ m ρ Q' := let ⟨o, ρ', e, q⟩ := h; ⟨o, ρ', e, hq o ρ' q⟩
/-- a loop, by what holds ahead of each turn -/
theorem en_for {tg : Tg} {it : E} {body : S} {ds : List D} (I : Nat → Env → Prop) (h1 : evI Φ Γ it ρ = some (ds, ρ1)) (h0 : I 0 ρ1)
    (h : ∀ i d ρ, ds[i]? = some d → I i ρ → ∃ ρ1, bindT tg d ρ = some ρ1 ∧ Ends Φ Γ body ρ1 fun o ρ2 => match o with | .nx => I (i + 1) ρ2 | .ret v => Q (.ret v) ρ2) (hq : ∀ ρ, I ds.length ρ → Q .nx ρ) : Ends Φ Γ (.for_ tg it body) ρ Q := by
  obtain ⟨o, ρ', e, q⟩ := forLoop_ind (f := evS Φ Γ body) (Q := Q) ds I (fun i d ρ hd hi => by
    obtain ⟨ρ1, b1, o, ρ2, b2, b3⟩ := h i d ρ hd hi
    exact ⟨ρ1, b1, o, ρ2, b2, b3⟩) hq 0 ds ρ1 rfl (Nat.zero_le _) h0
  exact ⟨o, ρ', by rw [evS, sB, h1]; exact e, q⟩
theorem runF_of {m n : Nat} {body : S} {args : List Sl} {d : D} {a' : List Sl} (hl : args.length = m) (h : Ends Φ Γ body (args ++ List.replicate (n - m) .non) fun o ρ' => outs args ρ' = some a' ∧ (match o with | .ret d => d | .nx => .none) = d) : runF Φ Γ m n body args = some (d, a') := by
  obtain ⟨o, ρ', e, h1, h2⟩ := h
  unfold runF runS
  rw [if_pos hl, e]
  simp only
  rw [h1]
  exact congrArg (fun z => some (z, a')) h2
/-- .. when only something is known of it -/
theorem runF_ex {m n : Nat} {body : S} {args : List Sl} {P : D → List Sl → Prop} (hl : args.length = m) (h : Ends Φ Γ body (args ++ List.replicate (n - m) .non) fun o ρ' => ∃ a', outs args ρ' = some a' ∧ P (match o with | .ret d => d | .nx => .none) a') : ∃ d a', runF Φ Γ m n body args = some (d, a') ∧ P d a' := by
  obtain ⟨o, ρ', e, a', h1, h2⟩ := h
  exact ⟨_, a', runF_of hl ⟨o, ρ', e, h1, rfl⟩, h2⟩
end
/-! ### the tactics -/
theorem rf_op {op : Operator} {x y : D} {z : Option D} (h : opX op x y = z) : opX op x y = z := h
theorem rf_cmp {op : CmpOp} {x y : D} {z : Option Bool} (h : cmpX op x y = z) : cmpX op x y = z := h
theorem rf_idx {x y : D} {z : Option D} (h : idxD x y = z) : idxD x y = z := h
theorem rf_step {x y : D} {z : Option D} (h : stepX x y = z) : stepX x y = z := h
theorem rf_b1 {f : B1} {x : D} {z : Option D} (h : b1D f x = z) : b1D f x = z := h
theorem rf_b2 {f : B2} {x y : D} {z : Option D} (h : b2D f x y = z) : b2D f x y = z := h
theorem rf_m1 {f : M1} {x y : D} {z : Option D} (h : m1D f x y = z) : m1D f x y = z := h
theorem rf_rev {x : D} {z : Option D} (h : revD x = z) : revD x = z := h
theorem rf_slice {x : D} {l r : Option Int} {z : Option D} (h : sliceD x l r = z) : sliceD x l r = z := h
theorem rf_seq {x : D} {z : Option (List D)} (h : seqD x = z) : seqD x = z := h
theorem rf_argSl {ρ : Env} {as : List Ar} {z : Option (List Sl)} (h : argSl ρ as = z) : argSl ρ as = z := h
theorem rf_argBack {ρ : Env} {as : List Ar} {sl : List Sl} {z : Option Env} (h : argBack as sl ρ = z) : argBack as sl ρ = z := h
theorem rf_held {ρ : Env} {i : Nat} {z : Option (List D)} (h : heldD i ρ = z) : heldD i ρ = z := h
theorem rf_heldS {ρ : Env} {i : Nat} (h : (heldD i ρ).isSome = true) : (heldD i ρ).isSome = true := h
theorem rf_putH {ρ ρ' : Env} {i : Nat} {xs : List D} (h : putHeld i xs ρ = ρ') : putHeld i xs ρ = ρ' := h
theorem rf_atI {xs : List D} {i : Int} {z : Option D} (h : atI xs i = z) : atI xs i = z := h
theorem rf_setV {ρ : Env} {i : Nat} {d : D} {z : Option Env} (h : setV i d ρ = z) : setV i d ρ = z := h
theorem rf_setO {ρ : Env} {i : Nat} {d : List D} {z : Option Env} (h : setO i d ρ = z) : setO i d ρ = z := h
theorem rf_setVs {ρ : Env} {i : List Nat} {d : List D} {z : Option Env} (h : setVs i d ρ = z) : setVs i d ρ = z := h
theorem rf_bind {ρ : Env} {tg : Tg} {d : D} {z : Option Env} (h : bindT tg d ρ = z) : bindT tg d ρ = z := h
theorem rf_isi {ts : List String} {d : D} {b : Bool} (h : isiD d ts = b) : isiD d ts = b := h
theorem rf_slot {ρ : Env} {i : Nat} {z : Option Sl} (h : ρ[i]? = z) : ρ[i]? = z := h
theorem rf_nod {as : List Ar} (h : (arIx as).Nodup) : (arIx as).Nodup := h
theorem rf_putX {n v : D} {xs : List D} {z : Option (List D)} (h : putX n v xs = z) : putX n v xs = z := h
/-! ### operations -/
theorem size_eq : szX = 16777216 := by rw [szX_eq]; rfl
theorem size_eq0 : sizeLine = 16777216 := rfl
theorem o_addI {i j : Int} : opX .Add (.int i) (.int j) = some (.int (i + j)) := by rw [opX_eq]; rfl
theorem o_subI {i j : Int} : opX .Sub (.int i) (.int j) = some (.int (i - j)) := by rw [opX_eq]; rfl
theorem o_mulI {i j : Int} (h : i.natAbs < 18446744073709551616 ∨ j.natAbs < 18446744073709551616) : opX .Mult (.int i) (.int j) = some (.int (i * j)) := by
  rw [opX_eq]
  have q : mulOk i j = true := by unfold mulOk; simpa using h
  simp only [opD, q, if_true]
theorem o_addL {xs ys : List D} (h : xs.length + ys.length ≤ 16777216) : opX .Add (.list xs) (.list ys) = some (.list (xs ++ ys)) := by
  rw [opX_eq]
  have q : xs.length + ys.length ≤ sizeLine := h
  simp only [opD, q, if_true]
theorem o_addT {xs ys : List D} (h : xs.length + ys.length ≤ 16777216) : opX .Add (.tuple xs) (.tuple ys) = some (.tuple (xs ++ ys)) := by
  rw [opX_eq]
  have q : xs.length + ys.length ≤ sizeLine := h
  simp only [opD, q, if_true]
theorem o_mulL {xs : List D} {n : Nat} (h : xs.length * n ≤ 16777216) (h2 : n < 1073741824) : opX .Mult (.list xs) (.int n) = some (.list (List.replicate n xs).flatten) := by
  rw [opX_eq]
  have q : -(2 ^ 63) ≤ (n : Int) ∧ (n : Int) < 2 ^ 63 ∧ xs.length * (n : Int).toNat ≤ sizeLine := ⟨by omega, by omega, by rw [size_eq0]; exact h⟩
  simp only [opD]
  rw [if_pos q]; rfl
theorem o_mulT {xs : List D} {n : Nat} (h : xs.length * n ≤ 16777216) (h2 : n < 1073741824) : opX .Mult (.tuple xs) (.int n) = some (.tuple (List.replicate n xs).flatten) := by
  rw [opX_eq]
  have q : -(2 ^ 63) ≤ (n : Int) ∧ (n : Int) < 2 ^ 63 ∧ xs.length * (n : Int).toNat ≤ sizeLine := ⟨by omega, by omega, by rw [size_eq0]; exact h⟩
  simp only [opD]
  rw [if_pos q]; rfl
theorem nat9000 : ∀ {n : Nat}, n < 18446744073709551616 → n < 2 ^ 9000 := fun {n} h => Nat.lt_of_lt_of_le h (by
  rw [show (18446744073709551616 : Nat) = 2 ^ 64 by decide +kernel]
  exact Nat.pow_le_pow_right (by omega) (by omega))
theorem o_fdiv {i j : Int} (h : 0 < j) (h2 : j.natAbs < 18446744073709551616) : opX .FloorDiv (.int i) (.int j) = some (.int (i / j)) := by
  rw [opX_eq]
  have q : 0 < j ∧ j.natAbs < 2 ^ 9000 := ⟨h, nat9000 h2⟩
  simp only [opD]
  rw [if_pos q]
theorem o_mod {i j : Int} (h : 0 < j) : opX .Mod (.int i) (.int j) = some (.int (i % j)) := by
  rw [opX_eq]
  simp only [opD, h, if_true]
theorem c_eq {a b : D} (h1 : sh a = true) (h2 : sh b = true) : cmpX .Eq a b = some (PyData.eqv a b) := by
  rw [cmpX_eq]
  simp only [cmpD, h1, h2, Bool.and_self, if_true]
theorem c_ne {a b : D} (h1 : sh a = true) (h2 : sh b = true) : cmpX .NotEq a b = some (!PyData.eqv a b) := by
  rw [cmpX_eq]
  simp only [cmpD, h1, h2, Bool.and_self, if_true]
theorem c_lt {i j : Int} : cmpX .Lt (.int i) (.int j) = some (decide (i < j)) := by rw [cmpX_eq]; rfl
theorem c_le {i j : Int} : cmpX .LtE (.int i) (.int j) = some (decide (i ≤ j)) := by rw [cmpX_eq]; rfl
theorem c_gt {i j : Int} : cmpX .Gt (.int i) (.int j) = some (decide (j < i)) := by rw [cmpX_eq]; rfl
theorem c_ge {i j : Int} : cmpX .GtE (.int i) (.int j) = some (decide (j ≤ i)) := by rw [cmpX_eq]; rfl
theorem c_is {a : D} : cmpX .Is a .none = some (isNon a) := by rw [cmpX_eq]; cases a <;> rfl
theorem c_isn {a : D} : cmpX .IsNot a .none = some (!isNon a) := by rw [cmpX_eq]; cases a <;> rfl
theorem c_inL {a : D} {ds : List D} (h1 : sh a = true) (h2 : PyData.canLayAll0 ds = true) : cmpX .In a (.list ds) = some (ds.any fun z => PyData.eqv z a) := by
  rw [cmpX_eq]
  have q : cmpD .In a (.list ds) = if (sh a && PyData.canLayAll0 ds) = true then some (ds.any fun z => PyData.eqv z a) else none := by cases a <;> rfl
  rw [q, h1, h2]; rfl
theorem c_inT {a : D} {ds : List D} (h1 : sh a = true) (h2 : PyData.canLayAll0 ds = true) : cmpX .In a (.tuple ds) = some (ds.any fun z => PyData.eqv z a) := by
  rw [cmpX_eq]
  have q : cmpD .In a (.tuple ds) = if (sh a && PyData.canLayAll0 ds) = true then some (ds.any fun z => PyData.eqv z a) else none := by cases a <;> rfl
  rw [q, h1, h2]; rfl
theorem st_L {xs : List D} {k : Nat} (h : 0 < k) (h2 : k < 1073741824) : stepX (.list xs) (.int k) = some (.list (stepL k xs)) := by
  rw [stepX_eq]
  have q : 0 < (k : Int) ∧ (k : Int) < 2 ^ 30 := ⟨by omega, by omega⟩
  simp only [stepD]
  rw [if_pos q]; rfl
theorem st_T {xs : List D} {k : Nat} (h : 0 < k) (h2 : k < 1073741824) : stepX (.tuple xs) (.int k) = some (.tuple (stepL k xs)) := by
  rw [stepX_eq]
  have q : 0 < (k : Int) ∧ (k : Int) < 2 ^ 30 := ⟨by omega, by omega⟩
  simp only [stepD]
  rw [if_pos q]; rfl
theorem sh_int {i : Int} : sh (.int i) = true := rfl
theorem sh_bool {s : Bool} : sh (.bool s) = true := rfl
theorem sh_none : sh .none = true := rfl
theorem o_pow18 : opX .Pow (.int 10) (.int 18) = some (.int 1000000000000000000) := by
  rw [opX_eq]
  simp only [opD]
  rw [if_pos (by decide)]; rfl
local macro_rules | `(tactic| law_purse 11 => $t) => `(tactic| (first | assumption | exact rfl | decide +kernel))
/-- straightforward side goals -/
local macro_rules | `(tactic| law_purse 12 => $t) => `(tactic| (first | (with_reducible first | exact o_addI | exact o_subI | exact o_mulI (by omega) | exact o_fdiv (by omega) (by omega) | exact o_mod (by omega) | exact c_lt | exact c_le | exact c_gt | exact c_ge | exact c_is | exact c_isn) | ((with_reducible apply rf_cmp); exact c_is) | ((with_reducible apply rf_cmp); exact c_isn) | ((with_reducible refine c_eq ?_ ?_) <;> (law_purse 11 => fail)) | ((with_reducible refine c_ne ?_ ?_) <;> (law_purse 11 => fail))))
theorem nod1 (i : Nat) : List.Nodup [i] := by simp
local macro_rules | `(tactic| law_purse 13 => $t) => `(tactic| (first | ((with_reducible apply rf_nod); exact List.nodup_nil) | ((with_reducible apply rf_nod); exact nod1 _) | ((with_reducible apply rf_idx); exact rfl) | ((with_reducible apply rf_b1); exact rfl) | ((with_reducible apply rf_b2); exact rfl) | ((with_reducible apply rf_rev); exact rfl) | ((with_reducible apply rf_slice); exact rfl) | ((with_reducible apply rf_seq); exact rfl) | ((with_reducible apply rf_argSl); exact rfl) | ((with_reducible apply rf_argBack); exact rfl) | ((with_reducible apply rf_held); exact rfl) | ((with_reducible apply rf_heldS); exact rfl) | ((with_reducible apply rf_putH); exact rfl) | ((with_reducible apply rf_atI); exact rfl) | ((with_reducible apply rf_setV); exact rfl) | ((with_reducible apply rf_setO); exact rfl) | ((with_reducible apply rf_setVs); exact rfl) | ((with_reducible apply rf_bind); exact rfl) | ((with_reducible apply rf_isi); exact rfl) | ((with_reducible apply rf_slot); exact rfl) | ((with_reducible apply rf_putX); exact rfl)))
local macro_rules | `(tactic| law_purse 14 => $t) => `(tactic| (with_reducible first | exact ev_kN | exact ev_kB | exact ev_kI | exact ev_kS | exact el_nil | exact ea_nil | exact ep_n | apply el_cons | apply ea_cons | apply ea_ref | apply ep_e | apply ev_bin | apply ev_idx | apply ev_step | apply ev_b2 | apply ev_m1 | apply ev_b1 | apply ev_rev | apply ev_neg | apply ev_not | apply ev_truth | apply ev_cmp | apply ev_slice | apply ev_isi | apply ei_seq | apply ei_zipL | apply ev_ownIdx | apply ev_tup | apply ev_lst | apply ev_listOf | apply ei_r1 | apply ei_r2 | apply ev_call))
local macro_rules | `(tactic| law_purse 15 => $t) => `(tactic| (first | ((with_reducible apply ev_var); exact rfl) | ((with_reducible apply ev_own); exact rfl) | ((with_reducible apply ev_scr); exact rfl) | ((with_reducible apply ev_ownLen); exact rfl)))
/-- a list's length is small by sight -/
theorem len_dec {α : Type} {xs : List α} {n : Nat} (h : xs.length = n) (h2 : Nat.ble n 16777216 = true) : xs.length ≤ szX := by rw [h, size_eq]; exact Nat.le_of_ble_eq_true h2
local macro_rules | `(tactic| law_purse 1 => $t) => `(tactic| (repeat' (first | (law_purse 15 => fail) | (law_purse 14 => fail) | ($t) | (law_purse 12 => fail) | (law_purse 13 => fail) | (refine len_dec rfl ?_; exact rfl) | assumption)))
/-- conditions: true or false by sight -/
local macro_rules | `(tactic| law_purse 16 => $t) => `(tactic| (first | exact rfl | assumption | (decide +kernel) | (exact decide_eq_true (by omega)) | (exact decide_eq_false (by omega)) | (simp only [*, Bool.not_true, Bool.not_false, Bool.and_true, Bool.and_false, Bool.or_true, Bool.or_false, Bool.true_and, Bool.true_or, Bool.false_and, Bool.false_or, decide_true, decide_false]; done)))
local macro_rules | `(tactic| law_purse 17 => $t) => `(tactic| (with_reducible first | apply en_seq | apply sq_nx | apply sq_ret | apply en_set | apply en_setO | apply en_setT | apply en_par | apply en_parO | apply en_parO2 | apply en_put | apply en_app | apply en_expr | apply en_skip | apply en_ret))
local macro_rules | `(tactic| law_purse 2 => $t) => `(tactic| (repeat' (first | (law_purse 15 => fail) | (law_purse 17 => fail) | ((with_reducible apply en_iteT); (focus ((law_purse 1 => $t); done)); (focus (law_purse 16 => fail))) | ((with_reducible apply en_iteF); (focus ((law_purse 1 => $t); done)); (focus (law_purse 16 => fail))) | ((with_reducible apply ev_iteT); (focus ((law_purse 1 => $t); done)); (focus (law_purse 16 => fail))) | ((with_reducible apply ev_iteF); (focus ((law_purse 1 => $t); done)); (focus (law_purse 16 => fail))) | (law_purse 14 => fail) | ($t) | (law_purse 12 => fail) | (law_purse 13 => fail) | (refine len_dec rfl ?_; exact rfl) | assumption)))

/-! Py2: edits, lines: what the defs compute. -/
open PySem
/-! ### edits -/
inductive Ed where
  | turn (q : Nat) | flip (down : Bool) | trim (l t r b : Nat) | pad (l t r b : Nat) | corner (w h : Nat) | enlarge (n : Nat) | reduce (n : Nat)
  deriving DecidableEq
def way (down : Bool) : D := .str (if down then "down" else "across")
def Ed.d : Ed → D
  | .turn q => .tuple [.str "turn", .int q]
  | .flip dn => .tuple [.str "flip", way dn]
  | .trim l t r b => .tuple [.str "trim", .int l, .int t, .int r, .int b]
  | .pad l t r b => .tuple [.str "pad", .int l, .int t, .int r, .int b]
  | .corner w h => .tuple [.str "corner", .int w, .int h]
  | .enlarge n => .tuple [.str "enlarge", .int n]
  | .reduce n => .tuple [.str "reduce", .int n]
def Ed.ok : Ed → Prop
  | .turn q => 1 ≤ q ∧ q ≤ 3
  | .flip _ => True
  | .trim l t r b => l ≤ 3 ∧ t ≤ 3 ∧ r ≤ 3 ∧ b ≤ 3
  | .pad l t r b => l ≤ 3 ∧ t ≤ 3 ∧ r ≤ 3 ∧ b ≤ 3
  | .corner w h => 1 ≤ w ∧ w ≤ 5 ∧ 1 ≤ h ∧ h ≤ 5
  | .enlarge n => n = 2 ∨ n = 3
  | .reduce n => n = 2 ∨ n = 3
abbrev Stk := List Ed
def Stk.d (s : Stk) : D := .tuple (s.map Ed.d)
def Stk.ok (s : Stk) : Prop := ∀ e ∈ s, e.ok
/-- at 0 the first, else the second -/
def pick {α : Type} (at_ : Bool) (a b : α) : α := if at_ then b else a
def ixB (b : Bool) : Int := if b then 1 else 0
/-! ### one line -/
def lineE : Ed → Bool → List D → List D
  | .turn _, _, xs => xs
  | .flip dn, a, xs => if dn = a then xs.reverse else xs
  | .trim l t r b, a, xs => (xs.drop (pick a l t)).take (xs.length - pick a l t - pick a r b)
  | .pad l t r b, a, xs => List.replicate (pick a l t) .none ++ xs ++ List.replicate (pick a r b) .none
  | .corner w h, a, xs => xs.take (pick a w h)
  | .enlarge n, _, xs => xs.flatMap (List.replicate n)
  | .reduce n, _, xs => stepL n xs
abbrev Ln := Option (List D)
def Ln.d : Ln → D
  | none => .none
  | some xs => .list xs
def kept (xs : List D) : Ln := if xs = [] then none else some xs
theorem flat1 (d : D) (n : Nat) : (List.replicate n [d]).flatten = List.replicate n d := by
  induction n with
  | zero => rfl
  | succ n ih => rw [List.replicate_succ, List.flatten_cons, ih]; rfl
/-! ### put, taken, kept, turned -/
def SpPut (F : FSem) : Prop := ∀ (xs : List D) (f b : Nat), f + xs.length + b ≤ 16777216 → F [.val (.list xs), .val (.int f), .val (.int b)] = some (.list (List.replicate f .none ++ xs ++ List.replicate b .none), [.val (.list xs), .val (.int f), .val (.int b)])
theorem sp_put (Φ : Phi) (Γ : Str → Option D) : SpPut (runF Φ Γ 3 3 t_put) := by
  intro xs f b h
  refine runF_of rfl ?_
  unfold t_put
  apply en_ret
  · (law_purse 1 => first | exact o_mulL (by simp; omega) (by omega) | exact o_addL (by simp [flat1]; omega))
  · exact ⟨rfl, by simp only [flat1]⟩
theorem sIx_nat' (n d : Nat) (i : Nat) : HT.sIx n d (some (i : Int)) = min i n := HT.sIx_nat n d i
theorem sIx_non (n d : Nat) : HT.sIx n d none = d := HT.sIx_none n d
theorem cut_fb (xs : List D) (f b : Nat) (h : f ≤ b) : cutL xs (some (f : Int)) (some (b : Int)) = (xs.drop f).take (b - f) := by
  unfold cutL
  rw [sIx_nat', sIx_nat']
  by_cases h : f ≤ xs.length
  · rw [Nat.min_eq_left h]
    by_cases h2 : b ≤ xs.length
    · rw [Nat.min_eq_left h2]
    · rw [Nat.min_eq_right (by omega), List.take_of_length_le (by rw [List.length_drop]; omega), List.take_of_length_le (by rw [List.length_drop]; omega)]
  · rw [show min f xs.length = xs.length by omega, show min b xs.length = xs.length by omega, List.drop_eq_nil_of_le (Nat.le_refl _), List.drop_eq_nil_of_le (by omega), List.take_nil, List.take_nil]
theorem cut_b (xs : List D) (b : Nat) : cutL xs none (some (b : Int)) = xs.take b := by
  unfold cutL
  rw [sIx_non, sIx_nat', List.drop_zero, Nat.sub_zero]
  by_cases h2 : b ≤ xs.length
  · rw [Nat.min_eq_left h2]
  · rw [Nat.min_eq_right (by omega), List.take_of_length_le (Nat.le_refl _), List.take_of_length_le (by omega)]
theorem cut_f (xs : List D) (f : Nat) : cutL xs (some (f : Int)) none = xs.drop f := by
  unfold cutL
  rw [sIx_non, sIx_nat']
  by_cases h : f ≤ xs.length
  · rw [Nat.min_eq_left h, List.take_of_length_le (by rw [List.length_drop]; omega)]
  · rw [show min f xs.length = xs.length by omega, List.drop_eq_nil_of_le (Nat.le_refl _), List.drop_eq_nil_of_le (by omega), List.take_nil]
def SpTaken (F : FSem) : Prop := ∀ (xs : List D) (f b : Nat), F [.val (.list xs), .val (.int f), .val (.int b)] = some (.list ((xs.drop f).take (xs.length - f - b)), [.val (.list xs), .val (.int f), .val (.int b)])
theorem sp_taken (Φ : Phi) (Γ : Str → Option D) : SpTaken (runF Φ Γ 3 3 t_taken) := by
  intro xs f b
  refine runF_of rfl ?_
  unfold t_taken
  apply en_ret
  · (law_purse 1 => fail)
  · refine ⟨rfl, ?_⟩
    have e : (if (xs.length : Int) - (b : Int) > (f : Int) then (xs.length : Int) - (b : Int) else (f : Int)) = ((f + (xs.length - f - b) : Nat) : Int) := by
      split <;> omega
    show PyData.list (cutL xs (some (f : Int)) (some (if (xs.length : Int) - (b : Int) > (f : Int) then (xs.length : Int) - (b : Int) else (f : Int)))) = _
    rw [e, cut_fb _ _ _ (by omega), Nat.add_sub_cancel_left]
/-! ### plain data: no bools, no dicts -/
mutual
def plD : D → Bool
  | .none => true
  | .int _ => true
  | .str x => (PyData.str x).canLay0
  | .list xs => plA xs
  | .tuple xs => plA xs
  | .bool _ => false
  | .dict _ => false
def plA : List D → Bool
  | [] => true
  | x :: xs => plD x && plA xs
end
mutual
theorem pl_lay : ∀ d : D, plD d = true → d.canLay0 = true
  | .none, _ => rfl
  | .int _, _ => rfl
  | .str x, h => h
  | .list xs, h => by show PyData.canLayAll0 xs = true; exact pl_layA xs h
  | .tuple xs, h => by show PyData.canLayAll0 xs = true; exact pl_layA xs h
  | .bool _, h => by cases h
  | .dict _, h => by cases h
theorem pl_layA : ∀ xs : List D, plA xs = true → PyData.canLayAll0 xs = true
  | [], _ => rfl
  | x :: xs, h => by
    have h : (plD x && plA xs) = true := h
    rw [Bool.and_eq_true] at h
    show (x.canLay0 && PyData.canLayAll0 xs) = true
    rw [pl_lay x h.1, pl_layA xs h.2]; rfl
end
mutual
theorem eqv_eq : ∀ a b : D, plD a = true → plD b = true → PyData.eqv a b = true → a = b
  | .none, b, _, hb, h => by cases b <;> first | rfl | cases h
  | .int i, b, _, hb, h => by
    cases b <;> first | cases hb; done | cases h; done | skip
    have h : (i == _) = true := h
    rw [eq_of_beq h]
  | .str i, b, _, hb, h => by
    cases b <;> first | cases hb; done | cases h; done | skip
    have h : (i == _) = true := h
    rw [eq_of_beq h]
  | .list xs, b, ha, hb, h => by
    cases b <;> first | cases hb; done | cases h; done | skip
    rw [eqvAll_eq _ _ ha hb h]
  | .tuple xs, b, ha, hb, h => by
    cases b <;> first | cases hb; done | cases h; done | skip
    rw [eqvAll_eq _ _ ha hb h]
  | .bool _, _, h, _, _ => by cases h
  | .dict _, _, h, _, _ => by cases h
theorem eqvAll_eq : ∀ a b : List D, plA a = true → plA b = true → PyData.eqvAll a b = true → a = b
  | [], [], _, _, _ => rfl
  | [], _ :: _, _, _, h => by cases h
  | _ :: _, [], _, _, h => by cases h
  | x :: xs, y :: ys, ha, hb, h => by
    have ha : (plD x && plA xs) = true := ha
    have hb : (plD y && plA ys) = true := hb
    have h : (PyData.eqv x y && PyData.eqvAll xs ys) = true := h
    rw [Bool.and_eq_true] at ha hb h
    rw [eqv_eq x y ha.1 hb.1 h.1, eqvAll_eq xs ys ha.2 hb.2 h.2]
end
theorem eqv_self (d : D) (h : plD d = true) : PyData.eqv d d = true := PySem.SeqAt.eqv_refl d (pl_lay d h)
theorem eqv_ne {a b : D} (ha : plD a = true) (hb : plD b = true) (h : a ≠ b) : PyData.eqv a b = false := by
  cases e : PyData.eqv a b with
  | false => rfl
  | true => exact absurd (eqv_eq a b ha hb e) h
theorem sh_of {d : D} (h : plD d = true) (h2 : d.depth ≤ 64) : sh d = true := by
  show (d.canLay0 && decide (d.depth ≤ 64)) = true
  rw [pl_lay d h, decide_eq_true h2]; rfl
def cell (d : D) : Prop := d = .none ∨ ∃ i, d = .int i
def Cells (xs : List D) : Prop := ∀ x ∈ xs, cell x
theorem cell_pl {d : D} (h : cell d) : plD d = true ∧ d.depth = 0 := by
  rcases h with rfl | ⟨i, rfl⟩ <;> exact ⟨rfl, rfl⟩
theorem cells_pl : ∀ {xs : List D}, Cells xs → plA xs = true ∧ PyData.depthAll xs = 0
  | [], _ => ⟨rfl, rfl⟩
  | x :: xs, h => by
    have a := cell_pl (h x List.mem_cons_self)
    have b := cells_pl (xs := xs) fun y hy => h y (List.mem_cons_of_mem _ hy)
    constructor
    · show (plD x && plA xs) = true
      rw [a.1, b.1]; rfl
    · show max x.depth (PyData.depthAll xs) = 0
      rw [a.2, b.2]; rfl
theorem cells_sh {xs : List D} (h : Cells xs) : sh (.list xs) = true := by
  have a := cells_pl h
  refine sh_of a.1 ?_
  show PyData.depthAll xs + 1 ≤ 64
  rw [a.2]; decide
theorem eqv_nilL (xs : List D) : PyData.eqv (.list xs) (.list []) = decide (xs = []) := by
  cases xs with
  | nil => rfl
  | cons x xs => rfl
def SpKept (F : FSem) : Prop := ∀ (xs : List D), Cells xs → F [.val (.list xs)] = some ((kept xs).d, [.val (.list xs)])
theorem sp_kept (Φ : Phi) (Γ : Str → Option D) : SpKept (runF Φ Γ 1 1 t_kept) := by
  intro xs hc
  refine runF_of rfl ?_
  unfold t_kept
  have h := cells_sh hc
  by_cases e : xs = []
  · have q : PyData.eqv (.list xs) (.list []) = true := by rw [eqv_nilL, decide_eq_true e]
    apply en_ret
    · (law_purse 2 => fail)
    · exact ⟨rfl, by unfold kept; rw [if_pos e]; rfl⟩
  · have q : PyData.eqv (.list xs) (.list []) = false := by rw [eqv_nilL, decide_eq_false e]
    apply en_ret
    · (law_purse 2 => fail)
    · exact ⟨rfl, by unfold kept; rw [if_neg e]; rfl⟩
/-! ### one line after an edit -/
def Ed.isT : Ed → Bool
  | .turn _ => true
  | _ => false
theorem range_len (n : Nat) (lo c : Int) : (rangeD lo n c).length = n := by simp [rangeD]
def SpLine (F : FSem) : Prop := ∀ (e : Ed) (a : Bool) (xs : List D), e.ok → e.isT = false → xs.length ≤ 5000000 → F [.val (.list xs), .val e.d, .val (.int (ixB a))] = some (.list (lineE e a xs), [.val (.list xs), .val e.d, .val (.int (ixB a))])
theorem sp_line {Φ : Phi} {Γ : Str → Option D} {Fp Ft : FSem} (hp : Φ "put" = some Fp) (ht : Φ "taken" = some Ft) (sp : SpPut Fp) (st : SpTaken Ft) : SpLine (runF Φ Γ 3 6 t_line_edited) := by
  intro e a xs he ht hl
  refine runF_of rfl ?_
  unfold t_line_edited
  cases e with
  | turn q => cases ht
  | flip dn =>
    cases dn <;> cases a <;>
    · (law_purse 2 => fail)
      exact ⟨rfl, rfl⟩
  | trim l t r b =>
    cases a
    · (law_purse 2 => exact st xs l r)
      exact ⟨rfl, rfl⟩
    · (law_purse 2 => exact st xs t b)
      exact ⟨rfl, rfl⟩
  | pad l t r b =>
    obtain ⟨h1, h2, h3, h4⟩ := he
    cases a
    · (law_purse 2 => exact sp xs l r (by omega))
      exact ⟨rfl, rfl⟩
    · (law_purse 2 => exact sp xs t b (by omega))
      exact ⟨rfl, rfl⟩
  | corner w h =>
    cases a
    · (law_purse 2 => fail)
      exact ⟨rfl, by rw [show lineE (.corner w h) false xs = xs.take w from rfl, ← cut_b]⟩
    · (law_purse 2 => fail)
      exact ⟨rfl, by rw [show lineE (.corner w h) true xs = xs.take h from rfl, ← cut_b]⟩
  | enlarge n =>
    have hn : n ≤ 3 := by rcases he with rfl | rfl <;> omega
    have hf : (xs.flatMap (List.replicate n)).length ≤ szX := by
      rw [size_eq, List.length_flatMap]
      simp only [List.length_replicate, List.map_const', List.sum_replicate_nat]
      have : xs.length * n ≤ xs.length * 3 := Nat.mul_le_mul_left _ hn
      omega
    have hc : ∀ (d : D), lcLoop [5] (.one 5) (ev Φ Γ (.kB true)) (ev Φ Γ (.var 4)) (rangeD 0 (n : Int).toNat 1) [.val (.list xs), .val (Ed.enlarge n).d, .val (.int (ixB a)), .val (.str "enlarge"), .val d, .non] = some (List.replicate n d, [.val (.list xs), .val (Ed.enlarge n).d, .val (.int (ixB a)), .val (.str "enlarge"), .val d, .non]) := fun d => by
      have := lcLoop_fm (vs := [5]) (tg := .one 5) (c := ev Φ Γ (.kB true)) (a := ev Φ Γ (.var 4)) (p := fun _ => true) (g := fun _ => d) (ρ := [.val (.list xs), .val (Ed.enlarge n).d, .val (.int (ixB a)), .val (.str "enlarge"), .val d, .non]) (ds := rangeD 0 (n : Int).toNat 1) fun x _ => ⟨_, _, rfl, rfl, (fun z => by cases z), fun _ => ⟨_, rfl, rfl⟩⟩
      rw [this, List.filter_eq_self.mpr (fun _ _ => rfl), List.map_const', range_len]; rfl
    (law_purse 2 => exact ev_comp2 (fun d => List.replicate n d) (ei_seq (ev_var rfl) rfl) rfl (by rw [size_eq]; omega) hf rfl fun d _ => ⟨_, _, _, _, _, rfl, rfl, ei_r1 (ev_idx (ev_var rfl) rfl rfl) (by omega), hc d, rfl⟩)
    exact ⟨rfl, rfl⟩
  | reduce n =>
    have hn : 0 < n ∧ n < 1073741824 := by rcases he with rfl | rfl <;> omega
    (law_purse 2 => exact st_L hn.1 hn.2)
    exact ⟨rfl, rfl⟩

/-! Py3: columns and rows after a stack. -/
open PySem
def rv (l : Ln) : Ln := l.map List.reverse
/-- columns, rows, exchanged, after one edit -/
def stepA : Ed → Ln × Ln × Bool → Ln × Ln × Bool
  | .turn q, (c, r, s) => if q = 1 then (rv r, c, !s) else if q = 2 then (rv c, rv r, s) else (r, rv c, !s)
  | e, (c, r, s) => (c.bind fun xs => kept (lineE e false xs), r.bind fun xs => kept (lineE e true xs), s)
def runA (s : Stk) (x : Ln × Ln × Bool) : Ln × Ln × Bool := s.foldl (fun x e => stepA e x) x
def idL (n : Nat) : Ln := some (rangeD 0 n 1)
def linesA (w h : Nat) (s : Stk) : Ln × Ln × Bool := runA s (idL w, idL h, false)
def LnOk (n : Nat) (l : Ln) : Prop := ∀ xs, l = some xs → Cells xs ∧ xs.length ≤ n ∧ xs ≠ []
theorem rv_none : rv none = none := rfl
theorem Ln.d_rv (l : Ln) : (rv l).d = (match l with | none => PyData.none | some xs => .list xs.reverse) := by cases l <;> rfl
theorem isNon_ln (l : Ln) : isNon l.d = l.isNone := by cases l <;> rfl
def SpTurned (F : FSem) : Prop := ∀ (c r : Ln) (q : Nat) (s : Bool), 1 ≤ q → q ≤ 3 → F [.val c.d, .val r.d, .val (.int q)] = some (.tuple [(stepA (.turn q) (c, r, s)).1.d, (stepA (.turn q) (c, r, s)).2.1.d], [.val c.d, .val r.d, .val (.int q)])
theorem sp_turned (Φ : Phi) (Γ : Str → Option D) : SpTurned (runF Φ Γ 3 3 t_turned) := by
  intro c r q s h1 h2
  refine runF_of rfl ?_
  unfold t_turned
  have hq : q = 1 ∨ q = 2 ∨ q = 3 := by omega
  rcases hq with rfl | rfl | rfl <;> cases c <;> cases r <;>
  · (law_purse 2 => fail)
    exact ⟨rfl, rfl⟩
theorem lineE_len (e : Ed) (a : Bool) (xs : List D) (he : e.ok) : (lineE e a xs).length ≤ 3 * xs.length + 6 := by
  cases e with
  | turn q => show xs.length ≤ _; omega
  | flip dn =>
    show (if dn = a then xs.reverse else xs).length ≤ _
    split
    · rw [List.length_reverse]; omega
    · omega
  | trim l t r b => show ((xs.drop (pick a l t)).take _).length ≤ _; rw [List.length_take, List.length_drop]; omega
  | pad l t r b =>
    obtain ⟨h1, h2, h3, h4⟩ := he
    show (List.replicate (pick a l t) PyData.none ++ xs ++ List.replicate (pick a r b) PyData.none).length ≤ _
    rw [List.length_append, List.length_append, List.length_replicate, List.length_replicate]
    cases a <;> simp [pick] <;> omega
  | corner w h => show (xs.take _).length ≤ _; rw [List.length_take]; omega
  | enlarge n =>
    have hn : n ≤ 3 := by rcases he with rfl | rfl <;> omega
    show (xs.flatMap (List.replicate n)).length ≤ _
    rw [List.length_flatMap]
    simp only [List.length_replicate, List.map_const', List.sum_replicate_nat]
    have : xs.length * n ≤ xs.length * 3 := Nat.mul_le_mul_left _ hn
    omega
  | reduce n =>
    have : (stepL n xs).length ≤ xs.length := stepL_len n (by rcases he with rfl | rfl <;> omega) xs
    show (stepL n xs).length ≤ _
    omega
theorem cells_rev {xs : List D} (h : Cells xs) : Cells xs.reverse := fun x hx => h x (List.mem_reverse.mp hx)
theorem lineE_cells (e : Ed) (a : Bool) (xs : List D) (h : Cells xs) : Cells (lineE e a xs) := by
  intro x hx
  cases e with
  | turn q => exact h x hx
  | flip dn =>
    have hx : x ∈ (if dn = a then xs.reverse else xs) := hx
    split at hx
    · exact h x (List.mem_reverse.mp hx)
    · exact h x hx
  | trim l t r b => exact h x (List.mem_of_mem_drop (List.mem_of_mem_take hx))
  | pad l t r b =>
    have hx : x ∈ List.replicate (pick a l t) PyData.none ++ xs ++ List.replicate (pick a r b) PyData.none := hx
    rw [List.mem_append, List.mem_append] at hx
    rcases hx with (hx | hx) | hx
    · exact .inl (List.eq_of_mem_replicate hx)
    · exact h x hx
    · exact .inl (List.eq_of_mem_replicate hx)
  | corner w h' => exact h x (List.mem_of_mem_take hx)
  | enlarge n =>
    have hx : x ∈ xs.flatMap (List.replicate n) := hx
    rw [List.mem_flatMap] at hx
    obtain ⟨y, h1, h2⟩ := hx
    rw [List.eq_of_mem_replicate h2]; exact h y h1
  | reduce n =>
    have hx : x ∈ (List.range ((xs.length + n - 1) / n)).filterMap fun m => xs[m * n]? := hx
    rw [List.mem_filterMap] at hx
    obtain ⟨m, _, h2⟩ := hx
    exact h x (List.mem_of_getElem? h2)
def kd : Ed → _root_.Fin 7
  | .turn _ => 0 | .flip _ => 1 | .trim .. => 2 | .pad .. => 3 | .corner .. => 4 | .enlarge _ => 5 | .reduce _ => 6
def wdK (k : _root_.Fin 7) : Str := match k with
  | 0 => "turn" | 1 => "flip" | 2 => "trim" | 3 => "pad" | 4 => "corner" | 5 => "enlarge" | 6 => "reduce"
def wd (e : Ed) : Str := wdK (kd e)
theorem wdK_eqv : ∀ k l : _root_.Fin 7, PyData.eqv (.str (wdK k)) (.str (wdK l)) = decide (k = l) := by decide +kernel
theorem wdK_sh : ∀ k : _root_.Fin 7, sh (.str (wdK k)) = true := by decide +kernel
theorem wdK_lay : ∀ k : _root_.Fin 7, plD (.str (wdK k)) = true := by decide +kernel
theorem ed_idx0 (e : Ed) : idxD e.d (.int 0) = some (.str (wd e)) := by cases e <;> rfl
theorem isT_kd (e : Ed) : e.isT = decide (kd e = 0) := by cases e <;> rfl
theorem wd_turn (e : Ed) : PyData.eqv (.str (wd e)) (.str "turn") = e.isT := by rw [isT_kd]; exact wdK_eqv (kd e) 0
theorem wd_sh (e : Ed) : sh (.str (wd e)) = true := wdK_sh _
theorem stepA_line {e : Ed} (h : e.isT = false) (c r : Ln) (s : Bool) : stepA e (c, r, s) = (c.bind fun xs => kept (lineE e false xs), r.bind fun xs => kept (lineE e true xs), s) := by
  cases e <;> first | rfl | cases h
theorem kept_ok {n : Nat} {xs : List D} (h : Cells xs) (hl : xs.length ≤ n) : LnOk n (kept xs) := by
  intro ys hy
  unfold kept at hy
  split at hy
  · cases hy
  · rename_i hne
    cases hy
    exact ⟨h, hl, hne⟩
theorem rv_ok {n : Nat} {l : Ln} (h : LnOk n l) : LnOk n (rv l) := by
  intro ys hy
  cases l with
  | none => cases hy
  | some xs =>
    cases hy
    obtain ⟨a, b, c⟩ := h xs rfl
    exact ⟨cells_rev a, by rw [List.length_reverse]; exact b, fun z => c (List.reverse_eq_nil_iff.mp z)⟩
theorem LnOk.mono {n m : Nat} {l : Ln} (h : LnOk n l) (hm : n ≤ m) : LnOk m l := fun xs hx => let ⟨a, b, c⟩ := h xs hx; ⟨a, Nat.le_trans b hm, c⟩
theorem stepA_ok {e : Ed} {n : Nat} {c r : Ln} {s : Bool} (he : e.ok) (hc : LnOk n c) (hr : LnOk n r) : LnOk (3 * n + 6) (stepA e (c, r, s)).1 ∧ LnOk (3 * n + 6) (stepA e (c, r, s)).2.1 := by
  by_cases h : e.isT = true
  · cases e with
    | turn q =>
      unfold stepA
      simp only
      split
      · exact ⟨(rv_ok hr).mono (by omega), hc.mono (by omega)⟩
      · split
        · exact ⟨(rv_ok hc).mono (by omega), (rv_ok hr).mono (by omega)⟩
        · exact ⟨hr.mono (by omega), (rv_ok hc).mono (by omega)⟩
    | _ => cases h
  · rw [stepA_line (by simpa using h)]
    constructor
    · intro ys hy
      cases c with
      | none => cases hy
      | some xs =>
        obtain ⟨a, b, _⟩ := hc xs rfl
        exact kept_ok (lineE_cells e false xs a) (by have := lineE_len e false xs he; omega) ys hy
    · intro ys hy
      cases r with
      | none => cases hy
      | some xs =>
        obtain ⟨a, b, _⟩ := hr xs rfl
        exact kept_ok (lineE_cells e true xs a) (by have := lineE_len e true xs he; omega) ys hy
theorem runA_ok : ∀ (s : Stk) (n : Nat) (x : Ln × Ln × Bool), s.ok → LnOk n x.1 → LnOk n x.2.1 → LnOk (3 ^ s.length * (n + 3) - 3) (runA s x).1 ∧ LnOk (3 ^ s.length * (n + 3) - 3) (runA s x).2.1
  | [], n, x, _, h1, h2 => ⟨h1.mono (by simp), h2.mono (by simp)⟩
  | e :: s, n, (c, r, b), hs, h1, h2 => by
    have q := stepA_ok (s := b) (hs e List.mem_cons_self) h1 h2
    have ih := runA_ok s (3 * n + 6) (stepA e (c, r, b)) (fun y hy => hs y (List.mem_cons_of_mem _ hy)) q.1 q.2
    have e1 : 3 ^ s.length * (3 * n + 6 + 3) = 3 ^ (e :: s).length * (n + 3) := by
      rw [List.length_cons, Nat.pow_succ, Nat.mul_assoc]
      rw [show 3 * n + 6 + 3 = 3 * (n + 3) by omega]
    rw [e1] at ih
    exact ih
theorem range_cells (n : Nat) (lo c : Int) : Cells (rangeD lo n c) := fun x hx => by
  unfold rangeD at hx
  rw [List.mem_map] at hx
  obtain ⟨i, _, rfl⟩ := hx
  exact .inr ⟨_, rfl⟩
theorem idL_ok {n m : Nat} (h : 0 < n) (hm : n ≤ m) : LnOk m (idL n) := fun xs hx => by
  cases hx
  exact ⟨range_cells _ _ _, by rw [range_len]; exact hm, fun z => by
    have := congrArg List.length z
    rw [range_len] at this
    simp at this; omega⟩
theorem linesA_ok {w h m : Nat} {s : Stk} (hs : s.ok) (hw : 0 < w) (hh : 0 < h) (h1 : w ≤ m) (h2 : h ≤ m) : LnOk (3 ^ s.length * (m + 3) - 3) (linesA w h s).1 ∧ LnOk (3 ^ s.length * (m + 3) - 3) (linesA w h s).2.1 :=
  runA_ok s m _ hs (idL_ok hw h1) (idL_ok hh h2)
theorem take_ok {s : Stk} (h : s.ok) (i : Nat) : Stk.ok (s.take i) := fun e he => h e (List.mem_of_mem_take he)
theorem runA_snoc (s : Stk) (e : Ed) (x : Ln × Ln × Bool) : runA (s ++ [e]) x = stepA e (runA s x) := by unfold runA; rw [List.foldl_append]; rfl
theorem runA_take {s : Stk} {i : Nat} {e : Ed} (h : s[i]? = some e) (x : Ln × Ln × Bool) : runA (s.take (i + 1)) x = stepA e (runA (s.take i) x) := by
  rw [List.take_add_one, h]; exact runA_snoc _ _ _
theorem pow_mono3 {a b m : Nat} (h : a ≤ b) : 3 ^ a * (m + 3) ≤ 3 ^ b * (m + 3) := Nat.mul_le_mul_right _ (Nat.pow_le_pow_right (by omega) h)
/-- small enough -/
def Fit (w h : Nat) (s : Stk) : Prop := 0 < w ∧ 0 < h ∧ ∃ m, w ≤ m ∧ h ≤ m ∧ 3 ^ s.length * (m + 3) ≤ 5000000
def SpLines (F : FSem) : Prop := ∀ (w h : Nat) (s : Stk), s.ok → Fit w h s → F [.val (.int w), .val (.int h), .val s.d] = some (.tuple [(linesA w h s).1.d, (linesA w h s).2.1.d, .bool (linesA w h s).2.2], [.val (.int w), .val (.int h), .val s.d])
theorem sp_lines {Φ : Phi} {Γ : Str → Option D} {Ft Fk Fl : FSem} (ht : Φ "turned" = some Ft) (hk : Φ "kept" = some Fk) (hl : Φ "line_edited" = some Fl) (st : SpTurned Ft) (sk : SpKept Fk) (sl : SpLine Fl) : SpLines (runF Φ Γ 3 7 t_lines_after) := by
  intro w h s hs ⟨hw, hh, m, hm1, hm2, hb⟩
  refine runF_of rfl ?_
  unfold t_lines_after
  have hm : m ≤ 5000000 := by
    have : 1 * (m + 3) ≤ 3 ^ s.length * (m + 3) := Nat.mul_le_mul_right _ (Nat.pos_of_ne_zero (by simp))
    omega
  apply en_seq
  apply en_par
  · (law_purse 2 => first | exact ei_r1 (ev_var rfl) (by omega) | omega | (rw [range_len, size_eq]; omega))
  · exact rfl
  apply sq_nx
  apply en_seq
  refine en_for (ds := s.map Ed.d) (fun i ρ => ∃ x : Sl, (x = .non ∨ ∃ d, x = .val d) ∧ ρ = [.val (.int w), .val (.int h), .val s.d, x, .val (runA (s.take i) (idL w, idL h, false)).1.d, .val (runA (s.take i) (idL w, idL h, false)).2.1.d, .val (.bool (runA (s.take i) (idL w, idL h, false)).2.2)]) (ei_seq (ev_var rfl) rfl) ⟨.non, .inl rfl, rfl⟩ (fun i d ρ hd hi => ?_) (fun ρ hρ => ?_)
  · obtain ⟨x, hx, rfl⟩ := hi
    rw [List.getElem?_map] at hd
    obtain ⟨e, he, rfl⟩ := Option.map_eq_some_iff.mp hd
    have heo : e.ok := hs e (List.mem_of_getElem? he)
    have hi : i < s.length := (List.getElem?_eq_some_iff.mp he).1
    refine ⟨[.val (.int w), .val (.int h), .val s.d, .val e.d, .val (runA (s.take i) (idL w, idL h, false)).1.d, .val (runA (s.take i) (idL w, idL h, false)).2.1.d, .val (.bool (runA (s.take i) (idL w, idL h, false)).2.2)], ?_, ?_⟩
    · rcases hx with rfl | ⟨d, rfl⟩ <;> rfl
    have ok := runA_ok (s.take i) m (idL w, idL h, false) (take_ok hs i) (idL_ok hw hm1) (idL_ok hh hm2)
    have hlen : 3 ^ (s.take i).length * (m + 3) - 3 ≤ 5000000 := by
      have : 3 ^ (s.take i).length * (m + 3) ≤ 3 ^ s.length * (m + 3) := pow_mono3 (by rw [List.length_take]; omega)
      omega
    rw [runA_take he]
    generalize hx : runA (s.take i) (idL w, idL h, false) = x at ok ⊢
    obtain ⟨c, r, sw⟩ := x
    have okc := ok.1.mono hlen
    have okr := ok.2.mono hlen
    by_cases hT : e.isT = true
    · cases e with
      | turn q =>
        obtain ⟨h1, h2⟩ := heo
        apply en_iteT
        · (law_purse 1 => first | exact ed_idx0 _ | exact c_eq (wd_sh _) (by (law_purse 11 => fail)))
        · exact wd_turn (.turn q)
        have hq : q = 1 ∨ q = 2 ∨ q = 3 := by omega
        rcases hq with rfl | rfl | rfl <;> cases sw <;>
        · (law_purse 2 => exact st c r _ true h1 h2)
          exact ⟨_, .inr ⟨_, rfl⟩, rfl⟩
      | _ => cases hT
    · have hT : e.isT = false := by simpa using hT
      apply en_iteF
      · (law_purse 1 => first | exact ed_idx0 _ | exact c_eq (wd_sh _) (by (law_purse 11 => fail)))
      · rw [← hT]; exact wd_turn e
      rw [stepA_line hT]
      cases c with
      | none =>
        cases r with
        | none =>
          (law_purse 2 => fail)
          exact ⟨_, .inr ⟨_, rfl⟩, rfl⟩
        | some ys =>
          obtain ⟨y1, y2, _⟩ := okr ys rfl
          (law_purse 2 => first | exact sl e true ys heo hT y2 | exact sk _ (lineE_cells e true ys y1))
          exact ⟨_, .inr ⟨_, rfl⟩, rfl⟩
      | some xs =>
        obtain ⟨x1, x2, _⟩ := okc xs rfl
        cases r with
        | none =>
          (law_purse 2 => first | exact sl e false xs heo hT x2 | exact sk _ (lineE_cells e false xs x1))
          exact ⟨_, .inr ⟨_, rfl⟩, rfl⟩
        | some ys =>
          obtain ⟨y1, y2, _⟩ := okr ys rfl
          (law_purse 2 => first | exact sl e false xs heo hT x2 | exact sk _ (lineE_cells e false xs x1) | exact sl e true ys heo hT y2 | exact sk _ (lineE_cells e true ys y1))
          exact ⟨_, .inr ⟨_, rfl⟩, rfl⟩
  · obtain ⟨x, hx, rfl⟩ := hρ
    apply sq_nx
    apply en_ret
    · (law_purse 2 => fail)
    · refine ⟨rfl, ?_⟩
      rw [List.length_map, List.take_length]
      rfl

/-! Py4: stacks applied to pictures. -/
open PySem
abbrev Pc := List (List D)
def picD (p : Pc) : D := .tuple (p.map .tuple)
structure PcOk (w h : Nat) (p : Pc) : Prop where
  w0 : 0 < w
  h0 : 0 < h
  hl : p.length = h
  wl : ∀ row ∈ p, row.length = w
def at2 (p : Pc) (i j : Nat) : D := (((p[i]?).getD [])[j]?).getD .none
def pixD (p : Pc) (sw : Bool) : D → D → D
  | .int c, .int r => if sw then at2 p c.toNat r.toNat else at2 p r.toNat c.toNat
  | _, _ => .none
/-- places of a line of n -/
def InR (n : Nat) (d : D) : Prop := d = .none ∨ ∃ i : Nat, d = .int i ∧ i < n
theorem InR.cell {n : Nat} {d : D} (h : InR n d) : cell d := by
  rcases h with rfl | ⟨i, rfl, _⟩
  · exact .inl rfl
  · exact .inr ⟨_, rfl⟩
theorem atI_nat' {xs : List D} {i : Nat} {d : D} (h : xs[i]? = some d) : atI xs (i : Int) = some d := atI_nat h
theorem at2_eq {w h : Nat} {p : Pc} (ok : PcOk w h p) {i j : Nat} (hi : i < h) (hj : j < w) : ∃ row, p[i]? = some row ∧ row[j]? = some (at2 p i j) := by
  have h1 : i < p.length := by rw [ok.hl]; exact hi
  have h2 := ok.wl _ (List.getElem_mem h1)
  refine ⟨p[i], List.getElem?_eq_getElem h1, ?_⟩
  unfold at2
  rw [List.getElem?_eq_getElem h1]
  simp only [Option.getD_some]
  rw [List.getElem?_eq_getElem (by omega)]
  rfl
def dimW (sw : Bool) (w h : Nat) : Nat := if sw then h else w
def SpPixel (F : FSem) : Prop := ∀ (w h : Nat) (p : Pc) (c r : D) (sw : Bool), PcOk w h p → InR (dimW sw w h) c → InR (dimW sw h w) r → F [.val (picD p), .val c, .val r, .val (.bool sw)] = some (pixD p sw c r, [.val (picD p), .val c, .val r, .val (.bool sw)])
theorem sp_pixel (Φ : Phi) (Γ : Str → Option D) : SpPixel (runF Φ Γ 4 4 t_pixel) := by
  intro w h p c r sw ok hc hr
  refine runF_of rfl ?_
  unfold t_pixel
  apply en_seq
  rcases hc with rfl | ⟨i, rfl, hi⟩
  · apply en_iteT (b := true || isNon r)
    · apply ev_or
      · (law_purse 1 => fail)
      · intro _; (law_purse 1 => fail)
    · rfl
    (law_purse 2 => fail)
    exact ⟨rfl, rfl⟩
  · rcases hr with rfl | ⟨j, rfl, hj⟩
    · apply en_iteT (b := false || true)
      · apply ev_or
        · (law_purse 1 => fail)
        · intro _; (law_purse 1 => fail)
      · rfl
      (law_purse 2 => fail)
      exact ⟨rfl, rfl⟩
    · apply en_iteF (b := false || false)
      · apply ev_or
        · (law_purse 1 => fail)
        · intro _; (law_purse 1 => fail)
      · rfl
      cases sw with
      | false =>
        have hi : i < w := hi
        have hj : j < h := hj
        obtain ⟨row, e1, e2⟩ := at2_eq ok hj hi
        have e3 : idxD (picD p) (.int j) = some (.tuple row) := atI_nat' (by rw [List.getElem?_map, e1]; rfl)
        have e4 : idxD (.tuple row) (.int i) = some (at2 p j i) := atI_nat' e2
        (law_purse 2 => first | exact e3 | exact e4)
        exact ⟨rfl, rfl⟩
      | true =>
        have hi : i < h := hi
        have hj : j < w := hj
        obtain ⟨row, e1, e2⟩ := at2_eq ok hi hj
        have e3 : idxD (picD p) (.int i) = some (.tuple row) := atI_nat' (by rw [List.getElem?_map, e1]; rfl)
        have e4 : idxD (.tuple row) (.int j) = some (at2 p i j) := atI_nat' e2
        (law_purse 2 => first | exact e3 | exact e4)
        exact ⟨rfl, rfl⟩
/-! places stay in range -/
def LnIn (n : Nat) (l : Ln) : Prop := ∀ xs, l = some xs → ∀ x ∈ xs, InR n x
theorem rv_in {n : Nat} {l : Ln} (h : LnIn n l) : LnIn n (rv l) := by
  intro ys hy x hx
  cases l with
  | none => cases hy
  | some xs =>
    cases hy
    exact h xs rfl x (List.mem_reverse.mp hx)
theorem lineE_mem (e : Ed) (a : Bool) (xs : List D) {x : D} (hx : x ∈ lineE e a xs) : x = .none ∨ x ∈ xs := by
  cases e with
  | turn q => exact .inr hx
  | flip dn =>
    have hx : x ∈ (if dn = a then xs.reverse else xs) := hx
    split at hx
    · exact .inr (List.mem_reverse.mp hx)
    · exact .inr hx
  | trim l t r b => exact .inr (List.mem_of_mem_drop (List.mem_of_mem_take hx))
  | pad l t r b =>
    have hx : x ∈ List.replicate (pick a l t) PyData.none ++ xs ++ List.replicate (pick a r b) PyData.none := hx
    rw [List.mem_append, List.mem_append] at hx
    rcases hx with (hx | hx) | hx
    · exact .inl (List.eq_of_mem_replicate hx)
    · exact .inr hx
    · exact .inl (List.eq_of_mem_replicate hx)
  | corner w h' => exact .inr (List.mem_of_mem_take hx)
  | enlarge n =>
    have hx : x ∈ xs.flatMap (List.replicate n) := hx
    rw [List.mem_flatMap] at hx
    obtain ⟨y, h1, h2⟩ := hx
    rw [List.eq_of_mem_replicate h2]; exact .inr h1
  | reduce n =>
    have hx : x ∈ (List.range ((xs.length + n - 1) / n)).filterMap fun m => xs[m * n]? := hx
    rw [List.mem_filterMap] at hx
    obtain ⟨m, _, h2⟩ := hx
    exact .inr (List.mem_of_getElem? h2)
theorem keptb_in {n : Nat} {l : Ln} {f : List D → List D} (h : LnIn n l) (hf : ∀ xs x, x ∈ f xs → x = .none ∨ x ∈ xs) : LnIn n (l.bind fun xs => kept (f xs)) := by
  intro ys hy x hx
  cases l with
  | none => cases hy
  | some xs =>
    have hy : kept (f xs) = some ys := hy
    unfold kept at hy
    split at hy
    · cases hy
    · cases hy
      rcases hf xs x hx with rfl | h2
      · exact .inl rfl
      · exact h xs rfl x h2
theorem stepA_in {e : Ed} {w h : Nat} {c r : Ln} {s : Bool} (he : e.ok) (hc : LnIn (dimW s w h) c) (hr : LnIn (dimW s h w) r) : LnIn (dimW (stepA e (c, r, s)).2.2 w h) (stepA e (c, r, s)).1 ∧ LnIn (dimW (stepA e (c, r, s)).2.2 h w) (stepA e (c, r, s)).2.1 := by
  by_cases hT : e.isT = true
  · cases e with
    | turn q =>
      unfold stepA
      simp only
      split
      · cases s <;> exact ⟨rv_in hr, hc⟩
      · split
        · exact ⟨rv_in hc, rv_in hr⟩
        · cases s <;> exact ⟨hr, rv_in hc⟩
    | _ => cases hT
  · rw [stepA_line (by simpa using hT)]
    exact ⟨keptb_in hc fun xs x => lineE_mem e false xs, keptb_in hr fun xs x => lineE_mem e true xs⟩
theorem runA_in {w h : Nat} : ∀ (s : Stk) (x : Ln × Ln × Bool), s.ok → LnIn (dimW x.2.2 w h) x.1 → LnIn (dimW x.2.2 h w) x.2.1 → LnIn (dimW (runA s x).2.2 w h) (runA s x).1 ∧ LnIn (dimW (runA s x).2.2 h w) (runA s x).2.1
  | [], x, _, h1, h2 => ⟨h1, h2⟩
  | e :: s, (c, r, b), hs, h1, h2 =>
    have q := stepA_in (hs e List.mem_cons_self) h1 h2
    runA_in s (stepA e (c, r, b)) (fun y hy => hs y (List.mem_cons_of_mem _ hy)) q.1 q.2
theorem idL_in (n : Nat) : LnIn n (idL n) := fun xs hx x hm => by
  cases hx
  unfold rangeD at hm
  rw [List.mem_map] at hm
  obtain ⟨i, h1, rfl⟩ := hm
  exact .inr ⟨i, by simp, List.mem_range.mp h1⟩
theorem linesA_in {w h : Nat} {s : Stk} (hs : s.ok) : LnIn (dimW (linesA w h s).2.2 w h) (linesA w h s).1 ∧ LnIn (dimW (linesA w h s).2.2 h w) (linesA w h s).2.1 :=
  runA_in s _ hs (idL_in w) (idL_in h)
/-- a picture after a stack -/
def viewL (p : Pc) (x : Ln × Ln × Bool) : Option Pc := match x with
  | (some cs, some rs, sw) => some (rs.map fun r => cs.map fun c => pixD p sw c r)
  | _ => none
def oPic : Option Pc → D
  | none => .none
  | some p => picD p
def SpApplied (F : FSem) : Prop := ∀ (w h : Nat) (p : Pc) (s : Stk), PcOk w h p → s.ok → Fit w h s → F [.val (picD p), .val s.d] = some (oPic (viewL p (linesA w h s)), [.val (picD p), .val s.d])
theorem sp_applied {Φ : Phi} {Γ : Str → Option D} {Fl Fp : FSem} (hl : Φ "lines_after" = some Fl) (hp : Φ "pixel" = some Fp) (sl : SpLines Fl) (sp : SpPixel Fp) : SpApplied (runF Φ Γ 2 7 t_applied) := by
  intro w h p s ok hs hf
  refine runF_of rfl ?_
  unfold t_applied
  have hw : ∃ row, p[0]? = some row ∧ row.length = w := by
    have : 0 < p.length := by rw [ok.hl]; exact ok.h0
    exact ⟨p[0], List.getElem?_eq_getElem this, ok.wl _ (List.getElem_mem this)⟩
  obtain ⟨row0, e0, rfl⟩ := hw
  have hh : h = p.length := ok.hl.symm
  subst hh
  have e1 : idxD (picD p) (.int 0) = some (.tuple row0) := atI_nat' (i := 0) (by rw [List.getElem?_map, e0]; rfl)
  have e2 : b1D .len (picD p) = some (.int p.length) := by
    show some (PyData.int ((p.map PyData.tuple).length : Nat)) = _
    rw [List.length_map]
  have hln := linesA_ok (s := s) (m := hf.2.2.choose) hs hf.1 hf.2.1 hf.2.2.choose_spec.1 hf.2.2.choose_spec.2.1
  have hbd := hf.2.2.choose_spec.2.2
  have hin := linesA_in (w := row0.length) (h := p.length) hs
  have hcall := sl row0.length p.length s hs hf
  generalize linesA row0.length p.length s = x at hln hin hcall ⊢
  obtain ⟨c, r, sw⟩ := x
  apply en_seq
  apply en_setT
  · (law_purse 1 => first | exact e1 | exact e2 | exact hcall)
  · exact rfl
  apply sq_nx
  apply en_seq
  cases c with
  | none =>
    apply en_iteT (b := true || isNon r.d)
    · apply ev_or
      · (law_purse 1 => fail)
      · intro _; (law_purse 1 => fail)
    · rfl
    (law_purse 2 => fail)
    exact ⟨rfl, by cases r <;> rfl⟩
  | some cs =>
    cases r with
    | none =>
      apply en_iteT (b := false || true)
      · apply ev_or
        · (law_purse 1 => fail)
        · intro _; (law_purse 1 => fail)
      · rfl
      (law_purse 2 => fail)
      exact ⟨rfl, rfl⟩
    | some rs =>
      obtain ⟨_, lc, _⟩ := hln.1 cs rfl
      obtain ⟨_, lr, _⟩ := hln.2 rs rfl
      apply en_iteF (b := false || false)
      · apply ev_or
        · (law_purse 1 => fail)
        · intro _; (law_purse 1 => fail)
      · rfl
      apply en_skip
      apply sq_nx
      apply en_ret
      · apply ev_b1
        · apply ev_compM (ds := rs) (fun r => .tuple (cs.map fun c => pixD p sw c r))
          · (law_purse 1 => fail)
          · exact rfl
          · rw [size_eq]; omega
          · exact rfl
          intro d hd
          refine ⟨_, rfl, ?_⟩
          apply ee
          · apply ev_b1
            · apply ev_compM (ds := cs) (fun c => pixD p sw c d)
              · (law_purse 1 => fail)
              · exact rfl
              · rw [size_eq]; omega
              · exact rfl
              intro d2 hd2
              refine ⟨_, rfl, ?_⟩
              apply ee
              · (law_purse 1 => exact sp _ _ p d2 d sw ok (hin.1 cs rfl d2 hd2) (hin.2 rs rfl d hd))
              · exact rfl
            · exact rfl
          · exact rfl
        · exact rfl
      · refine ⟨rfl, ?_⟩
        show PyData.tuple _ = PyData.tuple _
        rw [List.map_map]
        rfl

/-! Py5: what is drawn. -/
open PySem
def tapeD (ns : List Int) (k c : Nat) : List D := [.list (ns.map .int), .int k, .int c]
def Tape (ts : List D) : Prop := ∃ (ns : List Int) (k c : Nat), ts = tapeD ns k c
def SpDraw (F : FSem) : Prop := ∀ (ts : List D) (m : Nat), Tape ts → 0 < m → m < 9223372036854775808 → ∃ (n : Nat) (ts' : List D), n < m ∧ Tape ts' ∧ F [.par ts, .val (.int m)] = some (.int n, [.par ts', .val (.int m)])
theorem intD_int (i : Int) : b1D .int (.int i) = some (.int i) := rfl
theorem sp_draw (Φ : Phi) (Γ : Str → Option D) : SpDraw (runF Φ Γ 2 5 t_law_draw) := by
  intro ts m ⟨ns, k, c, e⟩ hm hm2
  subst e
  suffices h : ∃ d a', runF Φ Γ 2 5 t_law_draw [.par (tapeD ns k c), .val (.int m)] = some (d, a') ∧ ∃ (n : Nat) (ts' : List D), n < m ∧ Tape ts' ∧ d = .int n ∧ a' = [.par ts', .val (.int m)] by
    obtain ⟨d, a', e, n, ts', h1, h2, rfl, rfl⟩ := h
    exact ⟨n, ts', h1, h2, e⟩
  refine runF_ex rfl ?_
  unfold t_law_draw
  apply en_seq
  apply en_set
  · (law_purse 1 => fail)
  · exact rfl
  apply sq_nx
  apply en_seq
  apply en_imp (Q := fun o ρ => o = .nx ∧ ∃ (k' c' : Nat) (x : Sl), ρ = [.par (tapeD ns k' c'), .val (.int m), .val (.int 2305843009213693951), .non, x])
  · by_cases hc : c < m
    · apply en_iteT
      · (law_purse 1 => fail)
      · exact decide_eq_true (by omega)
      apply en_seq
      apply en_set
      · (law_purse 1 => fail)
      · exact rfl
      apply sq_nx
      apply en_seq
      apply en_imp (Q := fun o ρ => o = .nx ∧ ∃ (z : Int), ρ = [.par (tapeD ns k c), .val (.int m), .val (.int 2305843009213693951), .non, .val (.int z)])
      · by_cases hn : 0 < ns.length
        · apply en_iteT
          · (law_purse 1 => fail)
          · exact decide_eq_true (by rw [List.length_map]; omega)
          have hk : k % ns.length < ns.length := Nat.mod_lt _ hn
          have hix : idxD (.list (ns.map .int)) (.int ((k : Int) % ((ns.map PyData.int).length : Nat))) = some (.int ns[k % ns.length]) := by
            rw [List.length_map, show (k : Int) % (ns.length : Int) = ((k % ns.length : Nat) : Int) by omega]
            exact atI_nat' (by rw [List.getElem?_map, List.getElem?_eq_getElem hk]; rfl)
          apply en_set
          · (law_purse 1 => first | exact hix | exact o_mod (by rw [List.length_map]; omega))
          · exact rfl
          exact ⟨rfl, _, rfl⟩
        · apply en_iteF
          · (law_purse 1 => fail)
          · exact decide_eq_false (by rw [List.length_map]; omega)
          apply en_skip
          exact ⟨rfl, _, rfl⟩
      · rintro o ρ ⟨rfl, z, rfl⟩
        apply sq_nx
        apply en_seq
        apply en_imp (Q := fun o ρ => o = .nx ∧ ∃ (z : Nat), ρ = [.par (tapeD ns k c), .val (.int m), .val (.int 2305843009213693951), .non, .val (.int z)])
        · have hor : ∀ (b : Bool), (decide (((ns.map PyData.int).length : Int) ≤ (k : Int)) || decide (z < 1000000000000000000)) = b → ev Φ Γ (.or (.cmp .GtE (.ownIdx 0 (.kI 1)) (.b1 .len (.ownIdx 0 (.kI 0)))) (.cmp .Lt (.var 4) (.bin .Pow (.kI 10) (.kI 18)))) [.par (tapeD ns k c), .val (.int m), .val (.int 2305843009213693951), .non, .val (.int z)] = some (.bool b, [.par (tapeD ns k c), .val (.int m), .val (.int 2305843009213693951), .non, .val (.int z)]) := fun b hb => by
            rw [← hb]
            apply ev_or
            · (law_purse 1 => fail)
            · intro _
              (law_purse 1 => exact o_pow18)
          by_cases hb : (decide (((ns.map PyData.int).length : Int) ≤ (k : Int)) || decide (z < 1000000000000000000)) = true
          · apply en_iteT (hor true hb) rfl
            apply en_seq
            apply en_set
            · (law_purse 1 => fail)
            · exact rfl
            apply sq_nx
            have g1 : 0 ≤ (z + 1000003 * (k : Int)) % 2305843009213693951 ∧ (z + 1000003 * (k : Int)) % 2305843009213693951 < 2305843009213693951 := by omega
            generalize (z + 1000003 * (k : Int)) % 2305843009213693951 = z1 at g1 ⊢
            apply en_seq
            apply en_set
            · (law_purse 1 => fail)
            · exact rfl
            apply sq_nx
            have g2 : 0 ≤ (z1 * z1 + 1181783497276652981 * z1 + 2049848353892358983) % 2305843009213693951 ∧ (z1 * z1 + 1181783497276652981 * z1 + 2049848353892358983) % 2305843009213693951 < 2305843009213693951 := by omega
            generalize (z1 * z1 + 1181783497276652981 * z1 + 2049848353892358983) % 2305843009213693951 = z2 at g2 ⊢
            apply en_set
            · (law_purse 1 => fail)
            · exact rfl
            have g3 : 0 ≤ (z2 * z2 + 1442695040888963407) % 2305843009213693951 := by omega
            generalize (z2 * z2 + 1442695040888963407) % 2305843009213693951 = z3 at g3 ⊢
            refine ⟨rfl, z3.toNat, ?_⟩
            rw [Int.toNat_of_nonneg g3]
            rfl
          · have hb : (decide (((ns.map PyData.int).length : Int) ≤ (k : Int)) || decide (z < 1000000000000000000)) = false := by simpa using hb
            apply en_iteF (hor false hb) rfl
            apply en_skip
            rw [Bool.or_eq_false_iff, decide_eq_false_iff_not, decide_eq_false_iff_not] at hb
            refine ⟨rfl, z.toNat, ?_⟩
            rw [Int.toNat_of_nonneg (by omega)]
        · rintro o ρ ⟨rfl, z, rfl⟩
          apply sq_nx
          apply en_seq
          apply en_put
          · (law_purse 1 => fail)
          · (law_purse 1 => fail)
          · (law_purse 1 => fail)
          · (law_purse 1 => fail)
          · (law_purse 1 => fail)
          · exact rfl
          apply sq_nx
          apply en_put
          · (law_purse 1 => fail)
          · (law_purse 1 => fail)
          · (law_purse 1 => fail)
          · (law_purse 1 => fail)
          · (law_purse 1 => fail)
          · exact rfl
          exact ⟨rfl, k + 1, z, _, rfl⟩
    · apply en_iteF
      · (law_purse 1 => fail)
      · exact decide_eq_false (by omega)
      apply en_skip
      exact ⟨rfl, k, c, _, rfl⟩
  · rintro o ρ ⟨rfl, k', c', x, rfl⟩
    apply sq_nx
    (law_purse 2 => first | exact o_mod (by omega) | exact o_fdiv (by omega) (by omega))
    refine ⟨_, rfl, c' % m, tapeD ns k' (c' / m), Nat.mod_lt _ hm, ⟨_, _, _, rfl⟩, rfl, rfl⟩

/-! Py6: edits and stacks that are drawn. -/
open PySem
section
variable {Φ : Phi} {Γ : Str → Option D}
def SpFew (F : FSem) : Prop := ∀ (ts : List D), Tape ts → ∃ (n : Nat) (ts' : List D), n ≤ 3 ∧ Tape ts' ∧ F [.par ts] = some (.int n, [.par ts'])
theorem few_at (n : Nat) (h : n < 8) : ∃ k : Nat, k ≤ 3 ∧ idxD (.list [.int 0, .int 0, .int 1, .int 0, .int 2, .int 0, .int 1, .int 3]) (.int n) = some (.int k) := by
  have : n = 0 ∨ n = 1 ∨ n = 2 ∨ n = 3 ∨ n = 4 ∨ n = 5 ∨ n = 6 ∨ n = 7 := by omega
  rcases this with rfl | rfl | rfl | rfl | rfl | rfl | rfl | rfl
  · exact ⟨0, by omega, rfl⟩
  · exact ⟨0, by omega, rfl⟩
  · exact ⟨1, by omega, rfl⟩
  · exact ⟨0, by omega, rfl⟩
  · exact ⟨2, by omega, rfl⟩
  · exact ⟨0, by omega, rfl⟩
  · exact ⟨1, by omega, rfl⟩
  · exact ⟨3, by omega, rfl⟩
theorem sp_few {Fd : FSem} (hd : Φ "_law_draw" = some Fd) (sd : SpDraw Fd) : SpFew (runF Φ Γ 1 1 t_law_few) := by
  intro ts ht
  obtain ⟨n, ts', h1, h2, h3⟩ := sd ts 8 ht (by omega) (by omega)
  obtain ⟨k, hk, e⟩ := few_at n h1
  refine ⟨k, ts', hk, h2, ?_⟩
  refine runF_of rfl ?_
  unfold t_law_few
  (law_purse 2 => first | exact h3 | exact e)
  exact ⟨rfl, rfl⟩
def SpEdit (F : FSem) : Prop := ∀ (ts : List D), Tape ts → ∃ (e : Ed) (ts' : List D), e.ok ∧ Tape ts' ∧ F [.par ts] = some (e.d, [.par ts'])
theorem sp_edit {Fd Ff : FSem} (hd : Φ "_law_draw" = some Fd) (hf : Φ "_law_few" = some Ff) (sd : SpDraw Fd) (sf : SpFew Ff) : SpEdit (runF Φ Γ 1 3 t_law_edit) := by
  intro ts ht
  obtain ⟨n, ts1, h1, h2, h3⟩ := sd ts 9 ht (by omega) (by omega)
  have hn : n = 0 ∨ n = 1 ∨ n = 2 ∨ n = 3 ∨ n = 4 ∨ n = 5 ∨ n = 6 ∨ n = 7 ∨ n = 8 := by omega
  have turn : n < 2 → ∃ (e : Ed) (ts' : List D), e.ok ∧ Tape ts' ∧ runF Φ Γ 1 3 t_law_edit [.par ts] = some (e.d, [.par ts']) := fun hn => by
    obtain ⟨q, ts2, q1, q2, q3⟩ := sd ts1 3 h2 (by omega) (by omega)
    refine ⟨.turn (1 + q), ts2, ⟨by omega, by omega⟩, q2, ?_⟩
    refine runF_of rfl ?_
    unfold t_law_edit
    (law_purse 2 => first | exact h3 | exact q3)
    exact ⟨rfl, rfl⟩
  have four : ∀ (w : Str) (e : Nat → Nat → Nat → Nat → Ed), (∀ a b c d, (e a b c d).d = .tuple [.str w, .int a, .int b, .int c, .int d]) → (∀ a b c d, a ≤ 3 → b ≤ 3 → c ≤ 3 → d ≤ 3 → (e a b c d).ok) → 2 < n → n < 6 → idxD (.list [.str "trim", .str "pad", .str "trim"]) (.int ((n : Int) - 3)) = some (.str w) → ∃ (e : Ed) (ts' : List D), e.ok ∧ Tape ts' ∧ runF Φ Γ 1 3 t_law_edit [.par ts] = some (e.d, [.par ts']) := fun w e he ho hn1 hn2 hw => by
    obtain ⟨a, ts2, a1, a2, a3⟩ := sf ts1 h2
    obtain ⟨b, ts3, b1, b2, b3⟩ := sf ts2 a2
    obtain ⟨c, ts4, c1, c2, c3⟩ := sf ts3 b2
    obtain ⟨d, ts5, d1, d2, d3⟩ := sf ts4 c2
    refine ⟨e a b c d, ts5, ho a b c d a1 b1 c1 d1, d2, ?_⟩
    rw [he]
    refine runF_of rfl ?_
    unfold t_law_edit
    have q : PyData.eqv (.int n) (.int 2) = false := by show ((n : Int) == 2) = false; simp; omega
    (law_purse 2 => first | exact h3 | exact hw | exact a3 | exact b3 | exact c3 | exact d3)
    exact ⟨rfl, rfl⟩
  have two : ∀ (w : Str) (e : Nat → Ed), (∀ a, (e a).d = .tuple [.str w, .int a]) → (∀ a, a = 2 ∨ a = 3 → (e a).ok) → 6 < n → idxD (.list [.str "enlarge", .str "reduce"]) (.int ((n : Int) - 7)) = some (.str w) → ∃ (e : Ed) (ts' : List D), e.ok ∧ Tape ts' ∧ runF Φ Γ 1 3 t_law_edit [.par ts] = some (e.d, [.par ts']) := fun w e he ho hn1 hw => by
    obtain ⟨a, ts2, a1, a2, a3⟩ := sd ts1 2 h2 (by omega) (by omega)
    refine ⟨e (2 + a), ts2, ho _ (by omega), a2, ?_⟩
    rw [he]
    refine runF_of rfl ?_
    unfold t_law_edit
    have q : PyData.eqv (.int n) (.int 2) = false := by show ((n : Int) == 2) = false; simp; omega
    have q6 : PyData.eqv (.int n) (.int 6) = false := by show ((n : Int) == 6) = false; simp; omega
    (law_purse 2 => first | exact h3 | exact hw | exact a3)
    exact ⟨rfl, rfl⟩
  rcases hn with rfl | rfl | rfl | rfl | rfl | rfl | rfl | rfl | rfl
  · exact turn (by omega)
  · exact turn (by omega)
  · obtain ⟨q, ts2, q1, q2, q3⟩ := sd ts1 2 h2 (by omega) (by omega)
    have hq : q = 0 ∨ q = 1 := by omega
    rcases hq with rfl | rfl
    · refine ⟨.flip false, ts2, trivial, q2, ?_⟩
      refine runF_of rfl ?_
      unfold t_law_edit
      (law_purse 2 => first | exact h3 | exact q3)
      exact ⟨rfl, rfl⟩
    · refine ⟨.flip true, ts2, trivial, q2, ?_⟩
      refine runF_of rfl ?_
      unfold t_law_edit
      (law_purse 2 => first | exact h3 | exact q3)
      exact ⟨rfl, rfl⟩
  · exact four "trim" .trim (fun _ _ _ _ => rfl) (fun _ _ _ _ a b c d => ⟨a, b, c, d⟩) (by omega) (by omega) rfl
  · exact four "pad" .pad (fun _ _ _ _ => rfl) (fun _ _ _ _ a b c d => ⟨a, b, c, d⟩) (by omega) (by omega) rfl
  · exact four "trim" .trim (fun _ _ _ _ => rfl) (fun _ _ _ _ a b c d => ⟨a, b, c, d⟩) (by omega) (by omega) rfl
  · obtain ⟨a, ts2, a1, a2, a3⟩ := sd ts1 5 h2 (by omega) (by omega)
    obtain ⟨b, ts3, b1, b2, b3⟩ := sd ts2 5 a2 (by omega) (by omega)
    refine ⟨.corner (1 + a) (1 + b), ts3, ⟨by omega, by omega, by omega, by omega⟩, b2, ?_⟩
    refine runF_of rfl ?_
    unfold t_law_edit
    (law_purse 2 => first | exact h3 | exact a3 | exact b3)
    exact ⟨rfl, rfl⟩
  · exact two "enlarge" .enlarge (fun _ => rfl) (fun _ h => h) (by omega) rfl
  · exact two "reduce" .reduce (fun _ => rfl) (fun _ h => h) (by omega) rfl
end

/-! Py7: stacks that are drawn, pictures of unlike pixels. -/
open PySem
section
variable {Φ : Phi} {Γ : Str → Option D}
def words (s : Stk) : List D := s.map fun e => .str (wd e)
def cntK (k : _root_.Fin 7) (s : Stk) : Nat := s.countP fun e => decide (kd e = k)
def fitsB (s : Stk) : Bool := decide (s.length ≤ 6) && (decide (cntK 5 s < 2) && decide (cntK 6 s < 2))
theorem words_lay : ∀ s : Stk, PyData.canLayAll0 (words s) = true
  | [] => rfl
  | e :: s => by
    show (PyData.canLay0 (.str (wd e)) && PyData.canLayAll0 (words s)) = true
    rw [words_lay s, show (PyData.str (wd e)).canLay0 = true from pl_lay _ (wdK_lay (kd e))]; rfl
theorem count_words (s : Stk) (k : _root_.Fin 7) : m1D .count (.list (words s)) (.str (wdK k)) = some (.int (cntK k s)) := by
  show (if sh (.str (wdK k)) && PyData.canLayAll0 (words s) then some (PyData.int ((words s).countP fun z => PyData.eqv z (.str (wdK k)) : Nat)) else none) = _
  rw [wdK_sh, words_lay]
  simp only [Bool.and_self, if_true]
  unfold words cntK
  rw [List.countP_map]
  congr 4
  funext e
  exact wdK_eqv (kd e) k
def SpFits (F : FSem) : Prop := ∀ (s : Stk), s.length ≤ 1000 → F [.val s.d] = some (.bool (fitsB s), [.val s.d])
theorem sp_fits : SpFits (runF Φ Γ 1 3 t_law_fits) := by
  intro s hs
  refine runF_of rfl ?_
  unfold t_law_fits
  have hl : b1D .len s.d = some (.int s.length) := by
    show some (PyData.int ((s.map Ed.d).length : Nat)) = _
    rw [List.length_map]
  apply en_seq
  by_cases h6 : s.length ≤ 6
  · apply en_iteF
    · (law_purse 1 => exact hl)
    · exact decide_eq_false (by omega)
    apply en_skip
    apply sq_nx
    apply en_seq
    apply en_set
    · apply ev_compM (ds := s.map Ed.d) (fun d => match d with | .tuple (x :: _) => x | _ => .none)
      · (law_purse 1 => fail)
      · exact rfl
      · rw [List.length_map, size_eq]; omega
      · exact rfl
      intro d hd
      rw [List.mem_map] at hd
      obtain ⟨e, _, rfl⟩ := hd
      refine ⟨_, rfl, ?_⟩
      apply ee
      · (law_purse 1 => exact ed_idx0 e)
        · cases e <;> exact rfl
      · exact rfl
    · exact rfl
    apply sq_nx
    have hw : (s.map Ed.d).map (fun d => match d with | .tuple (x :: _) => x | _ => .none) = words s := by
      rw [List.map_map]
      unfold words
      congr 1
      funext e
      cases e <;> rfl
    rw [hw]
    apply en_ret
    · apply ev_and
      · (law_purse 1 => exact count_words s 5)
      · intro _; (law_purse 1 => exact count_words s 6)
    · refine ⟨rfl, ?_⟩
      show PyData.bool _ = PyData.bool _
      unfold fitsB
      rw [decide_eq_true h6, Bool.true_and]
      congr 2 <;> exact decide_eq_decide.mpr (by omega)
  · apply en_iteT
    · (law_purse 1 => exact hl)
    · exact decide_eq_true (by omega)
    (law_purse 2 => fail)
    refine ⟨rfl, ?_⟩
    unfold fitsB
    rw [decide_eq_false h6]; rfl
def weightE : Ed → Nat
  | .trim l t r b => l + t + r + b
  | .pad l t r b => l + t + r + b
  | .corner w h => w + h
  | _ => 0
def weight (s : Stk) : Nat := (s.map weightE).sum
def SpWeight (F : FSem) : Prop := ∀ (s : Stk), F [.val s.d] = some (.int (weight s), [.val s.d])
theorem sp_weight : SpWeight (runF Φ Γ 1 3 t_law_weight) := by
  intro s
  refine runF_of rfl ?_
  unfold t_law_weight
  apply en_seq
  apply en_set
  · (law_purse 1 => fail)
  · exact rfl
  apply sq_nx
  apply en_seq
  refine en_for (ds := s.map Ed.d) (fun i ρ => ∃ x : Sl, (x = .non ∨ ∃ d, x = .val d) ∧ ρ = [.val s.d, .val (.int (weight (s.take i))), x]) (ei_seq (ev_var rfl) rfl) ⟨.non, .inl rfl, rfl⟩ (fun i d ρ hd hi => ?_) (fun ρ hρ => ?_)
  · obtain ⟨x, hx, rfl⟩ := hi
    rw [List.getElem?_map] at hd
    obtain ⟨e, he, rfl⟩ := Option.map_eq_some_iff.mp hd
    refine ⟨[.val s.d, .val (.int (weight (s.take i))), .val e.d], by rcases hx with rfl | ⟨d, rfl⟩ <;> rfl, ?_⟩
    have hw : weight (s.take (i + 1)) = weight (s.take i) + weightE e := by
      unfold weight
      rw [List.take_add_one, he, List.map_append, List.sum_append]
      simp
    have cin : cmpX .In (.str (wd e)) (.tuple [.str "trim", .str "pad", .str "corner"]) = some ([PyData.str (wdK 2), .str (wdK 3), .str (wdK 4)].any fun z => PyData.eqv z (.str (wd e))) := c_inT (wd_sh e) (by decide +kernel)
    by_cases hk : kd e = 2 ∨ kd e = 3 ∨ kd e = 4
    · apply en_iteT
      · (law_purse 1 => first | exact ed_idx0 e | exact cin)
      · show (PyData.eqv (.str (wdK 2)) (.str (wdK (kd e))) || (PyData.eqv (.str (wdK 3)) (.str (wdK (kd e))) || (PyData.eqv (.str (wdK 4)) (.str (wdK (kd e))) || false))) = true
        rw [wdK_eqv, wdK_eqv, wdK_eqv]
        rcases hk with h | h | h <;> rw [h] <;> decide
      have hsum : ∃ ds, sliceD e.d (some 1) none = some (.tuple ds) ∧ b1D .sum (.tuple ds) = some (.int (weightE e)) := by
        cases e with
        | trim l t r b =>
          refine ⟨_, rfl, ?_⟩
          show some (PyData.int ((l : Int) + ((t : Int) + ((r : Int) + ((b : Int) + 0))))) = some (.int ((l + t + r + b : Nat) : Int))
          rw [show (l : Int) + ((t : Int) + ((r : Int) + ((b : Int) + 0))) = ((l + t + r + b : Nat) : Int) by omega]
        | pad l t r b =>
          refine ⟨_, rfl, ?_⟩
          show some (PyData.int ((l : Int) + ((t : Int) + ((r : Int) + ((b : Int) + 0))))) = some (.int ((l + t + r + b : Nat) : Int))
          rw [show (l : Int) + ((t : Int) + ((r : Int) + ((b : Int) + 0))) = ((l + t + r + b : Nat) : Int) by omega]
        | corner w h =>
          refine ⟨_, rfl, ?_⟩
          show some (PyData.int ((w : Int) + ((h : Int) + 0))) = some (.int ((w + h : Nat) : Int))
          rw [show (w : Int) + ((h : Int) + 0) = ((w + h : Nat) : Int) by omega]
        | turn q => exact absurd hk (by simp [kd])
        | flip q => exact absurd hk (by simp [kd])
        | enlarge q => exact absurd hk (by simp [kd])
        | reduce q => exact absurd hk (by simp [kd])
      obtain ⟨ds, s1, s2⟩ := hsum
      (law_purse 2 => first | exact s1 | exact s2)
      exact ⟨_, .inr ⟨_, rfl⟩, by rw [hw, Int.natCast_add]; rfl⟩
    · apply en_iteF
      · (law_purse 1 => first | exact ed_idx0 e | exact cin)
      · show (PyData.eqv (.str (wdK 2)) (.str (wdK (kd e))) || (PyData.eqv (.str (wdK 3)) (.str (wdK (kd e))) || (PyData.eqv (.str (wdK 4)) (.str (wdK (kd e))) || false))) = false
        rw [wdK_eqv, wdK_eqv, wdK_eqv, decide_eq_false (fun z => hk (.inl z.symm)), decide_eq_false (fun z => hk (.inr (.inl z.symm))), decide_eq_false (fun z => hk (.inr (.inr z.symm)))]
        rfl
      apply en_skip
      have h0 : weightE e = 0 := by
        cases e with
        | trim => exact absurd (.inl rfl) hk
        | pad => exact absurd (.inr (.inl rfl)) hk
        | corner => exact absurd (.inr (.inr rfl)) hk
        | _ => rfl
      exact ⟨_, .inr ⟨_, rfl⟩, by rw [hw, h0]; rfl⟩
  · obtain ⟨x, hx, rfl⟩ := hρ
    apply sq_nx
    (law_purse 2 => fail)
    refine ⟨rfl, ?_⟩
    rw [List.length_map, List.take_length]
/-- what is drawn keeps this -/
structure StkOk (n : Nat) (s : Stk) : Prop where
  ok : s.ok
  len : s.length ≤ n
  fits : fitsB s = true
  wt : weight s < 16
theorem StkOk.len6 {n : Nat} {s : Stk} (h : StkOk n s) : s.length ≤ 6 := by
  have := h.fits
  unfold fitsB at this
  rw [Bool.and_eq_true] at this
  exact of_decide_eq_true this.1
def SpStack (F : FSem) : Prop := ∀ (ts : List D) (m : Nat), Tape ts → m ≤ 100 → ∃ (s : Stk) (ts' : List D), StkOk m s ∧ Tape ts' ∧ F [.par ts, .val (.int m)] = some (s.d, [.par ts', .val (.int m)])
theorem sp_stack {Fd Fe Ff Fw : FSem} (hd : Φ "_law_draw" = some Fd) (he : Φ "_law_edit" = some Fe) (hf : Φ "_law_fits" = some Ff) (hw : Φ "_law_weight" = some Fw) (sd : SpDraw Fd) (se : SpEdit Fe) (sf : SpFits Ff) (sw : SpWeight Fw) : SpStack (runF Φ Γ 2 5 t_law_stack) := by
  intro ts m ht hm
  obtain ⟨n, ts1, h1, h2, h3⟩ := sd ts (m + 1) ht (by omega) (by omega)
  suffices h : ∃ d a', runF Φ Γ 2 5 t_law_stack [.par ts, .val (.int m)] = some (d, a') ∧ ∃ (s : Stk) (ts' : List D), StkOk m s ∧ Tape ts' ∧ d = s.d ∧ a' = [.par ts', .val (.int m)] by
    obtain ⟨d, a', e, n, ts', h1, h2, rfl, rfl⟩ := h
    exact ⟨n, ts', h1, h2, e⟩
  refine runF_ex rfl ?_
  unfold t_law_stack
  apply en_seq
  apply en_set
  · (law_purse 1 => fail)
  · exact rfl
  apply sq_nx
  apply en_seq
  apply en_for (ds := rangeD 0 (n : Int).toNat 1) (fun i ρ => ∃ (s : Stk) (ts : List D) (x y : Sl), StkOk i s ∧ Tape ts ∧ (x = .non ∨ ∃ d, x = .val d) ∧ (y = .non ∨ ∃ d, y = .val d) ∧ ρ = [.par ts, .val (.int m), .val s.d, x, y])
  · have e : ((m + 1 : Nat) : Int) = (m : Int) + 1 := by omega
    rw [e] at h3
    apply ei_r1
    · (law_purse 1 => exact h3)
    · omega
  · exact ⟨[], ts1, .non, .non, ⟨(fun _ h => nomatch h), Nat.le_refl _, rfl, by decide⟩, h2, .inl rfl, .inl rfl, rfl⟩
  · rintro i d ρ hd' ⟨s, ts, x, y, hs, ht, hx, hy, rfl⟩
    refine ⟨[.par ts, .val (.int m), .val s.d, .val d, y], by rcases hx with rfl | ⟨d, rfl⟩ <;> rfl, ?_⟩
    obtain ⟨e, ts2, e1, e2, e3⟩ := se ts ht
    have l6 := hs.len6
    have hadd : opX .Add s.d (.tuple [e.d]) = some (Stk.d (s ++ [e])) := by
      have := o_addT (xs := s.map Ed.d) (ys := [e.d]) (by rw [List.length_map]; simp; omega)
      rw [show Stk.d (s ++ [e]) = .tuple (s.map Ed.d ++ [e.d]) by unfold Stk.d; rw [List.map_append]; rfl]
      exact this
    apply en_seq
    apply en_set
    · (law_purse 1 => first | exact e3 | exact hadd)
    · rcases hy with rfl | ⟨d, rfl⟩ <;> exact rfl
    apply sq_nx
    have hsl : (s ++ [e]).length ≤ 1000 := by simp; omega
    have hcond : ∀ b, (fitsB (s ++ [e]) && decide ((weight (s ++ [e]) : Int) < 16)) = b → ev Φ Γ (.and (.truth (.call "_law_fits" (.cons (.var 4) .nil))) (.cmp .Lt (.call "_law_weight" (.cons (.var 4) .nil)) (.kI 16))) [.par ts2, .val (.int m), .val s.d, .val d, .val (Stk.d (s ++ [e]))] = some (.bool b, [.par ts2, .val (.int m), .val s.d, .val d, .val (Stk.d (s ++ [e]))]) := fun b hb => by
      rw [← hb]
      apply ev_and
      · (law_purse 1 => exact sf _ hsl)
      · intro _; (law_purse 1 => exact sw _)
    have hset : (List.set [Sl.par ts2, .val (.int m), .val s.d, .val d, y] 4 (.val (Stk.d (s ++ [e])))) = [Sl.par ts2, .val (.int m), .val s.d, .val d, .val (Stk.d (s ++ [e]))] := rfl
    by_cases hb : (fitsB (s ++ [e]) && decide ((weight (s ++ [e]) : Int) < 16)) = true
    · apply en_iteT
      · exact hcond true hb
      · exact rfl
      rw [Bool.and_eq_true, decide_eq_true_eq] at hb
      (law_purse 2 => fail)
      refine ⟨s ++ [e], ts2, _, _, ⟨fun y hy => ?_, by simp; exact hs.len, hb.1, by omega⟩, e2, .inr ⟨_, rfl⟩, .inr ⟨_, rfl⟩, rfl⟩
      rw [List.mem_append] at hy
      rcases hy with hy | hy
      · exact hs.ok y hy
      · rw [List.mem_singleton.mp hy]; exact e1
    · have hb : (fitsB (s ++ [e]) && decide ((weight (s ++ [e]) : Int) < 16)) = false := by simpa using hb
      apply en_iteF
      · exact hcond false hb
      · exact rfl
      apply en_skip
      exact ⟨s, ts2, _, _, ⟨hs.ok, Nat.le_succ_of_le hs.len, hs.fits, hs.wt⟩, e2, .inr ⟨_, rfl⟩, .inr ⟨_, rfl⟩, rfl⟩
  · rintro ρ ⟨s, ts, x, y, hs, ht, hx, hy, rfl⟩
    apply sq_nx
    (law_purse 2 => fail)
    refine ⟨_, rfl, s, ts, ⟨hs.ok, ?_, hs.fits, hs.wt⟩, ht, rfl, rfl⟩
    have := hs.len
    rw [range_len] at this
    omega
def unlike (w h : Nat) : Pc := (List.range h).map fun r => (List.range w).map fun c => .int ((w * r + c : Nat) : Int)
def unF (w : Nat) : D → D → D
  | .int i, .int j => .int (w * i + j)
  | _, _ => .none
def SpUnlike (F : FSem) : Prop := ∀ (w h : Nat), w ≤ 100000 → h ≤ 100000 → F [.val (.int w), .val (.int h)] = some (picD (unlike w h), [.val (.int w), .val (.int h)])
theorem sp_unlike : SpUnlike (runF Φ Γ 2 4 t_law_unlike) := by
  intro w h hw hh
  refine runF_of rfl ?_
  unfold t_law_unlike
  apply en_ret
  · apply ev_b1
    · apply ev_compM (ds := rangeD 0 (h : Int).toNat 1) (fun r => .tuple ((rangeD 0 (w : Int).toNat 1).map (unF w r)))
      · exact ei_r1 (ev_var rfl) (by omega)
      · exact rfl
      · rw [range_len, size_eq]; omega
      · exact rfl
      intro d hd
      refine ⟨_, rfl, ?_⟩
      unfold rangeD at hd
      rw [List.mem_map] at hd
      obtain ⟨r, hr, rfl⟩ := hd
      apply ee
      · apply ev_b1
        · apply ev_compM (ds := rangeD 0 (w : Int).toNat 1) (unF w (.int ((0 : Int) + (r : Int) * 1)))
          · exact ei_r1 (ev_var rfl) (by omega)
          · exact rfl
          · rw [range_len, size_eq]; omega
          · exact rfl
          intro d2 hd2
          unfold rangeD at hd2
          rw [List.mem_map] at hd2
          obtain ⟨c, hc, rfl⟩ := hd2
          refine ⟨_, rfl, ?_⟩
          apply ee
          · (law_purse 1 => exact o_addI)
          · exact rfl
        · exact rfl
      · exact rfl
    · exact rfl
  · refine ⟨rfl, ?_⟩
    show PyData.tuple _ = PyData.tuple _
    unfold unlike rangeD
    rw [List.map_map, List.map_map, show (h : Int).toNat = h from rfl, show (w : Int).toNat = w from rfl]
    congr 1
    refine List.map_congr_left fun r hr => ?_
    show PyData.tuple _ = PyData.tuple _
    rw [List.map_map]
    congr 1
    refine List.map_congr_left fun c hc => ?_
    show PyData.int ((w : Int) * (0 + (r : Int) * 1) + (0 + (c : Int) * 1)) = PyData.int _
    congr 1
    rw [Int.natCast_add, Int.natCast_mul, Int.mul_one, Int.mul_one, Int.zero_add, Int.zero_add]
end

/-! Py8: the law's own lines. -/
open PySem
/-! ### enlarging, reducing by places -/
def atD (xs : List D) (i : Nat) : D := (xs[i]?).getD .none
theorem flat_at (n : Nat) (hn : 0 < n) : ∀ (xs : List D) (p : Nat), (xs.flatMap (List.replicate n))[p]? = xs[p / n]?
  | [], p => by simp
  | x :: xs, p => by
    rw [List.flatMap_cons]
    by_cases h : p < n
    · rw [List.getElem?_append_left (by rw [List.length_replicate]; exact h), List.getElem?_replicate, if_pos h, Nat.div_eq_of_lt h]; rfl
    · rw [List.getElem?_append_right (by rw [List.length_replicate]; omega), List.length_replicate, flat_at n hn xs]
      have e : p / n = (p - n) / n + 1 := by
        rw [← Nat.add_div_right _ hn, Nat.sub_add_cancel (by omega)]
      rw [e]; rfl
def enG (xs : List D) (n : Nat) : D → D
  | .int i => atD xs (i.toNat / n)
  | _ => .none
theorem flat_map (n : Nat) (hn : 0 < n) (xs : List D) : (rangeD 0 (xs.length * n) 1).map (enG xs n) = xs.flatMap (List.replicate n) := by
  apply List.ext_getElem?
  intro p
  rw [flat_at n hn]
  unfold rangeD
  rw [List.map_map, List.getElem?_map]
  by_cases h : p < xs.length * n
  · rw [List.getElem?_range h]
    have h2 : p / n < xs.length := (Nat.div_lt_iff_lt_mul hn).mpr h
    show some (atD xs (((0 : Int) + (p : Int) * 1).toNat / n)) = _
    rw [show ((0 : Int) + (p : Int) * 1).toNat = p by omega]
    unfold atD
    rw [List.getElem?_eq_getElem h2]; rfl
  · rw [List.getElem?_eq_none (by rw [List.length_range]; omega), List.getElem?_eq_none (by
      have := (Nat.le_div_iff_mul_le hn).mpr (show xs.length * n ≤ p by omega)
      exact this)]
    rfl
def reG (xs : List D) : D → D
  | .int i => atD xs i.toNat
  | _ => .none
theorem step_lt {len n m : Nat} (hn : 0 < n) (h : m < (len + n - 1) / n) : m * n < len := by
  have := (Nat.le_div_iff_mul_le hn).mp (Nat.succ_le_of_lt h)
  rw [Nat.succ_mul] at this
  omega
theorem step_map (n : Nat) (hn : 0 < n) (xs : List D) : (rangeD 0 ((xs.length + n - 1) / n) n).map (reG xs) = stepL n xs := by
  unfold stepL rangeD
  rw [List.map_map]
  have : ∀ l : List Nat, (∀ m ∈ l, m * n < xs.length) → l.map (reG xs ∘ fun (i : Nat) => PyData.int (0 + (i : Int) * (n : Int))) = l.filterMap fun m => xs[m * n]? := by
    intro l
    induction l with
    | nil => intro _; rfl
    | cons m l ih =>
      intro h
      have hm := h m List.mem_cons_self
      rw [List.map_cons, ih fun y hy => h y (List.mem_cons_of_mem _ hy), List.filterMap_cons, List.getElem?_eq_getElem hm]
      show atD xs ((0 + (m : Int) * (n : Int)).toNat) :: _ = _
      rw [show (0 + (m : Int) * (n : Int)).toNat = m * n by rw [Int.zero_add, ← Int.natCast_mul]; rfl]
      unfold atD
      rw [List.getElem?_eq_getElem hm]; rfl
  exact this _ fun m hm => step_lt hn (List.mem_range.mp hm)
theorem wt_turn (e : Ed) : cmpX .Eq (.str (wd e)) (.str "turn") = some (decide (kd e = 0)) := (c_eq (a := .str (wd e)) (b := .str (wdK 0)) (wd_sh e) (wdK_sh 0)).trans (congrArg some (wdK_eqv (kd e) 0))
theorem wt_flip (e : Ed) : cmpX .Eq (.str (wd e)) (.str "flip") = some (decide (kd e = 1)) := (c_eq (a := .str (wd e)) (b := .str (wdK 1)) (wd_sh e) (wdK_sh 1)).trans (congrArg some (wdK_eqv (kd e) 1))
theorem wt_trim (e : Ed) : cmpX .Eq (.str (wd e)) (.str "trim") = some (decide (kd e = 2)) := (c_eq (a := .str (wd e)) (b := .str (wdK 2)) (wd_sh e) (wdK_sh 2)).trans (congrArg some (wdK_eqv (kd e) 2))
theorem wt_pad (e : Ed) : cmpX .Eq (.str (wd e)) (.str "pad") = some (decide (kd e = 3)) := (c_eq (a := .str (wd e)) (b := .str (wdK 3)) (wd_sh e) (wdK_sh 3)).trans (congrArg some (wdK_eqv (kd e) 3))
theorem wt_corner (e : Ed) : cmpX .Eq (.str (wd e)) (.str "corner") = some (decide (kd e = 4)) := (c_eq (a := .str (wd e)) (b := .str (wdK 4)) (wd_sh e) (wdK_sh 4)).trans (congrArg some (wdK_eqv (kd e) 4))
theorem wt_enlarge (e : Ed) : cmpX .Eq (.str (wd e)) (.str "enlarge") = some (decide (kd e = 5)) := (c_eq (a := .str (wd e)) (b := .str (wdK 5)) (wd_sh e) (wdK_sh 5)).trans (congrArg some (wdK_eqv (kd e) 5))
theorem wt_reduce (e : Ed) : cmpX .Eq (.str (wd e)) (.str "reduce") = some (decide (kd e = 6)) := (c_eq (a := .str (wd e)) (b := .str (wdK 6)) (wd_sh e) (wdK_sh 6)).trans (congrArg some (wdK_eqv (kd e) 6))
local macro_rules | `(tactic| law_purse 19 => $t) => `(tactic| (with_reducible first | exact wt_turn _ | exact wt_flip _ | exact wt_trim _ | exact wt_pad _ | exact wt_corner _ | exact wt_enlarge _ | exact wt_reduce _))
theorem way_sh (dn : Bool) : sh (way dn) = true := by cases dn <;> decide +kernel
theorem way_a (dn : Bool) : cmpX .Eq (way dn) (.str "across") = some (!dn) := by rw [c_eq (way_sh dn) (by decide +kernel)]; cases dn <;> decide +kernel
theorem way_d (dn : Bool) : cmpX .Eq (way dn) (.str "down") = some dn := by rw [c_eq (way_sh dn) (by decide +kernel)]; cases dn <;> decide +kernel
/-! ### the text in parts -/
def s_ln : S := (.ite (.and (.cmp .Eq (.var 6) (.kS "flip")) (.cmp .Eq (.idx (.var 3) (.kI 1)) (.idx (.lst (.cons (.kS "across") (.cons (.kS "down") .nil))) (.var 8)))) (.set 9 (.rev (.var 9))) (.ite (.cmp .Eq (.var 6) (.kS "pad")) (.set 9 (.bin .Add (.bin .Add (.bin .Mult (.lst (.cons .kN .nil)) (.idx (.var 3) (.bin .Add (.kI 1) (.var 8)))) (.var 9)) (.bin .Mult (.lst (.cons .kN .nil)) (.idx (.var 3) (.bin .Add (.kI 3) (.var 8)))))) (.ite (.cmp .Eq (.var 6) (.kS "trim")) (.seq (.set 9 (.slice (.var 9) (.pE (.idx (.var 3) (.bin .Add (.kI 1) (.var 8)))) .pN)) (.set 9 (.slice (.var 9) .pN (.pE (.b2 .max (.kI 0) (.bin .Sub (.b1 .len (.var 9)) (.idx (.var 3) (.bin .Add (.kI 3) (.var 8))))))))) (.ite (.cmp .Eq (.var 6) (.kS "corner")) (.set 9 (.slice (.var 9) .pN (.pE (.idx (.var 3) (.bin .Add (.kI 1) (.var 8)))))) (.ite (.cmp .Eq (.var 6) (.kS "enlarge")) (.set 9 (.comp [10] (.one 10) (.range1 (.bin .Mult (.b1 .len (.var 9)) (.idx (.var 3) (.kI 1)))) (.kB true) (.idx (.var 9) (.bin .FloorDiv (.var 10) (.idx (.var 3) (.kI 1)))))) (.ite (.cmp .Eq (.var 6) (.kS "reduce")) (.set 9 (.comp [10] (.one 10) (.range3 (.kI 0) (.b1 .len (.var 9)) (.idx (.var 3) (.kI 1))) (.kB true) (.idx (.var 9) (.var 10)))) .skip))))))
def s_at : S := (.seq (.set 9 (.ownIdx 4 (.var 8))) (.ite (.cmp .IsNot (.var 9) .kN) (.seq s_ln (.put 4 (.var 8) (.ite (.cmp .NotEq (.var 9) (.lst .nil)) (.var 9) .kN))) .skip))
def s_turn : S := (.seq (.setO 4 (.lst (.cons (.ite (.cmp .Is (.ownIdx 4 (.kI 1)) .kN) .kN (.rev (.ownIdx 4 (.kI 1)))) (.cons (.ownIdx 4 (.kI 0)) .nil)))) (.set 5 (.not (.var 5))))
def s_edit : S := (.seq (.set 6 (.idx (.var 3) (.kI 0))) (.seq (.for_ (.one 7) (.range1 (.ite (.cmp .Eq (.var 6) (.kS "turn")) (.idx (.var 3) (.kI 1)) (.kI 0))) s_turn) (.for_ (.one 8) (.range1 (.ite (.cmp .Eq (.var 6) (.kS "turn")) (.kI 0) (.kI 2))) s_at)))
theorem law_lines_eq : t_law_lines = .seq (.parO 4 (.lst (.cons (.listOf (.range1 (.var 0))) (.cons (.listOf (.range1 (.var 1))) .nil))) 5 (.kB false)) (.seq (.for_ (.one 3) (.seq (.var 2)) s_edit) (.ret (.ite (.truth (.var 5)) (.tup (.cons (.ownIdx 4 (.kI 1)) (.cons (.ownIdx 4 (.kI 0)) (.cons (.var 5) .nil)))) (.tup (.cons (.ownIdx 4 (.kI 0)) (.cons (.ownIdx 4 (.kI 1)) (.cons (.var 5) .nil))))))) := rfl
section
variable {Φ : Phi} {Γ : Str → Option D}
theorem ln_ok {e : Ed} {a : Bool} {xs : List D} {s0 s1 s2 s4 s5 s7 : Sl} {Q : Out → Env → Prop} (he : e.ok) (hT : e.isT = false) (hl : xs.length ≤ 5000000)
    (hq : Q .nx [s0, s1, s2, .val e.d, s4, s5, .val (.str (wd e)), s7, .val (.int (ixB a)), .val (.list (lineE e a xs)), .non]) :
    Ends Φ Γ s_ln [s0, s1, s2, .val e.d, s4, s5, .val (.str (wd e)), s7, .val (.int (ixB a)), .val (.list xs), .non] Q := by
  unfold s_ln
  cases e with
  | turn q => cases hT
  | flip dn =>
    by_cases hd : dn = a
    · have hq' : lineE (.flip dn) a xs = xs.reverse := if_pos hd
      rw [hq'] at hq
      apply en_iteT
      · apply ev_and
        · (law_purse 1 => (law_purse 19 => fail))
        · intro _
          show ev Φ Γ _ _ = some (.bool true, _)
          cases dn <;> cases a <;> first | (cases hd; done) | (law_purse 1 => first | exact way_a _ | exact way_d _)
      · exact rfl
      · (law_purse 2 => fail)
        try exact hq
    · have hq' : lineE (.flip dn) a xs = xs := if_neg hd
      rw [hq'] at hq
      apply en_iteF
      · apply ev_and
        · (law_purse 1 => (law_purse 19 => fail))
        · intro _
          show ev Φ Γ _ _ = some (.bool false, _)
          cases dn <;> cases a <;> first | (exact absurd rfl hd) | (law_purse 1 => first | exact way_a _ | exact way_d _)
      · exact rfl
      · (law_purse 2 => (law_purse 19 => fail))
        try exact hq
  | pad l t r b =>
    obtain ⟨h1, h2, h3, h4⟩ := he
    apply en_iteF
    · apply ev_andF
      · (law_purse 1 => (law_purse 19 => fail))
      · exact rfl
    · exact rfl
    cases a
    · (law_purse 2 => first | (law_purse 19 => fail) | exact o_mulL (n := l) (by simp; omega) (by omega) | exact o_mulL (n := r) (by simp; omega) (by omega) | exact o_addL (by simp [flat1]; omega))
      rw [flat1, flat1]
      try exact hq
    · (law_purse 2 => first | (law_purse 19 => fail) | exact o_mulL (n := t) (by simp; omega) (by omega) | exact o_mulL (n := b) (by simp; omega) (by omega) | exact o_addL (by simp [flat1]; omega))
      rw [flat1, flat1]
      try exact hq
  | trim l t r b =>
    apply en_iteF
    · apply ev_andF
      · (law_purse 1 => (law_purse 19 => fail))
      · exact rfl
    · exact rfl
    have key : ∀ f k : Nat, sliceD (.list (xs.drop f)) none (some (if ((xs.drop f).length : Int) - (k : Int) > 0 then ((xs.drop f).length : Int) - (k : Int) else 0)) = some (.list ((xs.drop f).take (xs.length - f - k))) := fun f k => by
      have e : (if ((xs.drop f).length : Int) - (k : Int) > 0 then ((xs.drop f).length : Int) - (k : Int) else 0) = ((xs.length - f - k : Nat) : Int) := by
        rw [List.length_drop]; split <;> omega
      rw [e]
      show some (PyData.list (cutL _ _ _)) = _
      rw [cut_b]
    have key0 : ∀ f : Nat, sliceD (.list xs) (some (f : Int)) none = some (.list (xs.drop f)) := fun f => by
      show some (PyData.list (cutL _ _ _)) = _
      rw [cut_f]
    cases a
    · (law_purse 2 => first | (law_purse 19 => fail) | exact key0 l | exact key l r)
      try exact hq
    · (law_purse 2 => first | (law_purse 19 => fail) | exact key0 t | exact key t b)
      try exact hq
  | corner w h =>
    apply en_iteF
    · apply ev_andF
      · (law_purse 1 => (law_purse 19 => fail))
      · exact rfl
    · exact rfl
    have key : ∀ f : Nat, sliceD (.list xs) none (some (f : Int)) = some (.list (xs.take f)) := fun f => by
      show some (PyData.list (cutL _ _ _)) = _
      rw [cut_b]
    cases a
    · (law_purse 2 => first | (law_purse 19 => fail) | exact key w)
      try exact hq
    · (law_purse 2 => first | (law_purse 19 => fail) | exact key h)
      try exact hq
  | enlarge n =>
    have hn : 0 < n ∧ n ≤ 3 := by rcases he with rfl | rfl <;> omega
    have hx : xs.length * n ≤ xs.length * 3 := Nat.mul_le_mul_left _ hn.2
    apply en_iteF
    · apply ev_andF
      · (law_purse 1 => (law_purse 19 => fail))
      · exact rfl
    · exact rfl
    have hcomp : ev Φ Γ (.comp [10] (.one 10) (.range1 (.bin .Mult (.b1 .len (.var 9)) (.idx (.var 3) (.kI 1)))) (.kB true) (.idx (.var 9) (.bin .FloorDiv (.var 10) (.idx (.var 3) (.kI 1))))) [s0, s1, s2, .val (Ed.enlarge n).d, s4, s5, .val (.str (wd (Ed.enlarge n))), s7, .val (.int (ixB a)), .val (.list xs), .non] = some (.list (xs.flatMap (List.replicate n)), [s0, s1, s2, .val (Ed.enlarge n).d, s4, s5, .val (.str (wd (Ed.enlarge n))), s7, .val (.int (ixB a)), .val (.list xs), .non]) := by
      rw [← flat_map n hn.1]
      apply ev_compM (ds := rangeD 0 (xs.length * n) 1) (enG xs n)
      · have e : (xs.length : Int) * (n : Int) = ((xs.length * n : Nat) : Int) := (Int.natCast_mul _ _).symm
        have := ei_r1 (Φ := Φ) (Γ := Γ) (a := .bin .Mult (.b1 .len (.var 9)) (.idx (.var 3) (.kI 1))) (j := ((xs.length * n : Nat) : Int)) (ρ := [s0, s1, s2, .val (Ed.enlarge n).d, s4, s5, .val (.str (wd (Ed.enlarge n))), s7, .val (.int (ixB a)), .val (.list xs), .non]) (by rw [← e]; (law_purse 1 => fail)) (by omega)
        exact this
      · exact rfl
      · rw [range_len, size_eq]; omega
      · exact rfl
      intro d hd
      unfold rangeD at hd
      rw [List.mem_map] at hd
      obtain ⟨p, hp, rfl⟩ := hd
      have hp := List.mem_range.mp hp
      refine ⟨_, rfl, ?_⟩
      have h2 : p / n < xs.length := (Nat.div_lt_iff_lt_mul hn.1).mpr hp
      have hg : enG xs n (.int (0 + (p : Int) * 1)) = xs[p / n] := by
        show atD xs (((0 : Int) + (p : Int) * 1).toNat / n) = _
        rw [show ((0 : Int) + (p : Int) * 1).toNat = p by omega]
        unfold atD
        rw [List.getElem?_eq_getElem h2]; rfl
      have hix : idxD (.list xs) (.int ((0 + (p : Int) * 1) / (n : Int))) = some xs[p / n] := by
        rw [show (0 + (p : Int) * 1) / (n : Int) = ((p / n : Nat) : Int) by rw [Int.zero_add, Int.mul_one]; rfl]
        exact atI_nat' (List.getElem?_eq_getElem h2)
      rw [hg]
      apply ee
      · (law_purse 1 => exact hix)
      · exact rfl
    (law_purse 2 => first | (law_purse 19 => fail) | (with_reducible exact hcomp))
    try exact hq
  | reduce n =>
    rw [show lineE (.reduce n) a xs = stepL n xs from rfl] at hq
    have hn : 0 < n ∧ n ≤ 3 := by rcases he with rfl | rfl <;> omega
    apply en_iteF
    · apply ev_andF
      · (law_purse 1 => (law_purse 19 => fail))
      · exact rfl
    · exact rfl
    have hcomp : ev Φ Γ (.comp [10] (.one 10) (.range3 (.kI 0) (.b1 .len (.var 9)) (.idx (.var 3) (.kI 1))) (.kB true) (.idx (.var 9) (.var 10))) [s0, s1, s2, .val (Ed.reduce n).d, s4, s5, .val (.str (wd (Ed.reduce n))), s7, .val (.int (ixB a)), .val (.list xs), .non] = some (.list (stepL n xs), [s0, s1, s2, .val (Ed.reduce n).d, s4, s5, .val (.str (wd (Ed.reduce n))), s7, .val (.int (ixB a)), .val (.list xs), .non]) := by
      rw [← step_map n hn.1]
      have hle : (xs.length + n - 1) / n ≤ xs.length := by
        rw [Nat.div_le_iff_le_mul_add_pred hn.1]
        have : xs.length * 1 ≤ n * xs.length := by rw [Nat.mul_comm]; exact Nat.mul_le_mul_right _ hn.1
        omega
      apply ev_compM (ds := rangeD 0 ((xs.length + n - 1) / n) n) (reG xs)
      · have e : rangeN 0 (xs.length : Int) (n : Int) = (xs.length + n - 1) / n := by
          unfold rangeN
          rw [show ((xs.length : Int) - 0 + (n : Int) - 1) = ((xs.length + n - 1 : Nat) : Int) by omega]
          rfl
        rw [← e]
        exact ei_r3 ev_kI (ev_b1 (ev_var rfl) rfl) (ev_idx (ev_var rfl) ev_kI rfl) (by omega) (by omega) (by omega)
      · exact rfl
      · rw [range_len, size_eq]; omega
      · exact rfl
      intro d hd
      unfold rangeD at hd
      rw [List.mem_map] at hd
      obtain ⟨p, hp, rfl⟩ := hd
      have hp := step_lt hn.1 (List.mem_range.mp hp)
      refine ⟨_, rfl, ?_⟩
      have hcast : (0 : Int) + (p : Int) * (n : Int) = ((p * n : Nat) : Int) := by rw [Int.zero_add, Int.natCast_mul]
      rw [hcast]
      have hg : reG xs (.int ((p * n : Nat) : Int)) = xs[p * n] := by
        show atD xs (p * n) = _
        unfold atD
        rw [List.getElem?_eq_getElem hp]; rfl
      have hix : idxD (.list xs) (.int ((p * n : Nat) : Int)) = some xs[p * n] := atI_nat' (List.getElem?_eq_getElem hp)
      rw [hg]
      apply ee
      · (law_purse 1 => exact hix)
      · exact rfl
    apply en_iteF
    · (law_purse 1 => (law_purse 19 => fail))
    · exact rfl
    apply en_iteF
    · (law_purse 1 => (law_purse 19 => fail))
    · exact rfl
    apply en_iteF
    · (law_purse 1 => (law_purse 19 => fail))
    · exact rfl
    apply en_iteF
    · (law_purse 1 => (law_purse 19 => fail))
    · exact rfl
    apply en_iteT
    · (law_purse 1 => (law_purse 19 => fail))
    · exact rfl
    apply en_set
    · exact hcomp
    · exact rfl
    exact hq
end

/-! Py9: the law's own lines are the program's. -/
open PySem
section
variable {Φ : Phi} {Γ : Str → Option D} {ρ ρ1 : Env} {Q : Out → Env → Prop}
def EndsL (Φ : Phi) (Γ : Str → Option D) (tg : Tg) (body : S) (ds : List D) (ρ : Env) (Q : Out → Env → Prop) : Prop := ∃ o ρ', forLoop tg (evS Φ Γ body) ds ρ = some (o, ρ') ∧ Q o ρ'
def lpQ (Φ : Phi) (Γ : Str → Option D) (tg : Tg) (body : S) (ds : List D) (Q : Out → Env → Prop) : Out → Env → Prop := fun o ρ => match o with
  | .nx => EndsL Φ Γ tg body ds ρ Q
  | .ret v => Q (.ret v) ρ
theorem en_forU {tg : Tg} {it : E} {body : S} {ds : List D} (h1 : evI Φ Γ it ρ = some (ds, ρ1)) (h : EndsL Φ Γ tg body ds ρ1 Q) : Ends Φ Γ (.for_ tg it body) ρ Q := by
  obtain ⟨o, ρ', e, q⟩ := h
  exact ⟨o, ρ', by rw [evS, sB, h1]; exact e, q⟩
theorem el0 {tg : Tg} {body : S} (h : Q .nx ρ) : EndsL Φ Γ tg body [] ρ Q := ⟨_, _, rfl, h⟩
theorem el1 {tg : Tg} {body : S} {d : D} {ds : List D} (h1 : bindT tg d ρ = some ρ1) (h : Ends Φ Γ body ρ1 (lpQ Φ Γ tg body ds Q)) : EndsL Φ Γ tg body (d :: ds) ρ Q := by
  obtain ⟨o, ρ2, e, q⟩ := h
  cases o with
  | nx =>
    obtain ⟨o2, ρ3, e2, q2⟩ := q
    exact ⟨o2, ρ3, by unfold forLoop; rw [h1]; simp only; rw [e]; exact e2, q2⟩
  | ret v => exact ⟨_, _, by unfold forLoop; rw [h1]; simp only; rw [e], q⟩
theorem lp_nx {tg : Tg} {body : S} {ds : List D} (h : EndsL Φ Γ tg body ds ρ Q) : lpQ Φ Γ tg body ds Q .nx ρ := h
def vb (x : Sl) : Prop := x = .non ∨ ∃ d, x = .val d
theorem vb_val (d : D) : vb (.val d) := .inr ⟨d, rfl⟩
def newL (e : Ed) (a : Bool) (l : Ln) : Ln := l.bind fun xs => kept (lineE e a xs)
theorem put_ln {e : Ed} {a : Bool} {xs : List D} {l0 l1 : D} {s0 s1 s2 s3 s5 s6 s7 : Sl} (h : Cells (lineE e a xs))
    (hq : Q .nx [s0, s1, s2, s3, .own (pick a [(kept (lineE e a xs)).d, l1] [l0, (kept (lineE e a xs)).d]), s5, s6, s7, .val (.int (ixB a)), .val (.list (lineE e a xs)), .non]) :
    Ends Φ Γ (.put 4 (.var 8) (.ite (.cmp .NotEq (.var 9) (.lst .nil)) (.var 9) .kN)) [s0, s1, s2, s3, .own [l0, l1], s5, s6, s7, .val (.int (ixB a)), .val (.list (lineE e a xs)), .non] Q := by
  generalize lineE e a xs = ys at h hq ⊢
  have hs := cells_sh h
  have hc : cmpX .NotEq (.list ys) (.list []) = some (!PyData.eqv (.list ys) (.list [])) := c_ne hs rfl
  rw [eqv_nilL] at hc
  cases a
  · by_cases hy : ys = []
    · have hk : kept ys = none := if_pos hy
      rw [hk] at hq
      apply en_put
      · apply ev_iteF
        · (law_purse 1 => exact hc)
        · rw [decide_eq_true hy]; rfl
        · (law_purse 1 => fail)
      · exact rfl
      · exact ev_var rfl
      · exact rfl
      · exact rfl
      · exact rfl
      exact hq
    · have hk : kept ys = some ys := if_neg hy
      rw [hk] at hq
      apply en_put
      · apply ev_iteT
        · (law_purse 1 => exact hc)
        · rw [decide_eq_false hy]; rfl
        · (law_purse 1 => fail)
      · exact rfl
      · exact ev_var rfl
      · exact rfl
      · exact rfl
      · exact rfl
      exact hq
  · by_cases hy : ys = []
    · have hk : kept ys = none := if_pos hy
      rw [hk] at hq
      apply en_put
      · apply ev_iteF
        · (law_purse 1 => exact hc)
        · rw [decide_eq_true hy]; rfl
        · (law_purse 1 => fail)
      · exact rfl
      · exact ev_var rfl
      · exact rfl
      · exact rfl
      · exact rfl
      exact hq
    · have hk : kept ys = some ys := if_neg hy
      rw [hk] at hq
      apply en_put
      · apply ev_iteT
        · (law_purse 1 => exact hc)
        · rw [decide_eq_false hy]; rfl
        · (law_purse 1 => fail)
      · exact rfl
      · exact ev_var rfl
      · exact rfl
      · exact rfl
      · exact rfl
      exact hq
theorem at_ok {e : Ed} {a : Bool} {l0 l1 : Ln} {s0 s1 s2 s5 s7 x : Sl} (he : e.ok) (hT : e.isT = false) (h : LnOk 5000000 (pick a l0 l1)) (hx : vb x)
    (hq : ∀ x, vb x → Q .nx [s0, s1, s2, .val e.d, .own (pick a [(newL e a l0).d, l1.d] [l0.d, (newL e a l1).d]), s5, .val (.str (wd e)), s7, .val (.int (ixB a)), x, .non]) :
    Ends Φ Γ s_at [s0, s1, s2, .val e.d, .own [l0.d, l1.d], s5, .val (.str (wd e)), s7, .val (.int (ixB a)), x, .non] Q := by
  unfold s_at
  have main : ∀ (l : Ln), LnOk 5000000 l → (∀ x, vb x → Q .nx [s0, s1, s2, .val e.d, .own (pick a [(newL e a l).d, l1.d] [l0.d, (newL e a l).d]), s5, .val (.str (wd e)), s7, .val (.int (ixB a)), x, .non]) → (pick a l0 l1 = l) →
      Ends Φ Γ (.seq (.set 9 (.ownIdx 4 (.var 8))) (.ite (.cmp .IsNot (.var 9) .kN) (.seq s_ln (.put 4 (.var 8) (.ite (.cmp .NotEq (.var 9) (.lst .nil)) (.var 9) .kN))) .skip)) [s0, s1, s2, .val e.d, .own [l0.d, l1.d], s5, .val (.str (wd e)), s7, .val (.int (ixB a)), x, .non] Q := by
    intro l hl hq hp
    apply en_seq
    apply en_set (d := l.d)
    · apply ev_ownIdx
      · exact rfl
      · exact ev_var rfl
      · exact rfl
      · rw [← hp]; cases a <;> exact rfl
    · rcases hx with rfl | ⟨d, rfl⟩ <;> exact rfl
    apply sq_nx
    cases l with
    | none =>
      apply en_iteF
      · (law_purse 1 => fail)
      · exact rfl
      apply en_skip
      have := hq (.val .none) (vb_val _)
      cases a
      · subst hp; exact this
      · subst hp; exact this
    | some xs =>
      obtain ⟨x1, x2, _⟩ := hl xs rfl
      apply en_iteT
      · (law_purse 1 => fail)
      · exact rfl
      apply en_seq
      refine ln_ok he hT x2 ?_
      apply sq_nx
      exact put_ln (lineE_cells e a xs x1) (hq _ (vb_val _))
  cases a
  · exact main l0 h hq rfl
  · exact main l1 h hq rfl
theorem turn_ok {l0 l1 : Ln} {b : Bool} {s0 s1 s2 s3 s6 s7 s8 s9 s10 : Sl}
    (hq : Q .nx [s0, s1, s2, s3, .own [(rv l1).d, l0.d], .val (.bool (!b)), s6, s7, s8, s9, s10]) :
    Ends Φ Γ s_turn [s0, s1, s2, s3, .own [l0.d, l1.d], .val (.bool b), s6, s7, s8, s9, s10] Q := by
  unfold s_turn
  cases l1 with
  | none =>
    (law_purse 2 => fail)
    try exact hq
  | some ys =>
    (law_purse 2 => fail)
    try exact hq
/-- one edit of the law's own -/
theorem edit_ok {e : Ed} {l0 l1 : Ln} {b : Bool} {s0 s1 s2 x6 x7 x8 x9 : Sl} (he : e.ok) (h0 : LnOk 5000000 l0) (h1 : LnOk 5000000 l1) (h6 : vb x6) (h7 : vb x7) (h8 : vb x8) (h9 : vb x9)
    (hq : ∀ x6 x7 x8 x9, vb x6 → vb x7 → vb x8 → vb x9 → Q .nx [s0, s1, s2, .val e.d, .own [(stepA e (l0, l1, b)).1.d, (stepA e (l0, l1, b)).2.1.d], .val (.bool (stepA e (l0, l1, b)).2.2), x6, x7, x8, x9, .non]) :
    Ends Φ Γ s_edit [s0, s1, s2, .val e.d, .own [l0.d, l1.d], .val (.bool b), x6, x7, x8, x9, .non] Q := by
  unfold s_edit
  apply en_seq
  apply en_set
  · (law_purse 1 => exact ed_idx0 e)
  · rcases h6 with rfl | ⟨d, rfl⟩ <;> exact rfl
  apply sq_nx
  apply en_seq
  have hb7 : ∀ {t0 t1 t2 t3 t4 t5 t6 t8 t9 t10 : Sl} {d : D}, bindT (.one 7) d [t0, t1, t2, t3, t4, t5, t6, x7, t8, t9, t10] = some [t0, t1, t2, t3, t4, t5, t6, .val d, t8, t9, t10] := by
    intros; rcases h7 with rfl | ⟨d, rfl⟩ <;> exact rfl
  have hb8 : ∀ {t0 t1 t2 t3 t4 t5 t6 t7 t9 t10 : Sl} {d : D}, bindT (.one 8) d [t0, t1, t2, t3, t4, t5, t6, t7, x8, t9, t10] = some [t0, t1, t2, t3, t4, t5, t6, t7, .val d, t9, t10] := by
    intros; rcases h8 with rfl | ⟨d, rfl⟩ <;> exact rfl
  by_cases hT : e.isT = true
  · cases e with
    | turn q =>
      have hq3 : q = 1 ∨ q = 2 ∨ q = 3 := by have := he.1; have := he.2; omega
      have hr : evI Φ Γ (.range1 (.ite (.cmp .Eq (.var 6) (.kS "turn")) (.idx (.var 3) (.kI 1)) (.kI 0))) [s0, s1, s2, .val (Ed.turn q).d, .own [l0.d, l1.d], .val (.bool b), .val (.str (wd (.turn q))), x7, x8, x9, .non] = some (rangeD 0 q 1, [s0, s1, s2, .val (Ed.turn q).d, .own [l0.d, l1.d], .val (.bool b), .val (.str (wd (.turn q))), x7, x8, x9, .non]) := by
        refine ei_r1 (j := (q : Int)) ?_ (by omega)
        apply ev_iteT
        · (law_purse 1 => (law_purse 19 => fail))
        · exact rfl
        · (law_purse 1 => fail)
      have fin : ∀ {l : Ln × Ln × Bool} {y7 : Sl}, vb y7 → stepA (.turn q) (l0, l1, b) = l → seqQ Φ Γ (.for_ (.one 8) (.range1 (.ite (.cmp .Eq (.var 6) (.kS "turn")) (.kI 0) (.kI 2))) s_at) Q .nx [s0, s1, s2, .val (Ed.turn q).d, .own [l.1.d, l.2.1.d], .val (.bool l.2.2), .val (.str (wd (.turn q))), y7, x8, x9, .non] := by
        intro l y7 hy e1
        apply sq_nx
        apply en_forU (ds := [])
        · apply ei_r1 (j := 0) (hj := by omega)
          apply ev_iteT
          · (law_purse 1 => (law_purse 19 => fail))
          · exact rfl
          · (law_purse 1 => fail)
        apply el0
        rw [← e1]
        exact hq _ _ _ _ (vb_val _) hy h8 h9
      rcases hq3 with rfl | rfl | rfl
      · apply en_forU hr
        apply el1
        · exact hb7
        apply turn_ok
        apply lp_nx
        apply el0
        exact fin (l := (rv l1, l0, !b)) (vb_val _) rfl
      · apply en_forU hr
        apply el1
        · exact hb7
        apply turn_ok
        apply lp_nx
        apply el1
        · exact rfl
        apply turn_ok
        apply lp_nx
        apply el0
        exact fin (l := (rv l0, rv l1, !!b)) (vb_val _) (by unfold stepA; simp)
      · apply en_forU hr
        apply el1
        · exact hb7
        apply turn_ok
        apply lp_nx
        apply el1
        · exact rfl
        apply turn_ok
        apply lp_nx
        apply el1
        · exact rfl
        apply turn_ok
        apply lp_nx
        apply el0
        have rr : ∀ l : Ln, rv (rv l) = l := fun l => by cases l with
          | none => rfl
          | some xs => show some _ = some _; rw [List.reverse_reverse]
        exact fin (l := (rv (rv l1), rv l0, !!!b)) (vb_val _) (by unfold stepA; rw [rr]; simp)
    | _ => cases hT
  · have hT : e.isT = false := by simpa using hT
    have hk : decide (kd e = 0) = false := by rw [← isT_kd]; exact hT
    have hc : cmpX .Eq (.str (wd e)) (.str "turn") = some false := by rw [wt_turn, hk]
    apply en_forU (ds := [])
    · apply ei_r1 (j := 0) (hj := by omega)
      apply ev_iteF
      · (law_purse 1 => exact hc)
      · exact rfl
      · (law_purse 1 => fail)
    apply el0
    apply sq_nx
    apply en_forU (ds := [.int 0, .int 1])
    · apply ei_r1 (j := 2) (hj := by omega)
      apply ev_iteF
      · (law_purse 1 => exact hc)
      · exact rfl
      · (law_purse 1 => fail)
    apply el1
    · exact hb8
    refine at_ok (a := false) he hT h0 h9 fun y hy => ?_
    apply lp_nx
    apply el1
    · exact rfl
    refine at_ok (a := true) (l0 := newL e false l0) he hT h1 hy fun z hz => ?_
    apply lp_nx
    apply el0
    rw [stepA_line hT] at hq
    exact hq _ _ _ _ (vb_val _) h7 (vb_val _) hz
def ownL (x : Ln × Ln × Bool) : Ln × Ln × Bool := if x.2.2 then (x.2.1, x.1, x.2.2) else x
def SpLawLines (F : FSem) : Prop := ∀ (w h : Nat) (s : Stk), s.ok → Fit w h s → F [.val (.int w), .val (.int h), .val s.d] = some (.tuple [(ownL (linesA w h s)).1.d, (ownL (linesA w h s)).2.1.d, .bool (linesA w h s).2.2], [.val (.int w), .val (.int h), .val s.d])
theorem sp_lawlines : SpLawLines (runF Φ Γ 3 11 t_law_lines) := by
  intro w h s hs ⟨hw, hh, m, hm1, hm2, hb⟩
  refine runF_of rfl ?_
  rw [law_lines_eq]
  have hm : m ≤ 5000000 := by
    have : 1 * (m + 3) ≤ 3 ^ s.length * (m + 3) := Nat.mul_le_mul_right _ (Nat.pos_of_ne_zero (by simp))
    omega
  apply en_seq
  have hrw : ev Φ Γ (.lst (.cons (.listOf (.range1 (.var 0))) (.cons (.listOf (.range1 (.var 1))) .nil))) ([Sl.val (PyData.int w), .val (.int h), .val s.d] ++ List.replicate (11 - 3) Sl.non) = some (.list [(idL w).d, (idL h).d], [Sl.val (PyData.int w), .val (.int h), .val s.d] ++ List.replicate (11 - 3) Sl.non) :=
    ev_lst (el_cons (ev_listOf (ds := rangeD 0 w 1) (ei_r1 (j := (w : Int)) (ev_var rfl) (by omega)) (by rw [range_len, size_eq]; omega)) (el_cons (ev_listOf (ds := rangeD 0 h 1) (ei_r1 (j := (h : Int)) (ev_var rfl) (by omega)) (by rw [range_len, size_eq]; omega)) el_nil)) (len_dec (n := 2) rfl rfl)
  apply en_parO (ds := [(idL w).d, (idL h).d]) (y := .bool false)
  · exact hrw
  · exact ev_kB
  · exact rfl
  · exact rfl
  apply sq_nx
  apply en_seq
  refine en_for (ds := s.map Ed.d) (fun i ρ => ∃ x3 x6 x7 x8 x9 : Sl, vb x3 ∧ vb x6 ∧ vb x7 ∧ vb x8 ∧ vb x9 ∧ ρ = [.val (.int w), .val (.int h), .val s.d, x3, .own [(runA (s.take i) (idL w, idL h, false)).1.d, (runA (s.take i) (idL w, idL h, false)).2.1.d], .val (.bool (runA (s.take i) (idL w, idL h, false)).2.2), x6, x7, x8, x9, .non]) (ei_seq (ev_var rfl) rfl) ⟨.non, .non, .non, .non, .non, .inl rfl, .inl rfl, .inl rfl, .inl rfl, .inl rfl, rfl⟩ (fun i d ρ hd hi => ?_) (fun ρ hρ => ?_)
  · obtain ⟨x3, x6, x7, x8, x9, h3, h6, h7, h8, h9, rfl⟩ := hi
    rw [List.getElem?_map] at hd
    obtain ⟨e, he, rfl⟩ := Option.map_eq_some_iff.mp hd
    have heo : e.ok := hs e (List.mem_of_getElem? he)
    have hi : i < s.length := (List.getElem?_eq_some_iff.mp he).1
    have ok := runA_ok (s.take i) m (idL w, idL h, false) (take_ok hs i) (idL_ok hw hm1) (idL_ok hh hm2)
    have hlen : 3 ^ (s.take i).length * (m + 3) - 3 ≤ 5000000 := by
      have : 3 ^ (s.take i).length * (m + 3) ≤ 3 ^ s.length * (m + 3) := pow_mono3 (by rw [List.length_take]; omega)
      omega
    rw [runA_take he]
    generalize hx : runA (s.take i) (idL w, idL h, false) = x at ok ⊢
    obtain ⟨c, r, sw⟩ := x
    refine ⟨[.val (.int w), .val (.int h), .val s.d, .val e.d, .own [c.d, r.d], .val (.bool sw), x6, x7, x8, x9, .non], by rcases h3 with rfl | ⟨d, rfl⟩ <;> rfl, ?_⟩
    refine edit_ok heo (ok.1.mono hlen) (ok.2.mono hlen) h6 h7 h8 h9 fun y6 y7 y8 y9 g6 g7 g8 g9 => ?_
    exact ⟨_, y6, y7, y8, y9, vb_val _, g6, g7, g8, g9, rfl⟩
  · obtain ⟨x3, x6, x7, x8, x9, h3, h6, h7, h8, h9, rfl⟩ := hρ
    rw [List.length_map, List.take_length]
    apply sq_nx
    unfold linesA
    generalize runA s (idL w, idL h, false) = x
    obtain ⟨c, r, sw⟩ := x
    clear hb hm hm1 hm2
    cases sw
    · apply en_ret
      · apply ev_iteF
        · (law_purse 1 => fail)
        · exact rfl
        · (law_purse 1 => fail)
      · exact ⟨rfl, rfl⟩
    · apply en_ret
      · apply ev_iteT
        · (law_purse 1 => fail)
        · exact rfl
        · (law_purse 1 => fail)
      · exact ⟨rfl, rfl⟩
end

/-! Py10: the law k04. -/
open PySem
theorem setV_vb {i : Nat} {d : D} {ρ : Env} {x : Sl} (h : ρ[i]? = some x) (hx : vb x) : setV i d ρ = some (ρ.set i (.val d)) := by
  unfold setV
  rw [h]
  rcases hx with rfl | ⟨d, rfl⟩ <;> rfl
theorem sv_nil {ρ : Env} : setVs [] [] ρ = some ρ := rfl
theorem sv_cons {i : Nat} {is : List Nat} {d : D} {ds : List D} {ρ ρ1 ρ2 : Env} (h : setV i d ρ = some ρ1) (h2 : setVs is ds ρ1 = some ρ2) : setVs (i :: is) (d :: ds) ρ = some ρ2 := by
  unfold setVs
  rw [h]; exact h2
theorem sv_many {is : List Nat} {ds : List D} {ρ ρ1 : Env} (h : setVs is ds ρ = some ρ1) : bindT (.many is) (.tuple ds) ρ = some ρ1 := h
theorem sv_one {i : Nat} {d : D} {ρ ρ1 : Env} (h : setV i d ρ = some ρ1) : bindT (.one i) d ρ = some ρ1 := h
local macro_rules | `(tactic| law_purse 18 => $t) => `(tactic| (repeat' (first | (with_reducible first | exact sv_nil | apply sv_many | apply sv_one | apply sv_cons) | exact setV_vb rfl (by assumption) | exact setV_vb rfl (vb_val _))))
theorem unlike_ok {w h : Nat} (hw : 0 < w) (hh : 0 < h) : PcOk w h (unlike w h) := ⟨hw, hh, by unfold unlike; simp, fun row hr => by
  unfold unlike at hr
  rw [List.mem_map] at hr
  obtain ⟨r, _, rfl⟩ := hr
  simp⟩
theorem unlike_at {w h i j : Nat} (hi : i < h) (hj : j < w) : at2 (unlike w h) i j = .int ((w * i + j : Nat) : Int) := by
  unfold at2 unlike
  rw [List.getElem?_map, List.getElem?_range hi]
  simp only [Option.map_some, Option.getD_some]
  rw [List.getElem?_map, List.getElem?_range hj]
  rfl
def dueD (w : Nat) : D → D → D
  | .int a, .int b => .int (w * b + a)
  | _, _ => .none
/-- what stands in a picture of unlike pixels -/
theorem pix_unlike {w h : Nat} {sw : Bool} {c r : D} (hc : InR (dimW sw w h) c) (hr : InR (dimW sw h w) r) : pixD (unlike w h) sw c r = if sw then dueD w r c else dueD w c r := by
  rcases hc with rfl | ⟨i, rfl, hi⟩
  · cases sw <;> cases r <;> rfl
  · rcases hr with rfl | ⟨j, rfl, hj⟩
    · cases sw <;> rfl
    · cases sw with
      | false =>
        have hi : i < w := hi
        have hj : j < h := hj
        show at2 (unlike w h) (j : Int).toNat (i : Int).toNat = PyData.int ((w : Int) * (j : Int) + (i : Int))
        rw [show (j : Int).toNat = j from rfl, show (i : Int).toNat = i from rfl, unlike_at hj hi, Int.natCast_add, Int.natCast_mul]
      | true =>
        have hi : i < h := hi
        have hj : j < w := hj
        show at2 (unlike w h) (i : Int).toNat (j : Int).toNat = PyData.int ((w : Int) * (i : Int) + (j : Int))
        rw [show (j : Int).toNat = j from rfl, show (i : Int).toNat = i from rfl, unlike_at hi hj, Int.natCast_add, Int.natCast_mul]
theorem dueD_cell (w : Nat) (a b : D) : cell (dueD w a b) := by
  unfold dueD
  split
  · exact .inr ⟨_, rfl⟩
  · exact .inl rfl
theorem cell_ne {d : D} (h : cell d) : cmpX .NotEq d d = some false := by
  obtain ⟨h1, h2⟩ := cell_pl h
  have hs : sh d = true := sh_of h1 (by omega)
  rw [c_ne hs hs, eqv_self d h1]; rfl
section
variable {Φ : Phi} {Γ : Str → Option D}
def s_k04b : S := (.seq (.setT (.many [15, 16]) (.ite (.truth (.var 9)) (.tup (.cons (.idx (.var 12) (.var 10)) (.cons (.idx (.var 11) (.var 13)) .nil))) (.tup (.cons (.idx (.var 11) (.var 13)) (.cons (.idx (.var 12) (.var 10)) .nil))))) (.seq (.set 14 (.ite (.or (.cmp .Is (.var 15) .kN) (.cmp .Is (.var 16) .kN)) .kN (.bin .Add (.bin .Mult (.var 5) (.var 16)) (.var 15)))) (.ite (.cmp .NotEq (.idx (.idx (.var 4) (.var 10)) (.var 13)) (.var 14)) (.ret (.kB false)) .skip)))
def s_k04i : S := (.for_ (.one 13) (.range1 (.b1 .len (.var 11))) s_k04b)
def s_k04l : S := (.for_ (.one 10) (.range1 (.b1 .len (.var 12))) s_k04i)
theorem k04_body {w h : Nat} {sw : Bool} {cs rs : List D} {told : Pc} {i j : Nat} {C R : D} {s0 s1 s2 s3 s6 s7 s8 x14 x15 x16 : Sl} {Q : Out → Env → Prop} (hw : w ≤ 100000) (ht : told = rs.map fun r => cs.map fun c => pixD (unlike w h) sw c r) (hC : cs[j]? = some C) (hR : rs[i]? = some R) (cC : InR (dimW sw w h) C) (cR : InR (dimW sw h w) R) (h14 : vb x14) (h15 : vb x15) (h16 : vb x16)
    (hq : ∀ x14 x15 x16, vb x14 → vb x15 → vb x16 → Q .nx [s0, s1, s2, s3, .val (picD told), .val (.int w), s6, s7, s8, .val (.bool sw), .val (.int i), .val (.list cs), .val (.list rs), .val (.int j), x14, x15, x16]) :
    Ends Φ Γ s_k04b [s0, s1, s2, s3, .val (picD told), .val (.int w), s6, s7, s8, .val (.bool sw), .val (.int i), .val (.list cs), .val (.list rs), .val (.int j), x14, x15, x16] Q := by
  unfold s_k04b
  have i1 : idxD (.list cs) (.int j) = some C := atI_nat' hC
  have i2 : idxD (.list rs) (.int i) = some R := atI_nat' hR
  have i3 : idxD (picD told) (.int i) = some (.tuple (cs.map fun c => pixD (unlike w h) sw c R)) := atI_nat' (by rw [ht, List.getElem?_map, List.getElem?_map, hR]; rfl)
  have i4 : idxD (.tuple (cs.map fun c => pixD (unlike w h) sw c R)) (.int j) = some (pixD (unlike w h) sw C R) := atI_nat' (by rw [List.getElem?_map, hC]; rfl)
  rw [pix_unlike cC cR] at i4
  have due : ∀ {ρ : Env} {a b : D}, cell a → cell b → ρ[15]? = some (.val a) → ρ[16]? = some (.val b) → ρ[5]? = some (.val (.int w)) → w ≤ 100000 → ev Φ Γ (.ite (.or (.cmp .Is (.var 15) .kN) (.cmp .Is (.var 16) .kN)) .kN (.bin .Add (.bin .Mult (.var 5) (.var 16)) (.var 15))) ρ = some (dueD w a b, ρ) := by
    intro ρ a b ca cb e1 e2 e3 hw
    rcases ca with rfl | ⟨x, rfl⟩
    · apply ev_iteT
      · apply ev_orT
        · exact ev_cmp (ev_var e1) ev_kN c_is
        · rfl
      · rfl
      · exact ev_kN
    · rcases cb with rfl | ⟨y, rfl⟩
      · apply ev_iteT
        · apply ev_or
          · exact ev_cmp (ev_var e1) ev_kN c_is
          · intro _; exact ev_cmp (ev_var e2) ev_kN c_is
        · rfl
        · exact ev_kN
      · apply ev_iteF
        · apply ev_or
          · exact ev_cmp (ev_var e1) ev_kN c_is
          · intro _; exact ev_cmp (ev_var e2) ev_kN c_is
        · rfl
        · exact ev_bin (ev_bin (ev_var e3) (ev_var e2) (o_mulI (.inl (by omega)))) (ev_var e1) o_addI
  have fin : ∀ {a b : D}, cell a → cell b → idxD (.tuple (cs.map fun c => pixD (unlike w h) sw c R)) (.int j) = some (dueD w a b) →
      Ends Φ Γ (.seq (.set 14 (.ite (.or (.cmp .Is (.var 15) .kN) (.cmp .Is (.var 16) .kN)) .kN (.bin .Add (.bin .Mult (.var 5) (.var 16)) (.var 15)))) (.ite (.cmp .NotEq (.idx (.idx (.var 4) (.var 10)) (.var 13)) (.var 14)) (.ret (.kB false)) .skip)) [s0, s1, s2, s3, .val (picD told), .val (.int w), s6, s7, s8, .val (.bool sw), .val (.int i), .val (.list cs), .val (.list rs), .val (.int j), x14, .val a, .val b] Q := by
    intro a b ca cb h4
    apply en_seq
    apply en_set
    · exact due ca cb rfl rfl rfl hw
    · (law_purse 18 => fail)
    apply sq_nx
    apply en_iteF
    · (law_purse 1 => first | exact i3 | exact h4 | exact cell_ne (dueD_cell w a b))
    · exact rfl
    apply en_skip
    exact hq _ _ _ (vb_val _) (vb_val _) (vb_val _)
  apply en_seq
  cases sw
  · apply en_setT
    · apply ev_iteF
      · (law_purse 1 => fail)
      · exact rfl
      · (law_purse 1 => first | exact i1 | exact i2)
    · (law_purse 18 => fail)
    apply sq_nx
    exact fin cC.cell cR.cell i4
  · apply en_setT
    · apply ev_iteT
      · (law_purse 1 => fail)
      · exact rfl
      · (law_purse 1 => first | exact i1 | exact i2)
    · (law_purse 18 => fail)
    apply sq_nx
    exact fin cR.cell cC.cell i4
theorem k04_loop {w h : Nat} {sw : Bool} {cs rs : List D} {told : Pc} {s0 s1 s2 s3 s6 s7 s8 x10 x13 x14 x15 x16 : Sl} {Q : Out → Env → Prop} (hw : w ≤ 100000) (ht : told = rs.map fun r => cs.map fun c => pixD (unlike w h) sw c r) (hc : cs.length ≤ 100000) (hr : rs.length ≤ 100000) (iC : ∀ c ∈ cs, InR (dimW sw w h) c) (iR : ∀ r ∈ rs, InR (dimW sw h w) r) (h10 : vb x10) (h13 : vb x13) (h14 : vb x14) (h15 : vb x15) (h16 : vb x16)
    (hq : ∀ x10 x13 x14 x15 x16, vb x10 → vb x13 → vb x14 → vb x15 → vb x16 → Q .nx [s0, s1, s2, s3, .val (picD told), .val (.int w), s6, s7, s8, .val (.bool sw), x10, .val (.list cs), .val (.list rs), x13, x14, x15, x16]) :
    Ends Φ Γ s_k04l [s0, s1, s2, s3, .val (picD told), .val (.int w), s6, s7, s8, .val (.bool sw), x10, .val (.list cs), .val (.list rs), x13, x14, x15, x16] Q := by
  unfold s_k04l
  have rng : ∀ {n k : Nat} {d : D}, (rangeD 0 n 1)[k]? = some d → d = .int k ∧ k < n := by
    intro n k d hd
    unfold rangeD at hd
    rw [List.getElem?_map] at hd
    obtain ⟨m, hm, rfl⟩ := Option.map_eq_some_iff.mp hd
    have hk : k < n := by
      have := (List.getElem?_eq_some_iff.mp hm).1
      rwa [List.length_range] at this
    rw [List.getElem?_range hk] at hm
    cases hm
    exact ⟨by rw [Int.zero_add, Int.mul_one], hk⟩
  refine en_for (ds := rangeD 0 rs.length 1) (fun _ ρ => ∃ x10 x13 x14 x15 x16, vb x10 ∧ vb x13 ∧ vb x14 ∧ vb x15 ∧ vb x16 ∧ ρ = [s0, s1, s2, s3, .val (picD told), .val (.int w), s6, s7, s8, .val (.bool sw), x10, .val (.list cs), .val (.list rs), x13, x14, x15, x16]) (ei_r1 (j := (rs.length : Int)) (ev_b1 (ev_var rfl) rfl) (by omega)) ⟨x10, x13, x14, x15, x16, h10, h13, h14, h15, h16, rfl⟩ (fun i d ρ hd hi => ?_) (fun ρ hρ => ?_)
  · obtain ⟨x10, x13, x14, x15, x16, h10, h13, h14, h15, h16, rfl⟩ := hi
    obtain ⟨rfl, hi⟩ := rng hd
    refine ⟨_, sv_one (setV_vb rfl h10), ?_⟩
    unfold s_k04i
    refine en_for (ds := rangeD 0 cs.length 1) (fun _ ρ => ∃ x13 x14 x15 x16, vb x13 ∧ vb x14 ∧ vb x15 ∧ vb x16 ∧ ρ = [s0, s1, s2, s3, .val (picD told), .val (.int w), s6, s7, s8, .val (.bool sw), .val (.int i), .val (.list cs), .val (.list rs), x13, x14, x15, x16]) (ei_r1 (j := (cs.length : Int)) (ev_b1 (ev_var rfl) rfl) (by omega)) ⟨x13, x14, x15, x16, h13, h14, h15, h16, rfl⟩ (fun j d ρ hd hj => ?_) (fun ρ hρ => ?_)
    · obtain ⟨x13, x14, x15, x16, h13, h14, h15, h16, rfl⟩ := hj
      obtain ⟨rfl, hj⟩ := rng hd
      refine ⟨_, sv_one (setV_vb rfl h13), ?_⟩
      refine k04_body hw ht (List.getElem?_eq_getElem hj) (List.getElem?_eq_getElem hi) (iC _ (List.getElem_mem hj)) (iR _ (List.getElem_mem hi)) h14 h15 h16 fun y14 y15 y16 g14 g15 g16 => ?_
      exact ⟨_, y14, y15, y16, vb_val _, g14, g15, g16, rfl⟩
    · obtain ⟨x13, x14, x15, x16, h13, h14, h15, h16, rfl⟩ := hρ
      exact ⟨_, x13, x14, x15, x16, vb_val _, h13, h14, h15, h16, rfl⟩
  · obtain ⟨x10, x13, x14, x15, x16, h10, h13, h14, h15, h16, rfl⟩ := hρ
    exact hq x10 x13 x14 x15 x16 h10 h13 h14 h15 h16
theorem runs_k04 {Fs Fd Fl Fa Fu : FSem} (hs : Φ "_law_stack" = some Fs) (hd : Φ "_law_draw" = some Fd) (hl : Φ "_law_lines" = some Fl) (ha : Φ "applied" = some Fa) (hu : Φ "_law_unlike" = some Fu)
    (ss : SpStack Fs) (sd : SpDraw Fd) (sl : SpLawLines Fl) (sa : SpApplied Fa) (su : SpUnlike Fu) (ns : List Int) (hn : ns.length ≤ 63) : ∃ out, runF Φ Γ 1 17 t_law_k04 [.scr ns] = some (.bool true, out) := by
  suffices h : ∃ d a', runF Φ Γ 1 17 t_law_k04 [.scr ns] = some (d, a') ∧ d = .bool true by
    obtain ⟨d, a', e, rfl⟩ := h
    exact ⟨a', e⟩
  refine runF_ex rfl ?_
  unfold t_law_k04
  apply en_seq
  apply en_setO (ds := tapeD ns 0 0)
  · exact ev_lst (el_cons (ev_scr rfl) (el_cons ev_kI (el_cons ev_kI el_nil))) (len_dec (n := 3) rfl rfl)
  · exact rfl
  apply sq_nx
  apply en_seq
  apply en_for (ds := rangeD 0 10 1) (fun _ ρ => ∃ (ts : List D) (x2 x3 x4 x5 x6 x7 x8 x9 x10 x11 x12 x13 x14 x15 x16 : Sl), Tape ts ∧ (vb x2 ∧ vb x3 ∧ vb x4 ∧ vb x5 ∧ vb x6 ∧ vb x7 ∧ vb x8 ∧ vb x9 ∧ vb x10 ∧ vb x11 ∧ vb x12 ∧ vb x13 ∧ vb x14 ∧ vb x15 ∧ vb x16) ∧ ρ = [.scr ns, .own ts, x2, x3, x4, x5, x6, x7, x8, x9, x10, x11, x12, x13, x14, x15, x16])
  · exact ei_r1 (j := 10) ev_kI (by omega)
  · exact ⟨tapeD ns 0 0, .non, .non, .non, .non, .non, .non, .non, .non, .non, .non, .non, .non, .non, .non, .non, ⟨ns, 0, 0, rfl⟩, ⟨.inl rfl, .inl rfl, .inl rfl, .inl rfl, .inl rfl, .inl rfl, .inl rfl, .inl rfl, .inl rfl, .inl rfl, .inl rfl, .inl rfl, .inl rfl, .inl rfl, .inl rfl⟩, rfl⟩
  · rintro i d ρ - ⟨ts, x2, x3, x4, x5, x6, x7, x8, x9, x10, x11, x12, x13, x14, x15, x16, ht, ⟨hx2, hx3, hx4, hx5, hx6, hx7, hx8, hx9, hx10, hx11, hx12, hx13, hx14, hx15, hx16⟩, rfl⟩
    refine ⟨[.scr ns, .own ts, .val d, x3, x4, x5, x6, x7, x8, x9, x10, x11, x12, x13, x14, x15, x16], sv_one (setV_vb rfl hx2), ?_⟩
    obtain ⟨s, ts1, hso, ht1, e1⟩ := ss ts 6 ht (by omega)
    obtain ⟨n1, ts2, hn1, ht2, e2⟩ := sd ts1 9 ht1 (by omega) (by omega)
    obtain ⟨n2, ts3, hn2, ht3, e3⟩ := sd ts2 9 ht2 (by omega) (by omega)
    have a1 : opX .Add (.int 1) (.int n1) = some (.int ((1 + n1 : Nat) : Int)) := by rw [o_addI, Int.natCast_add]; rfl
    have a2 : opX .Add (.int 1) (.int n2) = some (.int ((1 + n2 : Nat) : Int)) := by rw [o_addI, Int.natCast_add]; rfl
    generalize hwe : 1 + n1 = w at a1
    generalize hhe : 1 + n2 = h at a2
    have l6 := hso.len6
    have hf : Fit w h s := ⟨by omega, by omega, 9, by omega, by omega, by
      have : 3 ^ s.length * (9 + 3) ≤ 3 ^ 6 * (9 + 3) := pow_mono3 l6
      omega⟩
    have e4 := sl w h s hso.ok hf
    have e5 := su w h (by omega) (by omega)
    have e6 := sa w h (unlike w h) s (unlike_ok hf.1 hf.2.1) hso.ok hf
    have hln := linesA_ok (s := s) (m := 9) hso.ok hf.1 hf.2.1 (by omega) (by omega)
    have hbd : 3 ^ s.length * (9 + 3) - 3 ≤ 100000 := by
      have : 3 ^ s.length * (9 + 3) ≤ 3 ^ 6 * (9 + 3) := pow_mono3 l6
      omega
    have hin := linesA_in (w := w) (h := h) hso.ok
    generalize linesA w h s = x at e4 e6 hln hin
    obtain ⟨c, r, sw⟩ := x
    have okc := hln.1.mono hbd
    have okr := hln.2.mono hbd
    apply en_seq
    apply en_set
    · (law_purse 1 => exact e1)
    · (law_purse 18 => fail)
    apply sq_nx
    apply en_seq
    apply en_par
    · (law_purse 1 => first | exact e2 | exact e3 | exact a1 | exact a2)
    · (law_purse 18 => fail)
    apply sq_nx
    apply en_seq
    apply en_setT
    · (law_purse 1 => exact e4)
    · (law_purse 18 => fail)
    apply sq_nx
    apply en_seq
    apply en_set
    · (law_purse 1 => first | exact e5 | exact e6)
    · (law_purse 18 => fail)
    apply sq_nx
    have none_case : ∀ (p q : Ln), (p = none ∨ q = none) → Ends Φ Γ (.seq (.ite (.cmp .NotEq (.cmp .Is (.var 4) .kN) (.or (.cmp .Is (.var 7) .kN) (.cmp .Is (.var 8) .kN))) (.ret (.kB false)) .skip) (.ite (.cmp .IsNot (.var 4) .kN) (.seq (.setT (.many [11, 12]) (.ite (.truth (.var 9)) (.tup (.cons (.var 8) (.cons (.var 7) .nil))) (.tup (.cons (.var 7) (.cons (.var 8) .nil))))) (.seq (.ite (.or (.cmp .NotEq (.b1 .len (.idx (.var 4) (.kI 0))) (.b1 .len (.var 11))) (.cmp .NotEq (.b1 .len (.var 4)) (.b1 .len (.var 12)))) (.ret (.kB false)) .skip) s_k04l)) .skip))
        [.scr ns, .own ts3, .val d, .val s.d, .val .none, .val (.int w), .val (.int h), .val p.d, .val q.d, .val (.bool sw), x10, x11, x12, x13, x14, x15, x16]
        (fun o ρ2 => match o with
          | .nx => ∃ (ts : List D) (x2 x3 x4 x5 x6 x7 x8 x9 x10 x11 x12 x13 x14 x15 x16 : Sl), Tape ts ∧ (vb x2 ∧ vb x3 ∧ vb x4 ∧ vb x5 ∧ vb x6 ∧ vb x7 ∧ vb x8 ∧ vb x9 ∧ vb x10 ∧ vb x11 ∧ vb x12 ∧ vb x13 ∧ vb x14 ∧ vb x15 ∧ vb x16) ∧ ρ2 = [.scr ns, .own ts, x2, x3, x4, x5, x6, x7, x8, x9, x10, x11, x12, x13, x14, x15, x16]
          | .ret v => seqQ Φ Γ (.ret (.cmp .Eq (.call "applied" (.cons (.tup (.cons (.tup (.cons (.kI 0) (.cons (.kI 1) .nil))) (.cons (.tup (.cons (.kI 2) (.cons (.kI 3) .nil))) .nil))) (.cons (.tup (.cons (.tup (.cons (.kS "turn") (.cons (.kI 1) .nil))) (.cons (.tup (.cons (.kS "trim") (.cons (.kI 1) (.cons (.kI 0) (.cons (.kI 0) (.cons (.kI 0) .nil)))))) .nil))) .nil))) (.tup (.cons (.tup (.cons (.kI 0) .nil)) (.cons (.tup (.cons (.kI 1) .nil)) .nil))))) (fun o ρ' => ∃ a', outs [.scr ns] ρ' = some a' ∧ (match o with | .ret d => d | .nx => .none) = .bool true) (.ret v) ρ2) := by
      intro p q hpq
      apply en_seq
      have hnon : (isNon p.d || isNon q.d) = true := by
        rw [isNon_ln, isNon_ln]
        rcases hpq with rfl | rfl
        · rfl
        · cases p <;> rfl
      apply en_iteF
      · apply ev_cmp
        · (law_purse 1 => fail)
        · apply ev_or
          · (law_purse 1 => fail)
          · intro _; (law_purse 1 => fail)
        · exact c_ne rfl rfl
      · rw [hnon]; rfl
      apply en_skip
      apply sq_nx
      apply en_iteF
      · (law_purse 1 => fail)
      · rfl
      apply en_skip
      exact ⟨ts3, _, _, _, _, _, _, _, _, x10, x11, x12, x13, x14, x15, x16, ht3, ⟨vb_val _, vb_val _, vb_val _, vb_val _, vb_val _, vb_val _, vb_val _, vb_val _, hx10, hx11, hx12, hx13, hx14, hx15, hx16⟩, rfl⟩
    have some_case : ∀ (cs rs : List D) (p q : Ln), c = some cs → r = some rs → p = (if sw then some rs else some cs) → q = (if sw then some cs else some rs) → Ends Φ Γ (.seq (.ite (.cmp .NotEq (.cmp .Is (.var 4) .kN) (.or (.cmp .Is (.var 7) .kN) (.cmp .Is (.var 8) .kN))) (.ret (.kB false)) .skip) (.ite (.cmp .IsNot (.var 4) .kN) (.seq (.setT (.many [11, 12]) (.ite (.truth (.var 9)) (.tup (.cons (.var 8) (.cons (.var 7) .nil))) (.tup (.cons (.var 7) (.cons (.var 8) .nil))))) (.seq (.ite (.or (.cmp .NotEq (.b1 .len (.idx (.var 4) (.kI 0))) (.b1 .len (.var 11))) (.cmp .NotEq (.b1 .len (.var 4)) (.b1 .len (.var 12)))) (.ret (.kB false)) .skip) s_k04l)) .skip))
        [.scr ns, .own ts3, .val d, .val s.d, .val (picD (rs.map fun r => cs.map fun c => pixD (unlike w h) sw c r)), .val (.int w), .val (.int h), .val p.d, .val q.d, .val (.bool sw), x10, x11, x12, x13, x14, x15, x16]
        (fun o ρ2 => match o with
          | .nx => ∃ (ts : List D) (x2 x3 x4 x5 x6 x7 x8 x9 x10 x11 x12 x13 x14 x15 x16 : Sl), Tape ts ∧ (vb x2 ∧ vb x3 ∧ vb x4 ∧ vb x5 ∧ vb x6 ∧ vb x7 ∧ vb x8 ∧ vb x9 ∧ vb x10 ∧ vb x11 ∧ vb x12 ∧ vb x13 ∧ vb x14 ∧ vb x15 ∧ vb x16) ∧ ρ2 = [.scr ns, .own ts, x2, x3, x4, x5, x6, x7, x8, x9, x10, x11, x12, x13, x14, x15, x16]
          | .ret v => seqQ Φ Γ (.ret (.cmp .Eq (.call "applied" (.cons (.tup (.cons (.tup (.cons (.kI 0) (.cons (.kI 1) .nil))) (.cons (.tup (.cons (.kI 2) (.cons (.kI 3) .nil))) .nil))) (.cons (.tup (.cons (.tup (.cons (.kS "turn") (.cons (.kI 1) .nil))) (.cons (.tup (.cons (.kS "trim") (.cons (.kI 1) (.cons (.kI 0) (.cons (.kI 0) (.cons (.kI 0) .nil)))))) .nil))) .nil))) (.tup (.cons (.tup (.cons (.kI 0) .nil)) (.cons (.tup (.cons (.kI 1) .nil)) .nil))))) (fun o ρ' => ∃ a', outs [.scr ns] ρ' = some a' ∧ (match o with | .ret d => d | .nx => .none) = .bool true) (.ret v) ρ2) := by
      intro cs rs p q hc hr hp hq
      subst hc hr
      obtain ⟨_, lc, _⟩ := okc cs rfl
      obtain ⟨_, lr, nr⟩ := okr rs rfl
      have hpn : isNon p.d = false := by rw [hp]; cases sw <;> rfl
      have hqn : isNon q.d = false := by rw [hq]; cases sw <;> rfl
      apply en_seq
      apply en_iteF
      · apply ev_cmp
        · (law_purse 1 => fail)
        · apply ev_or
          · (law_purse 1 => fail)
          · intro _; (law_purse 1 => fail)
        · exact c_ne rfl rfl
      · rw [hpn, hqn]; rfl
      apply en_skip
      apply sq_nx
      apply en_iteT
      · (law_purse 1 => fail)
      · rfl
      apply en_seq
      apply en_setT (d := .tuple [.list cs, .list rs]) (ρ1 := [.scr ns, .own ts3, .val d, .val s.d, .val (picD (rs.map fun r => cs.map fun c => pixD (unlike w h) sw c r)), .val (.int w), .val (.int h), .val p.d, .val q.d, .val (.bool sw), x10, x11, x12, x13, x14, x15, x16])
      · cases sw
        · subst hp hq
          apply ev_iteF
          · (law_purse 1 => fail)
          · rfl
          · exact ev_tup (el_cons (ev_var rfl) (el_cons (ev_var rfl) el_nil)) (len_dec (n := 2) rfl rfl)
        · subst hp hq
          apply ev_iteT
          · (law_purse 1 => fail)
          · rfl
          · exact ev_tup (el_cons (ev_var rfl) (el_cons (ev_var rfl) el_nil)) (len_dec (n := 2) rfl rfl)
      · (law_purse 18 => fail)
      apply sq_nx
      apply en_seq
      obtain ⟨r0, hr0⟩ : ∃ r0, rs[0]? = some r0 := by
        cases rs with
        | nil => exact absurd rfl nr
        | cons a b => exact ⟨a, rfl⟩
      have i0 : idxD (picD (rs.map fun r => cs.map fun c => pixD (unlike w h) sw c r)) (.int 0) = some (.tuple (cs.map fun c => pixD (unlike w h) sw c r0)) := atI_nat' (i := 0) (by rw [List.getElem?_map, List.getElem?_map, hr0]; rfl)
      have l0 : b1D .len (.tuple (cs.map fun c => pixD (unlike w h) sw c r0)) = some (.int cs.length) := by
        show some (PyData.int ((cs.map _).length : Nat)) = _
        rw [List.length_map]
      have l1 : b1D .len (picD (rs.map fun r => cs.map fun c => pixD (unlike w h) sw c r)) = some (.int rs.length) := by
        show some (PyData.int (((rs.map _).map _).length : Nat)) = _
        rw [List.length_map, List.length_map]
      have ne : ∀ n : Nat, cmpX .NotEq (.int n) (.int n) = some false := fun n => cell_ne (.inr ⟨_, rfl⟩)
      apply en_iteF
      · apply ev_or (c := false) (d := false)
        · (law_purse 1 => first | exact i0 | exact l0 | exact ne _)
        · intro _
          (law_purse 1 => first | exact l1 | exact ne _)
      · rfl
      apply en_skip
      apply sq_nx
      refine k04_loop (by omega) rfl lc lr (hin.1 cs rfl) (hin.2 rs rfl) hx10 hx13 hx14 hx15 hx16 fun y10 y13 y14 y15 y16 g10 g13 g14 g15 g16 => ?_
      exact ⟨ts3, _, _, _, _, _, _, _, _, y10, _, _, y13, y14, y15, y16, ht3, ⟨vb_val _, vb_val _, vb_val _, vb_val _, vb_val _, vb_val _, vb_val _, vb_val _, g10, vb_val _, vb_val _, g13, g14, g15, g16⟩, rfl⟩
    cases c with
    | none =>
      have := none_case (ownL (none, r, sw)).1 (ownL (none, r, sw)).2.1 (by unfold ownL; cases sw <;> simp)
      exact this
    | some cs =>
      cases r with
      | none =>
        have := none_case (ownL (some cs, none, sw)).1 (ownL (some cs, none, sw)).2.1 (by unfold ownL; cases sw <;> simp)
        exact this
      | some rs =>
        have := some_case cs rs (ownL (some cs, some rs, sw)).1 (ownL (some cs, some rs, sw)).2.1 rfl rfl (by unfold ownL; cases sw <;> rfl) (by unfold ownL; cases sw <;> rfl)
        exact this
  · rintro ρ ⟨ts, x2, x3, x4, x5, x6, x7, x8, x9, x10, x11, x12, x13, x14, x15, x16, ht, ⟨hx2, hx3, hx4, hx5, hx6, hx7, hx8, hx9, hx10, hx11, hx12, hx13, hx14, hx15, hx16⟩, rfl⟩
    apply sq_nx
    have ok2 : PcOk 2 2 [[.int 0, .int 1], [.int 2, .int 3]] := ⟨by omega, by omega, rfl, by simp⟩
    have oks : Stk.ok [.turn 1, .trim 1 0 0 0] := by
      intro e he
      simp only [List.mem_cons, List.not_mem_nil, or_false] at he
      rcases he with rfl | rfl
      · exact ⟨by omega, by omega⟩
      · exact ⟨by omega, by omega, by omega, by omega⟩
    have e1 := sa 2 2 [[.int 0, .int 1], [.int 2, .int 3]] [.turn 1, .trim 1 0 0 0] ok2 oks ⟨by omega, by omega, 2, by omega, by omega, by decide⟩
    have e2 : oPic (viewL [[.int 0, .int 1], [.int 2, .int 3]] (linesA 2 2 [.turn 1, .trim 1 0 0 0])) = .tuple [.tuple [.int 0], .tuple [.int 1]] := by rfl
    rw [e2] at e1
    apply en_ret
    · (law_purse 1 => exact e1)
    · exact ⟨_, rfl, congrArg PyData.bool (by decide +kernel)⟩
end

/-! Py11: data like itself; pictures that are drawn. -/
open PySem
/-- data that the law compares with itself -/
inductive Lk : Nat → D → Prop
  | non {n : Nat} : Lk n .none
  | bool {n : Nat} (b : Bool) : Lk n (.bool b)
  | int {n : Nat} (i : Int) : Lk n (.int i)
  | str {n : Nat} {s : Str} : plD (.str s) = true → Lk n (.str s)
  | lst {n : Nat} {xs : List D} : xs.length ≤ 16777216 → (∀ x ∈ xs, Lk n x) → Lk (n + 1) (.list xs)
  | tup {n : Nat} {xs : List D} : xs.length ≤ 16777216 → (∀ x ∈ xs, Lk n x) → Lk (n + 1) (.tuple xs)
def SpLike (n : Nat) (F : FSem) : Prop := ∀ d : D, Lk n d → F [.val d, .val d] = some (.bool true, [.val d, .val d])
section
variable {Φ : Phi} {Γ : Str → Option D}
theorem like_atom {d : D} (h1 : isiD d ["list", "tuple"] = false) (h2 : sh d = true) (h3 : PyData.eqv d d = true) : runF Φ Γ 2 3 t_law_like [.val d, .val d] = some (.bool true, [.val d, .val d]) := by
  refine runF_of rfl ?_
  unfold t_law_like
  apply en_seq
  apply en_iteF
  · (law_purse 1 => exact h1)
  · rfl
  apply en_skip
  apply sq_nx
  apply en_seq
  apply en_iteF
  · (law_purse 1 => exact h1)
  · rfl
  apply en_skip
  apply sq_nx
  have hb : ∀ b : Bool, PyData.eqv (.bool b) (.bool b) = true := fun b => by cases b <;> rfl
  apply en_ret
  · apply ev_and
    · (law_purse 1 => fail)
    · intro _; (law_purse 1 => exact c_eq h2 h2)
  · refine ⟨rfl, ?_⟩
    show PyData.bool _ = PyData.bool true
    rw [hb, h3]; rfl
theorem like_seq {d : D} {xs : List D} {F : FSem} (hF : Φ "_law_like" = some F) (h1 : isiD d ["list", "tuple"] = true) (hl : b1D .len d = some (.int xs.length)) (hi : ∀ (k : Nat) (h : k < xs.length), idxD d (.int k) = some xs[k]) (hle : xs.length ≤ 16777216) (hx : ∀ x ∈ xs, F [.val x, .val x] = some (.bool true, [.val x, .val x])) : runF Φ Γ 2 3 t_law_like [.val d, .val d] = some (.bool true, [.val d, .val d]) := by
  refine runF_of rfl ?_
  unfold t_law_like
  have hb : ∀ b : Bool, cmpX .NotEq (.bool b) (.bool b) = some false := fun b => by
    rw [c_ne rfl rfl]; cases b <;> rfl
  have hn : ∀ n : Nat, cmpX .NotEq (.int n) (.int n) = some false := fun n => cell_ne (.inr ⟨_, rfl⟩)
  apply en_seq
  apply en_iteT
  · (law_purse 1 => exact h1)
  · rfl
  apply en_seq
  apply en_iteF
  · apply ev_or (c := false) (d := false)
    · (law_purse 1 => exact hb _)
    · intro _; (law_purse 1 => exact hb _)
  · rfl
  apply en_skip
  apply sq_nx
  apply en_seq
  apply en_iteF
  · (law_purse 1 => first | exact hl | exact hn _)
  · rfl
  apply en_skip
  apply sq_nx
  have hcomp : ev Φ Γ (.comp [2] (.one 2) (.range1 (.b1 .len (.var 0))) (.not (.truth (.call "_law_like" (.cons (.idx (.var 0) (.var 2)) (.cons (.idx (.var 1) (.var 2)) .nil))))) (.var 2)) [.val d, .val d, .non] = some (.list [], [.val d, .val d, .non]) := by
    have := ev_compF (Φ := Φ) (Γ := Γ) (vs := [2]) (tg := .one 2) (it := .range1 (.b1 .len (.var 0))) (c := .not (.truth (.call "_law_like" (.cons (.idx (.var 0) (.var 2)) (.cons (.idx (.var 1) (.var 2)) .nil))))) (a := .var 2) (ρ := [.val d, .val d, .non]) (ρ1 := [.val d, .val d, .non]) (ds := rangeD 0 xs.length 1) (fun _ => false) (fun d => d) (ei_r1 (j := (xs.length : Int)) (ev_b1 (ev_var rfl) hl) (by omega)) rfl (by rw [range_len, size_eq]; omega) rfl (fun e he => by
        unfold rangeD at he
        rw [List.mem_map] at he
        obtain ⟨k, hk, rfl⟩ := he
        have hk := List.mem_range.mp hk
        have hik : idxD d (.int ((0 : Int) + (k : Int) * 1)) = some xs[k] := by
          rw [Int.zero_add, Int.mul_one]; exact hi k hk
        have hxk := hx _ (List.getElem_mem hk)
        refine ⟨[.val d, .val d, .val (.int ((0 : Int) + (k : Int) * 1))], [.val d, .val d, .val (.int ((0 : Int) + (k : Int) * 1))], rfl, ?_, fun _ => rfl, fun z => by cases z⟩
        exact ev_not (b := true) (ev_truth (ev_call (ea_cons (ev_idx (ev_var rfl) (ev_var rfl) hik) (ea_cons (ev_idx (ev_var rfl) (ev_var rfl) hik) ea_nil)) hF rfl hxk List.nodup_nil rfl)))
    rw [this, List.filter_eq_nil_iff.mpr (fun _ _ => by simp)]; rfl
  apply en_ret
  · (law_purse 1 => exact hcomp)
  apply sq_ret
  exact ⟨rfl, congrArg PyData.bool (by decide +kernel)⟩
theorem sp_like0 : SpLike 0 (runF Φ Γ 2 3 t_law_like) := by
  intro d h
  cases h with
  | non => exact like_atom rfl rfl rfl
  | bool b => exact like_atom rfl rfl (by cases b <;> rfl)
  | int i => exact like_atom rfl rfl (eqv_self (.int i) rfl)
  | str h => exact like_atom rfl (sh_of h (Nat.zero_le _)) (eqv_self _ h)
theorem sp_like {n : Nat} {F : FSem} (hF : Φ "_law_like" = some F) (sF : SpLike n F) : SpLike (n + 1) (runF Φ Γ 2 3 t_law_like) := by
  intro d h
  cases h with
  | non => exact like_atom rfl rfl rfl
  | bool b => exact like_atom rfl rfl (by cases b <;> rfl)
  | int i => exact like_atom rfl rfl (eqv_self (.int i) rfl)
  | str h => exact like_atom rfl (sh_of h (Nat.zero_le _)) (eqv_self _ h)
  | lst h1 h2 => exact like_seq hF rfl rfl (fun k h => atI_nat' (List.getElem?_eq_getElem h)) h1 fun x hx => sF x (h2 x hx)
  | tup h1 h2 => exact like_seq hF rfl rfl (fun k h => atI_nat' (List.getElem?_eq_getElem h)) h1 fun x hx => sF x (h2 x hx)
end

/-! Py12: lengths and sizes. -/
open PySem
def lenE : Ed → Bool → Nat → Nat
  | .trim l t r b, a, n => n - (pick a l t + pick a r b)
  | .pad l t r b, a, n => n + (pick a l t + pick a r b)
  | .corner w h, a, n => min n (pick a w h)
  | .enlarge m, _, n => n * m
  | .reduce m, _, n => (n + m - 1) / m
  | _, _, n => n
theorem stepL_length (n : Nat) (hn : 0 < n) (xs : List D) : (stepL n xs).length = (xs.length + n - 1) / n := by
  rw [← step_map n hn, List.length_map, range_len]
theorem lineE_lenE (e : Ed) (a : Bool) (xs : List D) (he : e.ok) (hT : e.isT = false) : (lineE e a xs).length = lenE e a xs.length := by
  cases e with
  | turn q => cases hT
  | flip dn => show (if dn = a then xs.reverse else xs).length = xs.length; split; exact List.length_reverse; rfl
  | trim l t r b => show ((xs.drop (pick a l t)).take _).length = _; rw [List.length_take, List.length_drop]; show min (xs.length - pick a l t - pick a r b) _ = xs.length - (pick a l t + pick a r b); omega
  | pad l t r b =>
    show (List.replicate (pick a l t) PyData.none ++ xs ++ List.replicate (pick a r b) PyData.none).length = xs.length + (pick a l t + pick a r b)
    rw [List.length_append, List.length_append, List.length_replicate, List.length_replicate]; omega
  | corner w h => show (xs.take _).length = _; rw [List.length_take]; exact Nat.min_comm _ _
  | enlarge n =>
    show (xs.flatMap (List.replicate n)).length = xs.length * n
    rw [List.length_flatMap]
    simp only [List.length_replicate, List.map_const', List.sum_replicate_nat]
  | reduce n => exact stepL_length n (by rcases he with rfl | rfl <;> omega) xs
theorem in2 (e : Ed) : cmpX .In (.str (wd e)) (.tuple [.str "trim", .str "pad"]) = some (decide (kd e = 2) || decide (kd e = 3)) := by
  rw [c_inT (wd_sh e) (by decide +kernel)]
  show some (PyData.eqv (.str (wdK 2)) (.str (wdK (kd e))) || (PyData.eqv (.str (wdK 3)) (.str (wdK (kd e))) || false)) = _
  rw [wdK_eqv, wdK_eqv, Bool.or_false]
  congr 2 <;> exact decide_eq_decide.mpr ⟨fun h => h.symm, fun h => h.symm⟩
section
variable {Φ : Phi} {Γ : Str → Option D}
def SpLenE (F : FSem) : Prop := ∀ (e : Ed) (a : Bool) (n : Nat), e.ok → F [.val (.int n), .val e.d, .val (.int (ixB a))] = some (.int (lenE e a n), [.val (.int n), .val e.d, .val (.int (ixB a))])
theorem sp_lenE : SpLenE (runF Φ Γ 3 5 t_length_edited) := by
  intro e a n he
  refine runF_of rfl ?_
  unfold t_length_edited
  apply en_seq
  apply en_set
  · (law_purse 1 => exact ed_idx0 e)
  · exact rfl
  apply sq_nx
  apply en_seq
  cases e with
  | trim l t r b =>
    apply en_iteT
    · (law_purse 1 => exact in2 _)
    · rfl
    have key : ∀ f k : Nat, (if (n : Int) - ((f : Int) + (k : Int)) > 0 then (n : Int) - ((f : Int) + (k : Int)) else 0) = ((n - (f + k) : Nat) : Int) := fun f k => by split <;> omega
    cases a
    · (law_purse 2 => (law_purse 19 => fail))
      exact ⟨rfl, congrArg PyData.int (key l r)⟩
    · (law_purse 2 => (law_purse 19 => fail))
      exact ⟨rfl, congrArg PyData.int (key t b)⟩
  | pad l t r b =>
    apply en_iteT
    · (law_purse 1 => exact in2 _)
    · rfl
    cases a
    · (law_purse 2 => (law_purse 19 => fail))
      exact ⟨rfl, congrArg PyData.int (by show (n : Int) + ((l : Int) + (r : Int)) = ((n + (l + r) : Nat) : Int); omega)⟩
    · (law_purse 2 => (law_purse 19 => fail))
      exact ⟨rfl, congrArg PyData.int (by show (n : Int) + ((t : Int) + (b : Int)) = ((n + (t + b) : Nat) : Int); omega)⟩
  | corner w h =>
    apply en_iteF
    · (law_purse 1 => exact in2 _)
    · rfl
    have key : ∀ f : Nat, (if (f : Int) < (n : Int) then (f : Int) else (n : Int)) = ((min n f : Nat) : Int) := fun f => by split <;> omega
    cases a
    · (law_purse 2 => (law_purse 19 => fail))
      exact ⟨rfl, congrArg PyData.int (key w)⟩
    · (law_purse 2 => (law_purse 19 => fail))
      exact ⟨rfl, congrArg PyData.int (key h)⟩
  | enlarge m =>
    have hm : m = 2 ∨ m = 3 := he
    apply en_iteF
    · (law_purse 1 => exact in2 _)
    · rfl
    (law_purse 2 => first | (law_purse 19 => fail) | exact o_mulI (.inr (by omega)))
    exact ⟨rfl, congrArg PyData.int (Int.natCast_mul _ _).symm⟩
  | reduce m =>
    have hm : m = 2 ∨ m = 3 := he
    apply en_iteF
    · (law_purse 1 => exact in2 _)
    · rfl
    (law_purse 2 => first | (law_purse 19 => fail) | exact o_fdiv (by omega) (by omega))
    refine ⟨rfl, congrArg PyData.int ?_⟩
    show -((-(n : Int)) / (m : Int)) = (((n + m - 1) / m : Nat) : Int)
    rcases hm with rfl | rfl <;> omega
  | turn q =>
    apply en_iteF
    · (law_purse 1 => exact in2 _)
    · rfl
    (law_purse 2 => (law_purse 19 => fail))
    exact ⟨rfl, rfl⟩
  | flip dn =>
    apply en_iteF
    · (law_purse 1 => exact in2 _)
    · rfl
    (law_purse 2 => (law_purse 19 => fail))
    exact ⟨rfl, rfl⟩
theorem sp_long : SpLenE (runF Φ Γ 3 5 t_law_long) := by
  intro e a n he
  refine runF_of rfl ?_
  unfold t_law_long
  apply en_seq
  apply en_set
  · (law_purse 1 => exact ed_idx0 e)
  · exact rfl
  apply sq_nx
  apply en_seq
  cases e with
  | trim l t r b =>
    apply en_iteT
    · (law_purse 1 => exact in2 _)
    · rfl
    have key : ∀ f k : Nat, (n : Int) - (if (f : Int) + (k : Int) < (n : Int) then (f : Int) + (k : Int) else (n : Int)) = ((n - (f + k) : Nat) : Int) := fun f k => by split <;> omega
    cases a
    · (law_purse 2 => (law_purse 19 => fail))
      exact ⟨rfl, congrArg PyData.int (key l r)⟩
    · (law_purse 2 => (law_purse 19 => fail))
      exact ⟨rfl, congrArg PyData.int (key t b)⟩
  | pad l t r b =>
    apply en_iteT
    · (law_purse 1 => exact in2 _)
    · rfl
    cases a
    · (law_purse 2 => (law_purse 19 => fail))
      exact ⟨rfl, congrArg PyData.int (by show (n : Int) + ((l : Int) + (r : Int)) = ((n + (l + r) : Nat) : Int); omega)⟩
    · (law_purse 2 => (law_purse 19 => fail))
      exact ⟨rfl, congrArg PyData.int (by show (n : Int) + ((t : Int) + (b : Int)) = ((n + (t + b) : Nat) : Int); omega)⟩
  | corner w h =>
    apply en_iteF
    · (law_purse 1 => exact in2 _)
    · rfl
    have key : ∀ f : Nat, (if (f : Int) < (n : Int) then (f : Int) else (n : Int)) = ((min n f : Nat) : Int) := fun f => by split <;> omega
    cases a
    · (law_purse 2 => (law_purse 19 => fail))
      exact ⟨rfl, congrArg PyData.int (key w)⟩
    · (law_purse 2 => (law_purse 19 => fail))
      exact ⟨rfl, congrArg PyData.int (key h)⟩
  | enlarge m =>
    have hm : m = 2 ∨ m = 3 := he
    apply en_iteF
    · (law_purse 1 => exact in2 _)
    · rfl
    (law_purse 2 => first | (law_purse 19 => fail) | exact o_mulI (.inr (by omega)))
    exact ⟨rfl, congrArg PyData.int (Int.natCast_mul _ _).symm⟩
  | reduce m =>
    have hm : m = 2 ∨ m = 3 := he
    apply en_iteF
    · (law_purse 1 => exact in2 _)
    · rfl
    (law_purse 2 => first | (law_purse 19 => fail) | exact o_fdiv (by omega) (by omega))
    refine ⟨rfl, congrArg PyData.int ?_⟩
    show ((n : Int) + (m : Int) - 1) / (m : Int) = (((n + m - 1) / m : Nat) : Int)
    rcases hm with rfl | rfl <;> omega
  | turn q =>
    apply en_iteF
    · (law_purse 1 => exact in2 _)
    · rfl
    (law_purse 2 => (law_purse 19 => fail))
    exact ⟨rfl, rfl⟩
  | flip dn =>
    apply en_iteF
    · (law_purse 1 => exact in2 _)
    · rfl
    (law_purse 2 => (law_purse 19 => fail))
    exact ⟨rfl, rfl⟩
/-! ### sizes -/
abbrev Sz := Nat × Nat
def szD (z : Sz) : D := .tuple [.int z.1, .int z.2]
def szStep (e : Ed) (z : Sz) : Sz := match e with
  | .turn q => if q = 2 then z else (z.2, z.1)
  | e => (lenE e false z.1, lenE e true z.2)
def szRun (s : Stk) (z : Sz) : Sz := s.foldl (fun z e => szStep e z) z
/-- all sizes on the way -/
def szAll (s : Stk) (z : Sz) : List Sz := (List.range (s.length + 1)).map fun i => szRun (s.take i) z
theorem szRun_snoc (s : Stk) (e : Ed) (z : Sz) : szRun (s ++ [e]) z = szStep e (szRun s z) := by unfold szRun; rw [List.foldl_append]; rfl
theorem szRun_take {s : Stk} {i : Nat} {e : Ed} (h : s[i]? = some e) (z : Sz) : szRun (s.take (i + 1)) z = szStep e (szRun (s.take i) z) := by
  rw [List.take_add_one, h]; exact szRun_snoc _ _ _
theorem szStep_line {e : Ed} (h : e.isT = false) (z : Sz) : szStep e z = (lenE e false z.1, lenE e true z.2) := by cases e <;> first | rfl | cases h
def SpSizes (F : FSem) : Prop := ∀ (w h : Nat) (s : Stk), s.ok → s.length ≤ 1000 → F [.val (.int w), .val (.int h), .val s.d] = some (.list ((szAll s (w, h)).map szD), [.val (.int w), .val (.int h), .val s.d])
def szUp (s : Stk) (z : Sz) (i : Nat) : List Sz := (List.range (i + 1)).map fun j => szRun (s.take j) z
theorem szUp_succ (s : Stk) (z : Sz) (i : Nat) : szUp s z (i + 1) = szUp s z i ++ [szRun (s.take (i + 1)) z] := by
  unfold szUp
  rw [List.range_succ, List.map_append]; rfl
theorem szUp_last (s : Stk) (z : Sz) (i : Nat) : atI ((szUp s z i).map szD) (-1) = some (szD (szRun (s.take i) z)) := by
  unfold szUp
  rw [List.range_succ, List.map_append, List.map_append]
  exact atI_last _ _
theorem szUp_len (s : Stk) (z : Sz) (i : Nat) : (szUp s z i).length = i + 1 := by unfold szUp; simp
theorem sp_sizes {Fl : FSem} (hl : Φ "length_edited" = some Fl) (sl : SpLenE Fl) : SpSizes (runF Φ Γ 3 5 t_sizes) := by
  intro w h s hs hlen
  refine runF_of rfl ?_
  unfold t_sizes
  apply en_seq
  apply en_setO (ds := (szUp s (w, h) 0).map szD)
  · exact ev_lst (el_cons (ev_tup (el_cons (ev_var rfl) (el_cons (ev_var rfl) el_nil)) (len_dec (n := 2) rfl rfl)) el_nil) (len_dec (n := 1) rfl rfl)
  · exact rfl
  apply sq_nx
  apply en_seq
  refine en_for (ds := s.map Ed.d) (fun i ρ => ∃ x0 x1 x4, vb x0 ∧ vb x1 ∧ vb x4 ∧ ρ = [x0, x1, .val s.d, .own ((szUp s (w, h) i).map szD), x4]) (ei_seq (ev_var rfl) rfl) ⟨_, _, _, vb_val _, vb_val _, .inl rfl, rfl⟩ (fun i d ρ hd hi => ?_) (fun ρ hρ => ?_)
  · obtain ⟨x0, x1, x4, h0, h1, h4, rfl⟩ := hi
    rw [List.getElem?_map] at hd
    obtain ⟨e, he, rfl⟩ := Option.map_eq_some_iff.mp hd
    have heo : e.ok := hs e (List.mem_of_getElem? he)
    have hi : i < s.length := (List.getElem?_eq_some_iff.mp he).1
    refine ⟨[x0, x1, .val s.d, .own ((szUp s (w, h) i).map szD), .val e.d], by rcases h4 with rfl | ⟨d, rfl⟩ <;> rfl, ?_⟩
    have hlast := szUp_last s (w, h) i
    have hlen : ((szUp s (w, h) i).map szD).length < szX := by rw [List.length_map, szUp_len, size_eq]; omega
    have hnext : ((szUp s (w, h) i).map szD) ++ [szD (szStep e (szRun (s.take i) (w, h)))] = (szUp s (w, h) (i + 1)).map szD := by
      rw [szUp_succ, szRun_take he, List.map_append]; rfl
    generalize hz : szRun (s.take i) (w, h) = z at hlast hnext
    obtain ⟨u, v⟩ := z
    apply en_seq
    apply en_setT (ρ2 := [.val (.int u), .val (.int v), .val s.d, .own ((szUp s (w, h) i).map szD), .val e.d])
    · apply ev_ownIdx
      · exact rfl
      · exact ev_neg ev_kI
      · exact rfl
      · exact hlast
    · rcases h0 with rfl | ⟨d, rfl⟩ <;> rcases h1 with rfl | ⟨d, rfl⟩ <;> exact rfl
    apply sq_nx
    have fin : ∀ m : E, ev Φ Γ m [.val (.int u), .val (.int v), .val s.d, .own ((szUp s (w, h) i).map szD), .val e.d] = some (szD (szStep e (u, v)), [.val (.int u), .val (.int v), .val s.d, .own ((szUp s (w, h) i).map szD), .val e.d]) →
        Ends Φ Γ (.app 3 m) [.val (.int u), .val (.int v), .val s.d, .own ((szUp s (w, h) i).map szD), .val e.d] (fun o ρ2 => match o with
          | .nx => ∃ x0 x1 x4, vb x0 ∧ vb x1 ∧ vb x4 ∧ ρ2 = [x0, x1, .val s.d, .own ((szUp s (w, h) (i + 1)).map szD), x4]
          | .ret v => seqQ Φ Γ (.ret (.var 3)) (fun o ρ' => outs [.val (.int w), .val (.int h), .val s.d] ρ' = some [.val (.int w), .val (.int h), .val s.d] ∧ (match o with | .ret d => d | .nx => .none) = .list ((szAll s (w, h)).map szD)) (.ret v) ρ2) := by
      intro m hm
      apply en_app
      · exact rfl
      · exact hm
      · exact rfl
      · exact hlen
      · exact rfl
      rw [hnext]
      exact ⟨_, _, _, vb_val _, vb_val _, vb_val _, rfl⟩
    by_cases hT : e.isT = true
    · cases e with
      | turn q =>
        apply en_iteT
        · (law_purse 1 => first | exact ed_idx0 _ | (law_purse 19 => fail))
        · rfl
        refine fin _ ?_
        by_cases hq : q = 2
        · subst hq
          apply ev_iteF
          · (law_purse 1 => fail)
          · decide +kernel
          · exact ev_tup (el_cons (ev_var rfl) (el_cons (ev_var rfl) el_nil)) (len_dec (n := 2) rfl rfl)
        · have hs : szStep (.turn q) (u, v) = (v, u) := if_neg hq
          rw [hs]
          apply ev_iteT
          · (law_purse 1 => fail)
          · show (!((q : Int) == 2)) = true
            simp; omega
          · exact ev_tup (el_cons (ev_var rfl) (el_cons (ev_var rfl) el_nil)) (len_dec (n := 2) rfl rfl)
      | _ => cases hT
    · have hT : e.isT = false := by simpa using hT
      apply en_iteF
      · (law_purse 1 => first | exact ed_idx0 _ | (law_purse 19 => fail))
      · rw [← isT_kd]; exact hT
      refine fin _ ?_
      rw [szStep_line hT]
      exact ev_tup (el_cons (ev_call (ea_cons (ev_var rfl) (ea_cons (ev_var rfl) (ea_cons ev_kI ea_nil))) hl rfl (sl e false u heo) List.nodup_nil rfl) (el_cons (ev_call (ea_cons (ev_var rfl) (ea_cons (ev_var rfl) (ea_cons ev_kI ea_nil))) hl rfl (sl e true v heo) List.nodup_nil rfl) el_nil)) (len_dec (n := 2) rfl rfl)
  · obtain ⟨x0, x1, x4, h0, h1, h4, rfl⟩ := hρ
    apply sq_nx
    rw [List.length_map]
    apply en_ret
    · exact ev_own rfl
    · exact ⟨rfl, rfl⟩
def zeroB (z : Sz) : Bool := decide (z.1 = 0) || decide (z.2 = 0)
def oSz : Option Sz → D
  | none => .none
  | some z => szD z
def szEnd (s : Stk) (z : Sz) : Option Sz := if (szAll s z).any zeroB then none else some (szRun s z)
def SpSizeAfter (F : FSem) : Prop := ∀ (w h : Nat) (s : Stk), s.ok → s.length ≤ 1000 → F [.val s.d, .val (.int w), .val (.int h)] = some (oSz (szEnd s (w, h)), [.val s.d, .val (.int w), .val (.int h)])
theorem bools_map (xs : List Sz) : boolsOf (xs.map fun z => PyData.bool (zeroB z)) = some (xs.map zeroB) := by
  induction xs with
  | nil => rfl
  | cons x xs ih =>
    show (boolsOf (xs.map fun z => PyData.bool (zeroB z))).map (zeroB x :: ·) = _
    rw [ih]; rfl
theorem sp_sizeAfter {Fs : FSem} (hs : Φ "sizes" = some Fs) (ss : SpSizes Fs) : SpSizeAfter (runF Φ Γ 3 5 t_size_after) := by
  intro w h s hso hlen
  refine runF_of rfl ?_
  unfold t_size_after
  have e1 := ss w h s hso hlen
  have hl : (szAll s (w, h)).length = s.length + 1 := szUp_len s (w, h) s.length
  apply en_seq
  apply en_set
  · (law_purse 1 => exact e1)
  · exact rfl
  apply sq_nx
  apply en_seq
  have hany : ev Φ Γ (.truth (.b1 .any (.comp [4] (.one 4) (.seq (.var 3)) (.kB true) (.cmp .In (.kI 0) (.var 4))))) [.val s.d, .val (.int w), .val (.int h), .val (.list ((szAll s (w, h)).map szD)), .non] = some (.bool ((szAll s (w, h)).any zeroB), [.val s.d, .val (.int w), .val (.int h), .val (.list ((szAll s (w, h)).map szD)), .non]) := by
    apply ev_truth
    apply ev_b1
    · apply ev_compM (ds := (szAll s (w, h)).map szD) (fun d => match d with | .tuple [.int a, .int b] => .bool (decide (a = 0) || decide (b = 0)) | _ => .none)
      · exact ei_seq (ev_var rfl) rfl
      · exact rfl
      · rw [List.length_map, hl, size_eq]; omega
      · exact rfl
      intro d hd
      rw [List.mem_map] at hd
      obtain ⟨z, hz, rfl⟩ := hd
      refine ⟨_, rfl, ?_⟩
      apply ee
      · have hin : cmpX .In (.int 0) (szD z) = some (decide ((z.1 : Int) = 0) || decide ((z.2 : Int) = 0)) := by
          have := c_inT (a := .int 0) (ds := [.int z.1, .int z.2]) rfl rfl
          rw [show szD z = .tuple [.int z.1, .int z.2] from rfl, this]
          show some (((z.1 : Int) == 0) || (((z.2 : Int) == 0) || false)) = _
          rw [Bool.or_false]; rfl
        exact ev_cmp ev_kI (ev_var rfl) hin
      · exact rfl
    · show (boolsOf _).map _ = _
      rw [List.map_map]
      have : ((fun d => match d with | PyData.tuple [.int a, .int b] => PyData.bool (decide (a = 0) || decide (b = 0)) | _ => .none) ∘ szD) = fun z => PyData.bool (zeroB z) := by
        funext z
        show PyData.bool (decide ((z.1 : Int) = 0) || decide ((z.2 : Int) = 0)) = PyData.bool (decide (z.1 = 0) || decide (z.2 = 0))
        congr 2 <;> exact decide_eq_decide.mpr (by omega)
      rw [this, bools_map]
      show some (PyData.bool (((szAll s (w, h)).map zeroB).any id)) = _
      rw [List.any_map]; rfl
  have hlast : idxD (.list ((szAll s (w, h)).map szD)) (.int (-1)) = some (szD (szRun s (w, h))) := by
    have := szUp_last s (w, h) s.length
    rw [List.take_length] at this
    exact this
  by_cases hz : (szAll s (w, h)).any zeroB = true
  · apply en_iteT
    · exact hany
    · exact hz
    (law_purse 2 => fail)
    refine ⟨rfl, ?_⟩
    unfold szEnd
    rw [if_pos hz]; rfl
  · apply en_iteF
    · exact hany
    · simpa using hz
    apply en_skip
    apply sq_nx
    apply en_ret
    · exact ev_idx (ev_var rfl) (ev_neg ev_kI) hlast
    · refine ⟨rfl, ?_⟩
      unfold szEnd
      rw [if_neg hz]; rfl
end

/-! Py13: sizes are the lengths of lines. -/
open PySem
/-- lines of a size: both there and of this length, or a zero was met -/
def LnSz (x : Ln × Ln × Bool) (z : Sz) (zero : Bool) : Prop := if zero then x.1 = none ∨ x.2.1 = none else ∃ c r, x.1 = some c ∧ x.2.1 = some r ∧ c.length = z.1 ∧ r.length = z.2 ∧ z.1 ≠ 0 ∧ z.2 ≠ 0
theorem zeroB_iff (z : Sz) : zeroB z = true ↔ z.1 = 0 ∨ z.2 = 0 := by unfold zeroB; simp
theorem lnsz_step {e : Ed} {x : Ln × Ln × Bool} {z : Sz} {b : Bool} (he : e.ok) (h : LnSz x z b) : LnSz (stepA e x) (szStep e z) (b || zeroB (szStep e z)) := by
  obtain ⟨c, r, sw⟩ := x
  obtain ⟨u, v⟩ := z
  cases b with
  | true =>
    have h : c = none ∨ r = none := h
    show (stepA e (c, r, sw)).1 = none ∨ (stepA e (c, r, sw)).2.1 = none
    by_cases hT : e.isT = true
    · cases e with
      | turn q =>
        unfold stepA
        simp only
        split
        · rcases h with rfl | rfl
          · exact .inr rfl
          · exact .inl rfl
        · split
          · rcases h with rfl | rfl
            · exact .inl rfl
            · exact .inr rfl
          · rcases h with rfl | rfl
            · exact .inr rfl
            · exact .inl rfl
      | _ => cases hT
    · rw [stepA_line (by simpa using hT)]
      rcases h with rfl | rfl
      · exact .inl rfl
      · exact .inr rfl
  | false =>
    obtain ⟨xs, ys, h1, h2, h3, h4, h5, h6⟩ := h
    have h1 : c = some xs := h1
    have h2 : r = some ys := h2
    subst h1 h2
    have h3 : xs.length = u := h3
    have h4 : ys.length = v := h4
    subst h3 h4
    have h5 : xs.length ≠ 0 := h5
    have h6 : ys.length ≠ 0 := h6
    rw [Bool.false_or]
    have notz : ∀ z : Sz, z.1 ≠ 0 → z.2 ≠ 0 → zeroB z = false := fun z a b => by
      cases q : zeroB z with
      | false => rfl
      | true => rcases (zeroB_iff z).mp q with h | h
                · exact absurd h a
                · exact absurd h b
    by_cases hT : e.isT = true
    · cases e with
      | turn q =>
        have hq := he.1
        have hq2 := he.2
        have : q = 1 ∨ q = 2 ∨ q = 3 := by omega
        rcases this with rfl | rfl | rfl
        · rw [show szStep (.turn 1) (xs.length, ys.length) = (ys.length, xs.length) from rfl, notz _ h6 h5]
          exact ⟨ys.reverse, xs, rfl, rfl, List.length_reverse, rfl, h6, h5⟩
        · rw [show szStep (.turn 2) (xs.length, ys.length) = (xs.length, ys.length) from rfl, notz _ h5 h6]
          exact ⟨xs.reverse, ys.reverse, rfl, rfl, List.length_reverse, List.length_reverse, h5, h6⟩
        · rw [show szStep (.turn 3) (xs.length, ys.length) = (ys.length, xs.length) from rfl, notz _ h6 h5]
          exact ⟨ys, xs.reverse, rfl, rfl, rfl, List.length_reverse, h6, h5⟩
      | _ => cases hT
    · have hT : e.isT = false := by simpa using hT
      rw [stepA_line hT, szStep_line hT]
      have l1 := lineE_lenE e false xs he hT
      have l2 := lineE_lenE e true ys he hT
      show LnSz (kept (lineE e false xs), kept (lineE e true ys), sw) (lenE e false xs.length, lenE e true ys.length) (zeroB (lenE e false xs.length, lenE e true ys.length))
      rw [← l1, ← l2]
      generalize lineE e false xs = as
      generalize lineE e true ys = bs
      cases as with
      | nil => exact .inl rfl
      | cons a as =>
        cases bs with
        | nil =>
          rw [show zeroB ((a :: as).length, ([] : List D).length) = true from by unfold zeroB; simp]
          exact .inr rfl
        | cons b bs =>
          rw [notz _ (by simp) (by simp)]
          exact ⟨a :: as, b :: bs, rfl, rfl, rfl, rfl, by simp, by simp⟩
theorem lnsz_run : ∀ (s : Stk) (x : Ln × Ln × Bool) (z : Sz) (b : Bool), s.ok → LnSz x z b → LnSz (runA s x) (szRun s z) (b || (szUp s z s.length).tail.any zeroB)
  | [], x, z, b, _, h => by
    show LnSz x z (b || false)
    rw [Bool.or_false]; exact h
  | e :: s, x, z, b, hs, h => by
    have ih := lnsz_run s (stepA e x) (szStep e z) (b || zeroB (szStep e z)) (fun y hy => hs y (List.mem_cons_of_mem _ hy)) (lnsz_step (hs e List.mem_cons_self) h)
    have e1 : (szUp (e :: s) z (e :: s).length).tail = szUp s (szStep e z) s.length := by
      unfold szUp
      rw [List.range_succ_eq_map, List.map_cons, List.tail_cons, List.map_map]
      rfl
    have e2 : szUp s (szStep e z) s.length = szStep e z :: (szUp s (szStep e z) s.length).tail := by
      unfold szUp
      rw [List.range_succ_eq_map, List.map_cons, List.tail_cons]
      rfl
    rw [e1, e2, List.any_cons, ← Bool.or_assoc]
    exact ih
/-- the size behind a stack is that of the lines -/
theorem szEnd_lines {w h : Nat} {s : Stk} (hs : s.ok) (hw : 0 < w) (hh : 0 < h) : szEnd s (w, h) = match linesA w h s with
    | (some c, some r, _) => some (c.length, r.length)
    | _ => none := by
  have key := lnsz_run s (idL w, idL h, false) (w, h) false hs ⟨rangeD 0 w 1, rangeD 0 h 1, rfl, rfl, range_len _ _ _, range_len _ _ _, by simp; omega, by simp; omega⟩
  rw [Bool.false_or] at key
  have e2 : szAll s (w, h) = (w, h) :: (szUp s (w, h) s.length).tail := by
    show szUp s (w, h) s.length = _
    unfold szUp
    rw [List.range_succ_eq_map, List.map_cons, List.tail_cons]
    rfl
  have e0 : zeroB (w, h) = false := by
    cases q : zeroB (w, h) with
    | false => rfl
    | true => rcases (zeroB_iff (w, h)).mp q with h | h <;> simp at h <;> omega
  unfold szEnd
  rw [e2, List.any_cons, e0, Bool.false_or]
  show (if _ = true then none else some (szRun s (w, h))) = match runA s (idL w, idL h, false) with
    | (some c, some r, _) => some (c.length, r.length)
    | _ => none
  generalize runA s (idL w, idL h, false) = x at key ⊢
  obtain ⟨c, r, sw⟩ := x
  cases hb : (szUp s (w, h) s.length).tail.any zeroB with
  | true =>
    rw [hb] at key
    have key : c = none ∨ r = none := key
    rw [if_pos rfl]
    rcases key with rfl | rfl
    · rfl
    · cases c <;> rfl
  | false =>
    rw [hb] at key
    obtain ⟨c', r', h1, h2, h3, h4, _⟩ := key
    have h1 : c = some c' := h1
    have h2 : r = some r' := h2
    subst h1 h2
    rw [if_neg (by decide)]
    show some (szRun s (w, h)) = some (c'.length, r'.length)
    rw [h3, h4]

/-! Py14: the law k10. -/
open PySem
theorem o_pow15 : opX .Pow (.int 10) (.int 15) = some (.int 1000000000000000) := by
  rw [opX_eq]
  simp only [opD]
  rw [if_pos (by decide)]; rfl
theorem lk_sz (z : Option Sz) : Lk 1 (oSz z) := by
  cases z with
  | none => exact .non
  | some z =>
    refine .tup (by simp) fun x hx => ?_
    simp only [List.mem_cons, List.not_mem_nil, or_false] at hx
    rcases hx with rfl | rfl
    · exact .int _
    · exact .int _
/-- 1 + what is drawn -/
theorem o_one (n w : Nat) (h : 1 + n = w) : opX .Add (.int 1) (.int n) = some (.int (w : Int)) := by rw [o_addI, ← h, Int.natCast_add]; rfl
section
variable {Φ : Phi} {Γ : Str → Option D}
def s_k10a : S := (.seq (.par [7, 8] (.cons (.bin .Add (.kI 1) (.call "_law_draw" (.ref 1 (.cons (.kI 12) .nil)))) (.cons (.bin .Add (.kI 1) (.call "_law_draw" (.ref 1 (.cons (.kI 12) .nil)))) .nil))) (.seq (.setT (.many [11, 12, 13]) (.call "_law_lines" (.cons (.var 7) (.cons (.var 8) (.cons (.var 3) .nil))))) (.seq (.set 6 .kN) (.seq (.ite (.and (.cmp .IsNot (.var 11) .kN) (.cmp .IsNot (.var 12) .kN)) (.set 6 (.ite (.truth (.var 13)) (.tup (.cons (.b1 .len (.var 12)) (.cons (.b1 .len (.var 11)) .nil))) (.tup (.cons (.b1 .len (.var 11)) (.cons (.b1 .len (.var 12)) .nil))))) .skip) (.ite (.not (.truth (.call "_law_like" (.cons (.call "size_after" (.cons (.var 3) (.cons (.var 7) (.cons (.var 8) .nil)))) (.cons (.var 6) .nil))))) (.ret (.kB false)) .skip)))))

theorem k10_ask {Fd Fl Fz Fk : FSem} (hd : Φ "_law_draw" = some Fd) (hl : Φ "_law_lines" = some Fl) (hz : Φ "size_after" = some Fz) (hk : Φ "_law_like" = some Fk) (sd : SpDraw Fd) (sl : SpLawLines Fl) (sz : SpSizeAfter Fz) (sk : SpLike 1 Fk)
    {s : Stk} {ts : List D} {s0 : Sl} {x2 x4 x5 x6 x7 x8 x9 x10 x11 x12 x13 : Sl} {Q : Out → Env → Prop} (hso : s.ok) (l6 : s.length ≤ 6) (ht : Tape ts) (hvb : vb x2 ∧ vb x4 ∧ vb x5 ∧ vb x6 ∧ vb x7 ∧ vb x8 ∧ vb x9 ∧ vb x10 ∧ vb x11 ∧ vb x12 ∧ vb x13)
    (hq : ∀ (ts : List D) (x2 x4 x5 x6 x7 x8 x9 x10 x11 x12 x13 : Sl), Tape ts → (vb x2 ∧ vb x4 ∧ vb x5 ∧ vb x6 ∧ vb x7 ∧ vb x8 ∧ vb x9 ∧ vb x10 ∧ vb x11 ∧ vb x12 ∧ vb x13) → Q .nx [s0, .own ts, x2, .val s.d, x4, x5, x6, x7, x8, x9, x10, x11, x12, x13]) :
    Ends Φ Γ s_k10a [s0, .own ts, x2, .val s.d, x4, x5, x6, x7, x8, x9, x10, x11, x12, x13] Q := by
  obtain ⟨hx2, hx4, hx5, hx6, hx7, hx8, hx9, hx10, hx11, hx12, hx13⟩ := hvb
  unfold s_k10a
  obtain ⟨n1, ts2, hn1, ht2, e2⟩ := sd ts 12 ht (by omega) (by omega)
  obtain ⟨n2, ts3, hn2, ht3, e3⟩ := sd ts2 12 ht2 (by omega) (by omega)
  generalize hwe : 1 + n1 = w
  generalize hhe : 1 + n2 = h
  have a1 := o_one n1 w hwe
  have a2 := o_one n2 h hhe
  have hf : Fit w h s := ⟨by omega, by omega, 12, by omega, by omega, by
    have : 3 ^ s.length * (12 + 3) ≤ 3 ^ 6 * (12 + 3) := pow_mono3 l6
    omega⟩
  have e4 := sl w h s hso hf
  have e5 := sz w h s hso (by omega)
  have hsz := szEnd_lines hso hf.1 hf.2.1
  have e6 := sk _ (lk_sz (szEnd s (w, h)))
  generalize linesA w h s = x at e4 hsz
  obtain ⟨c, r, sw⟩ := x
  apply en_seq
  apply en_par
  · (law_purse 1 => first | exact e2 | exact e3 | exact a1 | exact a2)
  · (law_purse 18 => fail)
  apply sq_nx
  apply en_seq
  apply en_setT
  · (law_purse 1 => exact e4)
  · (law_purse 18 => fail)
  apply sq_nx
  apply en_seq
  apply en_set
  · (law_purse 1 => fail)
  · (law_purse 18 => fail)
  apply sq_nx
  apply en_seq
  have fin : ∀ (p q x6 : D), oSz (szEnd s (w, h)) = x6 → Ends Φ Γ (.ite (.not (.truth (.call "_law_like" (.cons (.call "size_after" (.cons (.var 3) (.cons (.var 7) (.cons (.var 8) .nil)))) (.cons (.var 6) .nil))))) (.ret (.kB false)) .skip)
      [s0, .own ts3, x2, .val s.d, x4, x5, .val x6, .val (.int w), .val (.int h), x9, x10, .val p, .val q, .val (.bool sw)] Q := by
    intro p q x6 h6
    subst h6
    apply en_iteF
    · (law_purse 1 => first | exact e5 | exact e6)
    · rfl
    apply en_skip
    exact hq _ _ _ _ _ _ _ _ _ _ _ _ ht3 ⟨hx2, hx4, hx5, vb_val _, vb_val _, vb_val _, hx9, hx10, vb_val _, vb_val _, vb_val _⟩
  cases sw <;> cases c <;> cases r
  · apply en_iteF
    · apply ev_andF
      · (law_purse 1 => fail)
      · rfl
    · rfl
    apply en_skip
    apply sq_nx
    exact fin _ _ _ (by rw [hsz]; rfl)
  · apply en_iteF
    · apply ev_andF
      · (law_purse 1 => fail)
      · rfl
    · rfl
    apply en_skip
    apply sq_nx
    exact fin _ _ _ (by rw [hsz]; rfl)
  · apply en_iteF
    · apply ev_and (c := true) (d := false)
      · (law_purse 1 => fail)
      · intro _; (law_purse 1 => fail)
    · rfl
    apply en_skip
    apply sq_nx
    exact fin _ _ _ (by rw [hsz]; rfl)
  · apply en_iteT
    · apply ev_and (c := true) (d := true)
      · (law_purse 1 => fail)
      · intro _; (law_purse 1 => fail)
    · rfl
    apply en_set
    · apply ev_iteF
      · (law_purse 1 => fail)
      · rfl
      · (law_purse 1 => fail)
    · (law_purse 18 => fail)
    apply sq_nx
    exact fin _ _ _ (by rw [hsz]; rfl)
  · apply en_iteF
    · apply ev_andF
      · (law_purse 1 => fail)
      · rfl
    · rfl
    apply en_skip
    apply sq_nx
    exact fin _ _ _ (by rw [hsz]; rfl)
  · apply en_iteF
    · apply ev_and (c := true) (d := false)
      · (law_purse 1 => fail)
      · intro _; (law_purse 1 => fail)
    · rfl
    apply en_skip
    apply sq_nx
    exact fin _ _ _ (by rw [hsz]; rfl)
  · apply en_iteF
    · apply ev_andF
      · (law_purse 1 => fail)
      · rfl
    · rfl
    apply en_skip
    apply sq_nx
    exact fin _ _ _ (by rw [hsz]; rfl)
  · apply en_iteT
    · apply ev_and (c := true) (d := true)
      · (law_purse 1 => fail)
      · intro _; (law_purse 1 => fail)
    · rfl
    apply en_set
    · apply ev_iteT
      · (law_purse 1 => fail)
      · rfl
      · (law_purse 1 => fail)
    · (law_purse 18 => fail)
    apply sq_nx
    exact fin _ _ _ (by rw [hsz]; rfl)
def s_k10b : S := (.for_ (.one 5) (.seq (.var 3)) (.seq (.ite (.cmp .Eq (.idx (.var 5) (.kI 0)) (.kS "turn")) (.setT (.many [7, 8]) (.ite (.cmp .NotEq (.idx (.var 5) (.kI 1)) (.kI 2)) (.tup (.cons (.var 8) (.cons (.var 7) .nil))) (.tup (.cons (.var 7) (.cons (.var 8) .nil))))) (.par [7, 8] (.cons (.call "_law_long" (.cons (.var 7) (.cons (.var 5) (.cons (.kI 0) .nil)))) (.cons (.call "_law_long" (.cons (.var 8) (.cons (.var 5) (.cons (.kI 1) .nil)))) .nil)))) (.set 10 (.and (.var 10) (.and (.cmp .Gt (.var 7) (.kI 0)) (.cmp .Gt (.var 8) (.kI 0)))))))

def big0 (s : Stk) (z : Sz) (i : Nat) : Bool := !((szUp s z i).tail.any zeroB)
theorem big0_succ (s : Stk) (z : Sz) (i : Nat) : big0 s z (i + 1) = (big0 s z i && !zeroB (szRun (s.take (i + 1)) z)) := by
  unfold big0
  rw [szUp_succ]
  have hne : szUp s z i ≠ [] := fun h => by have := congrArg List.length h; rw [szUp_len] at this; simp at this
  rw [List.tail_append_of_ne_nil hne, List.any_append]
  simp
theorem gt_zero (z : Sz) : (decide ((0 : Int) < (z.1 : Int)) && decide ((0 : Int) < (z.2 : Int))) = !zeroB z := by
  unfold zeroB
  obtain ⟨a, b⟩ := z
  by_cases ha : a = 0 <;> by_cases hb : b = 0 <;> simp [ha, hb] <;> omega
theorem k10_big {Fg : FSem} (hg : Φ "_law_long" = some Fg) (sg : SpLenE Fg) {s : Stk} {w h : Nat} {s0 s1 s2 s4 x5 s6 s9 s11 s12 s13 : Sl} {Q : Out → Env → Prop} (hso : s.ok) (h5 : vb x5)
    (hq : ∀ x5, vb x5 → Q .nx [s0, s1, s2, .val s.d, s4, x5, s6, .val (.int (szRun s (w, h)).1), .val (.int (szRun s (w, h)).2), s9, .val (.bool (big0 s (w, h) s.length)), s11, s12, s13]) :
    Ends Φ Γ s_k10b [s0, s1, s2, .val s.d, s4, x5, s6, .val (.int w), .val (.int h), s9, .val (.bool true), s11, s12, s13] Q := by
  unfold s_k10b
  refine en_for (ds := s.map Ed.d) (fun i ρ => ∃ x5, vb x5 ∧ ρ = [s0, s1, s2, .val s.d, s4, x5, s6, .val (.int (szRun (s.take i) (w, h)).1), .val (.int (szRun (s.take i) (w, h)).2), s9, .val (.bool (big0 s (w, h) i)), s11, s12, s13]) (ei_seq (ev_var rfl) rfl) ⟨x5, h5, rfl⟩ (fun i d ρ hd hi => ?_) (fun ρ hρ => ?_)
  · obtain ⟨x5, h5, rfl⟩ := hi
    rw [List.getElem?_map] at hd
    obtain ⟨e, he, rfl⟩ := Option.map_eq_some_iff.mp hd
    have heo : e.ok := hso e (List.mem_of_getElem? he)
    refine ⟨_, sv_one (setV_vb rfl h5), ?_⟩
    rw [big0_succ, szRun_take he]
    generalize hz : szRun (s.take i) (w, h) = z
    obtain ⟨u, v⟩ := z
    have fin : ∀ z : Sz, szStep e (u, v) = z → Ends Φ Γ (.set 10 (.and (.var 10) (.and (.cmp .Gt (.var 7) (.kI 0)) (.cmp .Gt (.var 8) (.kI 0))))) [s0, s1, s2, .val s.d, s4, .val e.d, s6, .val (.int z.1), .val (.int z.2), s9, .val (.bool (big0 s (w, h) i)), s11, s12, s13]
        (fun o ρ2 => match o with
          | .nx => ∃ x5, vb x5 ∧ ρ2 = [s0, s1, s2, .val s.d, s4, x5, s6, .val (.int (szStep e (u, v)).1), .val (.int (szStep e (u, v)).2), s9, .val (.bool (big0 s (w, h) i && !zeroB (szStep e (u, v)))), s11, s12, s13]
          | .ret v => Q (.ret v) ρ2) := by
      intro z hz
      rw [hz, ← gt_zero]
      apply en_set
      · apply ev_and
        · (law_purse 1 => fail)
        · intro _
          apply ev_and
          · (law_purse 1 => fail)
          · intro _; (law_purse 1 => fail)
      · exact rfl
      exact ⟨_, vb_val _, rfl⟩
    apply en_seq
    by_cases hT : e.isT = true
    · cases e with
      | turn q =>
        apply en_iteT
        · (law_purse 1 => first | exact ed_idx0 _ | (law_purse 19 => fail))
        · rfl
        by_cases hq : q = 2
        · subst hq
          apply en_setT
          · apply ev_iteF
            · (law_purse 1 => fail)
            · decide +kernel
            · (law_purse 1 => fail)
          · (law_purse 18 => fail)
          apply sq_nx
          exact fin (u, v) rfl
        · have hs : szStep (.turn q) (u, v) = (v, u) := if_neg hq
          apply en_setT
          · apply ev_iteT
            · (law_purse 1 => fail)
            · show (!((q : Int) == 2)) = true
              simp; omega
            · (law_purse 1 => fail)
          · (law_purse 18 => fail)
          apply sq_nx
          exact fin (v, u) hs
      | _ => cases hT
    · have hT : e.isT = false := by simpa using hT
      apply en_iteF
      · (law_purse 1 => first | exact ed_idx0 _ | (law_purse 19 => fail))
      · rw [← isT_kd]; exact hT
      apply en_par
      · (law_purse 1 => first | exact sg e false u heo | exact sg e true v heo)
      · (law_purse 18 => fail)
      apply sq_nx
      exact fin _ (szStep_line hT (u, v))
  · obtain ⟨x5, h5, rfl⟩ := hρ
    rw [List.length_map, List.take_length]
    exact hq x5 h5
theorem runs_k10 {Fs Fd Fl Fz Fk Fg : FSem} (hs : Φ "_law_stack" = some Fs) (hd : Φ "_law_draw" = some Fd) (hl : Φ "_law_lines" = some Fl) (hz : Φ "size_after" = some Fz) (hk : Φ "_law_like" = some Fk) (hg : Φ "_law_long" = some Fg)
    (ss : SpStack Fs) (sd : SpDraw Fd) (sl : SpLawLines Fl) (sz : SpSizeAfter Fz) (sk : SpLike 1 Fk) (sg : SpLenE Fg) (ns : List Int) (hn : ns.length ≤ 63) : ∃ out, runF Φ Γ 1 14 t_law_k10 [.scr ns] = some (.bool true, out) := by
  suffices h : ∃ d a', runF Φ Γ 1 14 t_law_k10 [.scr ns] = some (d, a') ∧ d = .bool true by
    obtain ⟨d, a', e, rfl⟩ := h
    exact ⟨a', e⟩
  refine runF_ex rfl ?_
  unfold t_law_k10
  apply en_seq
  apply en_setO (ds := tapeD ns 0 0)
  · exact ev_lst (el_cons (ev_scr rfl) (el_cons ev_kI (el_cons ev_kI el_nil))) (len_dec (n := 3) rfl rfl)
  · exact rfl
  apply sq_nx
  apply en_seq
  apply en_for (ds := rangeD 0 10 1) (fun _ ρ => ∃ (ts : List D) (x2 x3 x4 x5 x6 x7 x8 x9 x10 x11 x12 x13 : Sl), Tape ts ∧ (vb x2 ∧ vb x3 ∧ vb x4 ∧ vb x5 ∧ vb x6 ∧ vb x7 ∧ vb x8 ∧ vb x9 ∧ vb x10 ∧ vb x11 ∧ vb x12 ∧ vb x13) ∧ ρ = [.scr ns, .own ts, x2, x3, x4, x5, x6, x7, x8, x9, x10, x11, x12, x13])
  · exact ei_r1 (j := 10) ev_kI (by omega)
  · exact ⟨tapeD ns 0 0, .non, .non, .non, .non, .non, .non, .non, .non, .non, .non, .non, .non, ⟨ns, 0, 0, rfl⟩, ⟨.inl rfl, .inl rfl, .inl rfl, .inl rfl, .inl rfl, .inl rfl, .inl rfl, .inl rfl, .inl rfl, .inl rfl, .inl rfl, .inl rfl⟩, rfl⟩
  · rintro i d ρ - ⟨ts, x2, x3, x4, x5, x6, x7, x8, x9, x10, x11, x12, x13, ht, ⟨hx2, hx3, hx4, hx5, hx6, hx7, hx8, hx9, hx10, hx11, hx12, hx13⟩, rfl⟩
    refine ⟨[.scr ns, .own ts, .val d, x3, x4, x5, x6, x7, x8, x9, x10, x11, x12, x13], sv_one (setV_vb rfl hx2), ?_⟩
    obtain ⟨s, ts1, hso, ht1, e1⟩ := ss ts 6 ht (by omega)
    have l6 := hso.len6
    apply en_seq
    apply en_set
    · (law_purse 1 => exact e1)
    · (law_purse 18 => fail)
    apply sq_nx
    apply en_seq
    refine en_for (ds := rangeD 0 4 1) (fun _ ρ => ∃ (ts : List D) (x2 x4 x5 x6 x7 x8 x9 x10 x11 x12 x13 : Sl), Tape ts ∧ (vb x2 ∧ vb x4 ∧ vb x5 ∧ vb x6 ∧ vb x7 ∧ vb x8 ∧ vb x9 ∧ vb x10 ∧ vb x11 ∧ vb x12 ∧ vb x13) ∧ ρ = [.scr ns, .own ts, x2, .val s.d, x4, x5, x6, x7, x8, x9, x10, x11, x12, x13]) (ei_r1 (j := 4) ev_kI (by omega)) ⟨ts1, .val d, x4, x5, x6, x7, x8, x9, x10, x11, x12, x13, ht1, ⟨vb_val _, hx4, hx5, hx6, hx7, hx8, hx9, hx10, hx11, hx12, hx13⟩, rfl⟩ (fun j d ρ _ hj => ?_) (fun ρ hρ => ?_)
    · obtain ⟨ts, x2, x4, x5, x6, x7, x8, x9, x10, x11, x12, x13, ht, ⟨hx2, hx4, hx5, hx6, hx7, hx8, hx9, hx10, hx11, hx12, hx13⟩, rfl⟩ := hj
      refine ⟨[.scr ns, .own ts, x2, .val s.d, .val d, x5, x6, x7, x8, x9, x10, x11, x12, x13], sv_one (setV_vb rfl hx4), ?_⟩
      refine k10_ask hd hl hz hk sd sl sz sk hso.ok l6 ht ⟨hx2, vb_val _, hx5, hx6, hx7, hx8, hx9, hx10, hx11, hx12, hx13⟩ ?_
      intro ts x2 x4 x5 x6 x7 x8 x9 x10 x11 x12 x13 ht hvb
      exact ⟨ts, x2, x4, x5, x6, x7, x8, x9, x10, x11, x12, x13, ht, hvb, rfl⟩
    · obtain ⟨ts, x2, x4, x5, x6, x7, x8, x9, x10, x11, x12, x13, ht, ⟨hx2, hx4, hx5, hx6, hx7, hx8, hx9, hx10, hx11, hx12, hx13⟩, rfl⟩ := hρ
      obtain ⟨n1, ts2, hn1, ht2, e2⟩ := sd ts 1000000000000000 ht (by omega) (by omega)
      obtain ⟨n2, ts3, hn2, ht3, e3⟩ := sd ts2 1000000000000000 ht2 (by omega) (by omega)
      generalize hwe : 1 + n1 = w
      generalize hhe : 1 + n2 = h
      have a1 := o_one n1 w hwe
      have a2 := o_one n2 h hhe
      have e5 := sz w h s hso.ok (by omega)
      have hend : szEnd s (w, h) = if big0 s (w, h) s.length then some (szRun s (w, h)) else none := by
        have q : szAll s (w, h) = (w, h) :: (szUp s (w, h) s.length).tail := by
          show szUp s (w, h) s.length = _
          unfold szUp
          rw [List.range_succ_eq_map, List.map_cons, List.tail_cons]
          rfl
        have e0 : zeroB (w, h) = false := by unfold zeroB; simp; omega
        unfold szEnd big0
        rw [q, List.any_cons, e0, Bool.false_or]
        cases (szUp s (w, h) s.length).tail.any zeroB <;> rfl
      have e6 := sk _ (lk_sz (szEnd s (w, h)))
      apply sq_nx
      apply en_seq
      apply en_par
      · (law_purse 1 => first | exact e2 | exact e3 | exact a1 | exact a2 | exact o_pow15)
      · (law_purse 18 => fail)
      apply sq_nx
      apply en_seq
      apply en_par
      · (law_purse 1 => exact e5)
      · (law_purse 18 => fail)
      apply sq_nx
      apply en_seq
      refine k10_big hg sg hso.ok hx5 fun y5 g5 => ?_
      apply sq_nx
      cases hb : big0 s (w, h) s.length with
      | true =>
        rw [hb] at hend
        have hend : szEnd s (w, h) = some (szRun s (w, h)) := hend
        rw [hend] at e6 ⊢
        apply en_iteF
        · apply ev_not
          apply ev_truth
          apply ev_call
          · apply ea_cons
            · (law_purse 1 => fail)
            · apply ea_cons
              · apply ev_iteT
                · (law_purse 1 => fail)
                · rfl
                · (law_purse 1 => fail)
              · exact ea_nil
          · exact hk
          · exact rfl
          · exact e6
          · exact List.nodup_nil
          · exact rfl
        · rfl
        apply en_skip
        exact ⟨ts3, _, _, _, _, _, _, _, _, _, _, _, _, ht3, ⟨hx2, vb_val _, hx4, g5, hx6, vb_val _, vb_val _, vb_val _, vb_val _, hx11, hx12, hx13⟩, rfl⟩
      | false =>
        rw [hb] at hend
        have hend : szEnd s (w, h) = none := hend
        rw [hend] at e6 ⊢
        apply en_iteF
        · apply ev_not
          apply ev_truth
          apply ev_call
          · apply ea_cons
            · (law_purse 1 => fail)
            · apply ea_cons
              · apply ev_iteF
                · (law_purse 1 => fail)
                · rfl
                · (law_purse 1 => fail)
              · exact ea_nil
          · exact hk
          · exact rfl
          · exact e6
          · exact List.nodup_nil
          · exact rfl
        · rfl
        apply en_skip
        exact ⟨ts3, _, _, _, _, _, _, _, _, _, _, _, _, ht3, ⟨hx2, vb_val _, hx4, g5, hx6, vb_val _, vb_val _, vb_val _, vb_val _, hx11, hx12, hx13⟩, rfl⟩
  · rintro ρ ⟨ts, x2, x3, x4, x5, x6, x7, x8, x9, x10, x11, x12, x13, ht, ⟨hx2, hx3, hx4, hx5, hx6, hx7, hx8, hx9, hx10, hx11, hx12, hx13⟩, rfl⟩
    apply sq_nx
    have oks : Stk.ok [.enlarge 2] := by
      intro e he
      rw [List.mem_singleton.mp he]
      exact .inl rfl
    have e1 := sz 1000000000000000 1 [.enlarge 2] oks (by decide)
    have e2 : oSz (szEnd [.enlarge 2] (1000000000000000, 1)) = .tuple [.int 2000000000000000, .int 2] := by rfl
    rw [e2] at e1
    apply en_ret
    · (law_purse 1 => first | exact e1 | exact o_pow15)
    · exact ⟨_, rfl, congrArg PyData.bool (by decide +kernel)⟩
end

/-! Qa1: one line by itself: columns and rows apart. -/
open PySem
/-- one line: whether it lies as the rows do, and what it is -/
def step1 : Ed → Bool × Ln → Bool × Ln
  | .turn q, (a, l) => if q = 1 then (!a, if a then rv l else l) else if q = 2 then (a, rv l) else (!a, if a then l else rv l)
  | e, (a, l) => (a, l.bind fun xs => kept (lineE e a xs))
def run1 (s : Stk) (x : Bool × Ln) : Bool × Ln := s.foldl (fun x e => step1 e x) x
def pair1 (x y : Bool × Ln) : Ln × Ln × Bool := if x.1 then (y.2, x.2, true) else (x.2, y.2, false)
theorem step1_line {e : Ed} (h : e.isT = false) (a : Bool) (l : Ln) : step1 e (a, l) = (a, newL e a l) := by
  cases e <;> first | rfl | cases h
theorem stepA_pair {e : Ed} (he : e.ok) {x y : Bool × Ln} (h : y.1 = !x.1) : stepA e (pair1 x y) = pair1 (step1 e x) (step1 e y) ∧ (step1 e y).1 = !(step1 e x).1 := by
  obtain ⟨a, l⟩ := x
  obtain ⟨b, m⟩ := y
  have h : b = !a := h
  subst h
  by_cases hT : e.isT = true
  · cases e with
    | turn q =>
      have h1 := he.1
      have h2 := he.2
      have : q = 1 ∨ q = 2 ∨ q = 3 := by omega
      rcases this with rfl | rfl | rfl <;> cases a <;> exact ⟨rfl, rfl⟩
    | _ => cases hT
  · have hT : e.isT = false := by simpa using hT
    rw [step1_line hT, step1_line hT]
    cases a
    · exact ⟨stepA_line hT l m false, rfl⟩
    · exact ⟨stepA_line hT m l true, rfl⟩
theorem runA_pair : ∀ (s : Stk) (x y : Bool × Ln), s.ok → y.1 = (!x.1) → runA s (pair1 x y) = pair1 (run1 s x) (run1 s y) ∧ (run1 s y).1 = !(run1 s x).1
  | [], _, _, _, h => ⟨rfl, h⟩
  | e :: s, x, y, hs, h => by
    obtain ⟨h1, h2⟩ := stepA_pair (hs e List.mem_cons_self) h
    obtain ⟨h3, h4⟩ := runA_pair s (step1 e x) (step1 e y) (fun z hz => hs z (List.mem_cons_of_mem _ hz)) h2
    refine ⟨?_, h4⟩
    show runA s (stepA e (pair1 x y)) = _
    rw [h1, h3]; rfl
/-- how it lies in the end: by the edits alone -/
def ax1 : Ed → Bool → Bool
  | .turn q, a => if q = 2 then a else !a
  | _, a => a
def axS (s : Stk) (a : Bool) : Bool := s.foldl (fun a e => ax1 e a) a
theorem step1_ax (e : Ed) (x : Bool × Ln) (he : e.ok) : (step1 e x).1 = ax1 e x.1 := by
  obtain ⟨a, l⟩ := x
  cases e with
  | turn q =>
    have h1 := he.1
    have h2 := he.2
    have : q = 1 ∨ q = 2 ∨ q = 3 := by omega
    rcases this with rfl | rfl | rfl <;> rfl
  | _ => rfl
theorem run1_ax : ∀ (s : Stk) (x : Bool × Ln), s.ok → (run1 s x).1 = axS s x.1
  | [], _, _ => rfl
  | e :: s, x, h => by
    show (run1 s (step1 e x)).1 = axS s (ax1 e x.1)
    rw [run1_ax s (step1 e x) fun z hz => h z (List.mem_cons_of_mem _ hz), step1_ax e x (h e List.mem_cons_self)]
/-- whether columns and rows are exchanged -/
def swp (s : Stk) : Bool := axS s false
/-- what becomes of the columns (false), of the rows (true) -/
def lnO (s : Stk) (a : Bool) (n : Nat) : Ln := (run1 s (a, idL n)).2
theorem linesA_eq {s : Stk} (hs : s.ok) (w h : Nat) : linesA w h s = if swp s then (lnO s true h, lnO s false w, true) else (lnO s false w, lnO s true h, false) := by
  have h1 := (runA_pair s (false, idL w) (true, idL h) hs rfl).1
  have h2 := run1_ax s (false, idL w) hs
  show runA s (pair1 (false, idL w) (true, idL h)) = _
  rw [h1]
  unfold pair1
  rw [h2]
  rfl
theorem ownL_eq {s : Stk} (hs : s.ok) (w h : Nat) : ownL (linesA w h s) = (lnO s false w, lnO s true h, swp s) := by
  rw [linesA_eq hs]
  unfold ownL
  cases swp s <;> rfl
theorem linesA_sw {s : Stk} (hs : s.ok) (w h : Nat) : (linesA w h s).2.2 = swp s := by
  rw [linesA_eq hs]
  cases swp s <;> rfl

/-! Qa2: how a line grows with the size: six places more. -/
open PySem
def sft (u : Nat) : D → D
  | .int i => .int (i + u)
  | d => d
theorem stepL_get (n : Nat) (hn : 0 < n) (xs : List D) (j : Nat) : (stepL n xs)[j]? = xs[j * n]? := by
  rw [← step_map n hn, List.getElem?_map]
  unfold rangeD
  rw [List.getElem?_map]
  by_cases h : j < (xs.length + n - 1) / n
  · rw [List.getElem?_range h]
    have h2 := step_lt hn h
    show some (atD xs ((0 + (j : Int) * (n : Int)).toNat)) = _
    rw [show (0 + (j : Int) * (n : Int)).toNat = j * n by rw [Int.zero_add, ← Int.natCast_mul]; rfl]
    unfold atD
    rw [List.getElem?_eq_getElem h2]; rfl
  · rw [List.getElem?_eq_none (by rw [List.length_range]; omega)]
    rw [List.getElem?_eq_none]
    · rfl
    · have h1 : (xs.length + n - 1) / n ≤ j := by omega
      have := (Nat.div_le_iff_le_mul_add_pred hn).mp h1
      rw [Nat.mul_comm] at this
      omega
theorem trim_get (xs : List D) (f k p : Nat) : ((xs.drop f).take k)[p]? = if p < k then xs[f + p]? else none := by
  rw [List.getElem?_take]
  split
  · rw [List.getElem?_drop]
  · rfl
theorem rep_get (n p : Nat) : (List.replicate n PyData.none)[p]? = if p < n then some PyData.none else none := List.getElem?_replicate
theorem pad_get (xs : List D) (f b p : Nat) : (List.replicate f PyData.none ++ xs ++ List.replicate b PyData.none)[p]? = if p < f then some .none else if p < f + xs.length then xs[p - f]? else if p < f + xs.length + b then some .none else none := by
  rw [List.append_assoc]
  by_cases h : p < f
  · rw [List.getElem?_append_left (by rw [List.length_replicate]; exact h), rep_get, if_pos h, if_pos h]
  · rw [List.getElem?_append_right (by rw [List.length_replicate]; omega), List.length_replicate, if_neg h]
    by_cases h2 : p < f + xs.length
    · rw [List.getElem?_append_left (by omega), if_pos h2]
    · rw [List.getElem?_append_right (by omega), if_neg h2, rep_get]
      by_cases h3 : p < f + xs.length + b
      · rw [if_pos h3, if_pos (by omega)]
      · rw [if_neg h3, if_neg (by omega)]
theorem rev_get (xs : List D) (p : Nat) : xs.reverse[p]? = if p < xs.length then xs[xs.length - 1 - p]? else none := by
  by_cases h : p < xs.length
  · rw [if_pos h, List.getElem?_reverse h]
  · rw [if_neg h, List.getElem?_eq_none (by rw [List.length_reverse]; omega)]
/-- what an edit does to a line does not hang on what stands there -/
theorem lineE_map (f : D → D) (hf : f .none = .none) (e : Ed) (a : Bool) (xs : List D) (he : e.ok) : lineE e a (xs.map f) = (lineE e a xs).map f := by
  cases e with
  | turn q => rfl
  | flip dn => show (if dn = a then (xs.map f).reverse else xs.map f) = (if dn = a then xs.reverse else xs).map f; split; exact List.map_reverse.symm; rfl
  | trim l t r b => show ((xs.map f).drop _).take _ = ((xs.drop _).take _).map f; rw [List.length_map, List.map_take, List.map_drop]
  | pad l t r b => show _ ++ _ ++ _ = (_ ++ _ ++ _ : List D).map f; rw [List.map_append, List.map_append, List.map_replicate, List.map_replicate, hf]
  | corner w h => show (xs.map f).take _ = (xs.take _).map f; rw [List.map_take]
  | enlarge n => show (xs.map f).flatMap (List.replicate n) = (xs.flatMap (List.replicate n)).map f; rw [List.flatMap_map, List.map_flatMap]; congr 1; funext x; exact List.map_replicate.symm
  | reduce n =>
    have hn : 0 < n := by rcases he with rfl | rfl <;> omega
    show stepL n (xs.map f) = (stepL n xs).map f
    apply List.ext_getElem?
    intro j
    rw [stepL_get n hn, List.getElem?_map, List.getElem?_map, stepL_get n hn]
/-- both are there, one longer by δ; places far from the ends agree both ways -/
structure Lg (δ lo g u v B : Nat) (xs ys : List D) : Prop where
  uv : (u = 0 ∧ v = 6) ∨ (u = 6 ∧ v = 0)
  d1 : 1 ≤ δ
  s1 : 2 * lo + δ + B ≤ xs.length
  s2 : 2 * g + δ + B ≤ xs.length
  len : ys.length = xs.length + δ
  fr : ∀ p, p + g < xs.length → ys[p]? = (xs[p]?).map (sft u)
  bk : ∀ p, lo ≤ p → ys[p + δ]? = (xs[p]?).map (sft v)
  fl : ∀ (p : Nat) (i : Int), xs[p]? = some (.int i) → ys[p]? = some (.int (i + u)) ∧ ys[p + δ]? = some (.int (i + v))
section
variable {δ lo g u v B : Nat} {xs ys : List D}
theorem Lg.mono {C : Nat} (h : Lg δ lo g u v B xs ys) (hc : C ≤ B) : Lg δ lo g u v C xs ys := ⟨h.uv, h.d1, by have := h.s1; omega, by have := h.s2; omega, h.len, h.fr, h.bk, h.fl⟩
theorem Lg.rev (h : Lg δ lo g u v B xs ys) : Lg δ g lo v u B xs.reverse ys.reverse := by
  have hl := h.len
  refine ⟨h.uv.elim (fun z => .inr ⟨z.2, z.1⟩) fun z => .inl ⟨z.2, z.1⟩, h.d1, by rw [List.length_reverse]; exact h.s2, by rw [List.length_reverse]; exact h.s1, by rw [List.length_reverse, List.length_reverse]; exact hl, fun p hp => ?_, fun p hp => ?_, fun p i hp => ?_⟩
  · rw [List.length_reverse] at hp
    rw [rev_get, rev_get, if_pos (by omega), if_pos (by omega)]
    have := h.bk (xs.length - 1 - p) (by omega)
    rw [← this]; congr 1; omega
  · rw [rev_get, rev_get]
    by_cases h1 : p < xs.length
    · rw [if_pos (by omega), if_pos h1]
      have := h.fr (xs.length - 1 - p) (by omega)
      rw [← this]; congr 1; omega
    · rw [if_neg (by omega), if_neg h1]; rfl
  · rw [rev_get] at hp
    by_cases h1 : p < xs.length
    · rw [if_pos h1] at hp
      obtain ⟨a, b⟩ := h.fl _ _ hp
      rw [rev_get, rev_get, if_pos (by omega), if_pos (by omega)]
      constructor
      · rw [← b]; congr 1; omega
      · rw [← a]; congr 1; omega
    · rw [if_neg h1] at hp; cases hp
theorem Lg.trim (f b : Nat) (h : Lg δ lo g u v (B + (f + b)) xs ys) : Lg δ (lo - f) (g - b) u v B ((xs.drop f).take (xs.length - f - b)) ((ys.drop f).take (ys.length - f - b)) := by
  have hl := h.len
  have h1 := h.s1
  have h2 := h.s2
  have hd := h.d1
  have lx : ((xs.drop f).take (xs.length - f - b)).length = xs.length - f - b := by rw [List.length_take, List.length_drop]; omega
  have ly : ((ys.drop f).take (ys.length - f - b)).length = ys.length - f - b := by rw [List.length_take, List.length_drop]; omega
  refine ⟨h.uv, h.d1, by rw [lx]; omega, by rw [lx]; omega, by rw [lx, ly]; omega, fun p hp => ?_, fun p hp => ?_, fun p i hp => ?_⟩
  · rw [lx] at hp
    rw [trim_get, trim_get, if_pos (by omega), if_pos (by omega)]
    exact h.fr _ (by omega)
  · rw [trim_get, trim_get]
    by_cases q : p < xs.length - f - b
    · rw [if_pos (by omega), if_pos q]
      have := h.bk (f + p) (by omega)
      rw [← this]; congr 1; omega
    · rw [if_neg (by omega), if_neg q]; rfl
  · rw [trim_get] at hp
    by_cases q : p < xs.length - f - b
    · rw [if_pos q] at hp
      obtain ⟨a, c⟩ := h.fl _ _ hp
      rw [trim_get, trim_get, if_pos (by omega), if_pos (by omega)]
      exact ⟨a, by rw [← c]; congr 1; omega⟩
    · rw [if_neg q] at hp; cases hp
theorem Lg.pad (f b : Nat) (h : Lg δ lo g u v (B + (f + b)) xs ys) : Lg δ (lo + f) (g + b) u v B (List.replicate f .none ++ xs ++ List.replicate b .none) (List.replicate f .none ++ ys ++ List.replicate b .none) := by
  have hl := h.len
  have h1 := h.s1
  have h2 := h.s2
  have hd := h.d1
  have lx : (List.replicate f PyData.none ++ xs ++ List.replicate b PyData.none).length = f + xs.length + b := by rw [List.length_append, List.length_append, List.length_replicate, List.length_replicate]
  have ly : (List.replicate f PyData.none ++ ys ++ List.replicate b PyData.none).length = f + ys.length + b := by rw [List.length_append, List.length_append, List.length_replicate, List.length_replicate]
  refine ⟨h.uv, h.d1, by rw [lx]; omega, by rw [lx]; omega, by rw [lx, ly]; omega, fun p hp => ?_, fun p hp => ?_, fun p i hp => ?_⟩
  · rw [lx] at hp
    rw [pad_get, pad_get]
    by_cases q : p < f
    · rw [if_pos q, if_pos q]; rfl
    · rw [if_neg q, if_neg q, if_pos (by omega), if_pos (by omega)]
      exact h.fr _ (by omega)
  · have e1 := pad_get xs f b p
    have e2 := pad_get ys f b (p + δ)
    rw [if_neg (by omega)] at e1 e2
    rw [e1, e2]
    by_cases q : p < f + xs.length
    · rw [if_pos q, if_pos (by omega)]
      have := h.bk (p - f) (by omega)
      rw [← this]; congr 1; omega
    · rw [if_neg q, if_neg (by omega)]
      by_cases q2 : p < f + xs.length + b
      · rw [if_pos q2, if_pos (by omega)]; rfl
      · rw [if_neg q2, if_neg (by omega)]; rfl
  · rw [pad_get] at hp
    by_cases q : p < f
    · rw [if_pos q] at hp; cases hp
    · rw [if_neg q] at hp
      by_cases q2 : p < f + xs.length
      · rw [if_pos q2] at hp
        obtain ⟨a, c⟩ := h.fl _ _ hp
        have e1 := pad_get ys f b p
        have e2 := pad_get ys f b (p + δ)
        rw [if_neg (by omega), if_pos (by omega)] at e1 e2
        rw [e1, e2]
        refine ⟨a, ?_⟩
        rw [← c]; congr 1; omega
      · rw [if_neg q2] at hp
        split at hp <;> cases hp
theorem Lg.enlarge (m : Nat) (hm : 0 < m) (h : Lg δ lo g u v B xs ys) : Lg (δ * m) (lo * m) (g * m) u v B (xs.flatMap (List.replicate m)) (ys.flatMap (List.replicate m)) := by
  have fl : ∀ zs : List D, (zs.flatMap (List.replicate m)).length = zs.length * m := fun zs => by
    rw [List.length_flatMap]
    simp only [List.length_replicate, List.map_const', List.sum_replicate_nat]
  have up : ∀ a : Nat, 2 * a + δ + B ≤ xs.length → 2 * (a * m) + δ * m + B ≤ xs.length * m := fun a h => by
    have h1 : (2 * a + δ + B) * m ≤ xs.length * m := Nat.mul_le_mul_right _ h
    have h2 : B * 1 ≤ B * m := Nat.mul_le_mul_left _ hm
    rw [Nat.add_mul, Nat.add_mul, Nat.mul_assoc] at h1
    omega
  have hl := h.len
  refine ⟨h.uv, Nat.mul_pos h.d1 hm, by rw [fl]; exact up _ h.s1, by rw [fl]; exact up _ h.s2, by rw [fl, fl, hl, Nat.add_mul], fun p hp => ?_, fun p hp => ?_, fun p i hp => ?_⟩
  · rw [fl] at hp
    rw [flat_at m hm, flat_at m hm]
    apply h.fr
    have : p < (xs.length - g) * m := by rw [Nat.sub_mul]; omega
    have q := (Nat.div_lt_iff_lt_mul hm).mpr this
    generalize p / m = z at q ⊢
    omega
  · rw [flat_at m hm, flat_at m hm, Nat.add_mul_div_right _ _ hm]
    exact h.bk _ ((Nat.le_div_iff_mul_le hm).mpr hp)
  · rw [flat_at m hm] at hp
    rw [flat_at m hm, flat_at m hm, Nat.add_mul_div_right _ _ hm]
    exact h.fl _ _ hp
theorem Lg.reduce (k : Nat) (hk : k = 2 ∨ k = 3) (hd : 6 ∣ δ) (h : Lg δ lo g u v (3 * B + 4) xs ys) : Lg (δ / k) ((lo + k - 1) / k) ((g + k - 1) / k) u v B (stepL k xs) (stepL k ys) := by
  have k0 : 0 < k := by omega
  have hl := h.len
  have h1 := h.s1
  have h2 := h.s2
  have h3 := h.d1
  obtain ⟨m, rfl⟩ := hd
  have lx := stepL_length k k0 xs
  have ly := stepL_length k k0 ys
  refine ⟨h.uv, by rcases hk with rfl | rfl <;> omega, by rw [lx]; rcases hk with rfl | rfl <;> omega, by rw [lx]; rcases hk with rfl | rfl <;> omega, by rw [lx, ly]; rcases hk with rfl | rfl <;> omega, fun p hp => ?_, fun p hp => ?_, fun p i hp => ?_⟩
  · rw [lx] at hp
    rw [stepL_get k k0, stepL_get k k0]
    apply h.fr
    rcases hk with rfl | rfl <;> omega
  · rw [stepL_get k k0, stepL_get k k0]
    have := h.bk (p * k) (by rcases hk with rfl | rfl <;> omega)
    rw [← this]; congr 1; rcases hk with rfl | rfl <;> omega
  · rw [stepL_get k k0] at hp
    obtain ⟨a, c⟩ := h.fl _ _ hp
    rw [stepL_get k k0, stepL_get k k0]
    refine ⟨a, ?_⟩
    rw [← c]; congr 1; rcases hk with rfl | rfl <;> omega
theorem Lg.corner (c : Nat) (hc : c ≤ 5) (h : Lg δ lo g u v 5 xs ys) : ys.take c = (xs.take c).map (sft u) := by
  have hl := h.len
  have h2 := h.s2
  apply List.ext_getElem?
  intro p
  rw [List.getElem?_map, List.getElem?_take, List.getElem?_take]
  by_cases q : p < c
  · rw [if_pos q, if_pos q]
    exact h.fr p (by omega)
  · rw [if_neg q, if_neg q]; rfl
end
/-! ### whole stacks -/
inductive Sh where
  | sh (u : Nat) | lg (δ lo g u v : Nat)
def Sh.rel : Sh → Nat → Ln → Ln → Prop
  | .sh u, _, l, l' => l' = l.map (List.map (sft u)) ∧ (u = 0 ∨ u = 6)
  | .lg δ lo g u v, B, l, l' => ∃ xs ys, l = some xs ∧ l' = some ys ∧ Lg δ lo g u v B xs ys
def Sh.dv : Sh → Prop
  | .sh _ => True
  | .lg δ _ _ _ _ => 6 ∣ δ
def Sh.rev : Sh → Sh
  | .sh u => .sh u
  | .lg δ lo g u v => .lg δ g lo v u
/-- whether an edit mirrors a line -/
def rvd : Ed → Bool → Bool
  | .turn q, a => if q = 1 then a else if q = 2 then true else !a
  | .flip dn, a => dn == a
  | _, _ => false
def Sh.next (e : Ed) (a : Bool) : Sh → Sh
  | .sh u => .sh u
  | .lg δ lo g u v => match e with
    | .trim l t r b => .lg δ (lo - pick a l t) (g - pick a r b) u v
    | .pad l t r b => .lg δ (lo + pick a l t) (g + pick a r b) u v
    | .corner _ _ => .sh u
    | .enlarge m => .lg (δ * m) (lo * m) (g * m) u v
    | .reduce k => .lg (δ / k) ((lo + k - 1) / k) ((g + k - 1) / k) u v
    | e => if rvd e a then .lg δ g lo v u else .lg δ lo g u v
def needE (e : Ed) (N : Nat) : Nat := match e with
  | .trim l t r b => N + (l + t + r + b)
  | .pad l t r b => N + (l + t + r + b)
  | .corner _ _ => 5
  | .reduce _ => 3 * N + 4
  | _ => N
def needS (s : Stk) : Nat := s.foldr needE 0
theorem rv_map (f : D → D) (l : Ln) : rv (l.map (List.map f)) = (rv l).map (List.map f) := by
  cases l with
  | none => rfl
  | some xs => show some _ = some _; rw [List.map_reverse]
theorem kept_map (f : D → D) (xs : List D) : kept (xs.map f) = (kept xs).map (List.map f) := by
  unfold kept
  cases xs <;> rfl
theorem newL_map (f : D → D) (hf : f .none = .none) (e : Ed) (a : Bool) (l : Ln) (he : e.ok) : newL e a (l.map (List.map f)) = (newL e a l).map (List.map f) := by
  cases l with
  | none => rfl
  | some xs =>
    show kept (lineE e a (xs.map f)) = (kept (lineE e a xs)).map _
    rw [lineE_map f hf e a xs he, kept_map]
theorem step1_map (f : D → D) (hf : f .none = .none) (e : Ed) (a : Bool) (l : Ln) (he : e.ok) : (step1 e (a, l.map (List.map f))).2 = (step1 e (a, l)).2.map (List.map f) := by
  by_cases hT : e.isT = true
  · cases e with
    | turn q =>
      unfold step1
      simp only
      split
      · cases a
        · rfl
        · exact rv_map f l
      · split
        · exact rv_map f l
        · cases a
          · exact rv_map f l
          · rfl
    | _ => cases hT
  · rw [step1_line (by simpa using hT), step1_line (by simpa using hT)]
    exact newL_map f hf e a l he
theorem Sh.rel_rev {sh : Sh} {B : Nat} {l l' : Ln} (h : sh.rel B l l') : sh.rev.rel B (rv l) (rv l') := by
  cases sh with
  | sh u => exact ⟨by rw [h.1, rv_map], h.2⟩
  | lg δ lo g u v =>
    obtain ⟨xs, ys, rfl, rfl, h⟩ := h
    exact ⟨_, _, rfl, rfl, h.rev⟩
theorem kept_of {xs : List D} (h : 0 < xs.length) : kept xs = some xs := by
  unfold kept
  rw [if_neg]
  intro z; rw [z] at h; simp at h
theorem pick_le (a : Bool) (x y z w : Nat) : pick a x y + pick a z w ≤ x + y + z + w := by cases a <;> simp [pick] <;> omega
theorem rel_step {sh : Sh} {N : Nat} {l l' : Ln} {e : Ed} (a : Bool) (he : e.ok) (hd : kd e = 6 → sh.dv) (h : sh.rel (needE e N) l l') : (sh.next e a).rel N (step1 e (a, l)).2 (step1 e (a, l')).2 := by
  cases sh with
  | sh u =>
    obtain ⟨h1, h2⟩ := h
    refine ⟨?_, h2⟩
    rw [h1]
    exact step1_map (sft u) rfl e a l he
  | lg δ lo g u v =>
    obtain ⟨xs, ys, rfl, rfl, h⟩ := h
    have keep : ∀ {δ lo g u v : Nat} {xs ys : List D}, Lg δ lo g u v N xs ys → Sh.rel (.lg δ lo g u v) N (kept xs) (kept ys) := fun {δ lo g u v xs ys} h => by
      have h1 := h.s1
      have h2 := h.d1
      have h3 := h.len
      exact ⟨xs, ys, kept_of (by omega), kept_of (by omega), h⟩
    cases e with
    | turn q =>
      have h1 := he.1
      have h2 := he.2
      have hq : q = 1 ∨ q = 2 ∨ q = 3 := by omega
      have r := h.rev
      rcases hq with rfl | rfl | rfl <;> cases a <;> first | exact ⟨_, _, rfl, rfl, h⟩ | exact ⟨_, _, rfl, rfl, h.rev⟩
    | flip dn =>
      rw [step1_line rfl, step1_line rfl]
      cases dn <;> cases a <;> first | exact keep h | exact keep h.rev
    | trim l t r b =>
      rw [step1_line rfl, step1_line rfl]
      have := pick_le a l t r b
      exact keep (Lg.trim (pick a l t) (pick a r b) (h.mono (by show N + _ ≤ N + (l + t + r + b); omega)))
    | pad l t r b =>
      rw [step1_line rfl, step1_line rfl]
      have := pick_le a l t r b
      exact keep (Lg.pad (pick a l t) (pick a r b) (h.mono (by show N + _ ≤ N + (l + t + r + b); omega)))
    | corner w c =>
      rw [step1_line rfl, step1_line rfl]
      obtain ⟨_, h2, _, h4⟩ := he
      have := Lg.corner (pick a w c) (by cases a <;> assumption) h
      refine ⟨?_, h.uv.elim (fun z => .inl z.1) fun z => .inr z.1⟩
      show kept (ys.take (pick a w c)) = (kept (xs.take (pick a w c))).map _
      rw [this, kept_map]
    | enlarge m =>
      rw [step1_line rfl, step1_line rfl]
      exact keep (Lg.enlarge m (by rcases he with rfl | rfl <;> omega) h)
    | reduce k =>
      rw [step1_line rfl, step1_line rfl]
      exact keep (Lg.reduce k he (hd rfl) h)
def shRun (s : Stk) (x : Bool × Sh) : Bool × Sh := s.foldl (fun x e => (ax1 e x.1, x.2.next e x.1)) x
theorem dv_next {sh : Sh} {e : Ed} {a : Bool} (h : sh.dv) (he : kd e ≠ 6) : (sh.next e a).dv := by
  cases sh with
  | sh u => trivial
  | lg δ lo g u v =>
    cases e with
    | turn q =>
      unfold Sh.next; simp only
      split <;> exact h
    | flip q =>
      unfold Sh.next; simp only
      split <;> exact h
    | corner => trivial
    | trim => exact h
    | pad => exact h
    | enlarge m => exact Nat.dvd_mul_right_of_dvd h m
    | reduce => exact absurd rfl he
theorem rel_run : ∀ (s : Stk) (sh : Sh) (a : Bool) (l l' : Ln), s.ok → (cntK 6 s = 0 ∨ (cntK 6 s ≤ 1 ∧ sh.dv)) → sh.rel (needS s) l l' → (shRun s (a, sh)).2.rel 0 (run1 s (a, l)).2 (run1 s (a, l')).2
  | [], _, _, _, _, _, _, h => h
  | e :: s, sh, a, l, l', hs, hc, h => by
    have he := hs e List.mem_cons_self
    have hs' : Stk.ok s := fun z hz => hs z (List.mem_cons_of_mem _ hz)
    have hcnt : cntK 6 (e :: s) = cntK 6 s + if kd e = 6 then 1 else 0 := by
      unfold cntK
      rw [List.countP_cons]
      congr 1
      simp
    have q := rel_step a he (fun hk => by
      rw [hcnt, if_pos hk] at hc
      rcases hc with hc | hc
      · omega
      · exact hc.2) h
    have e1 : ∀ l, step1 e (a, l) = (ax1 e a, (step1 e (a, l)).2) := fun l => Prod.ext (step1_ax e (a, l) he) rfl
    have ih := rel_run s (sh.next e a) (ax1 e a) (step1 e (a, l)).2 (step1 e (a, l')).2 hs' (by
      by_cases hk : kd e = 6
      · rw [hcnt, if_pos hk] at hc
        left; omega
      · rw [hcnt, if_neg hk] at hc
        rcases hc with hc | hc
        · left; omega
        · exact .inr ⟨by omega, dv_next hc.2 hk⟩) q
    rw [← e1, ← e1] at ih
    exact ih
theorem needS_0 : ∀ (s : Stk), cntK 6 s = 0 → needS s ≤ weight s + 5
  | [], _ => by decide
  | e :: s, h => by
    have hcnt : cntK 6 (e :: s) = cntK 6 s + if kd e = 6 then 1 else 0 := by
      unfold cntK
      rw [List.countP_cons]
      congr 1
      simp
    have ih := needS_0 s (by omega)
    have hw : weight (e :: s) = weightE e + weight s := by unfold weight; rw [List.map_cons, List.sum_cons]
    show needE e (needS s) ≤ _
    rw [hw]
    cases e with
    | reduce => rw [hcnt, if_pos (show kd (Ed.reduce _) = 6 from rfl)] at h; omega
    | corner w c => show 5 ≤ (w + c) + weight s + 5; omega
    | trim l t r b => show needS s + (l + t + r + b) ≤ l + t + r + b + weight s + 5; omega
    | pad l t r b => show needS s + (l + t + r + b) ≤ l + t + r + b + weight s + 5; omega
    | turn => show needS s ≤ 0 + weight s + 5; omega
    | flip => show needS s ≤ 0 + weight s + 5; omega
    | enlarge => show needS s ≤ 0 + weight s + 5; omega
theorem needS_1 : ∀ (s : Stk), cntK 6 s ≤ 1 → needS s ≤ 3 * weight s + 19
  | [], _ => by decide
  | e :: s, h => by
    have hcnt : cntK 6 (e :: s) = cntK 6 s + if kd e = 6 then 1 else 0 := by
      unfold cntK
      rw [List.countP_cons]
      congr 1
      simp
    have hw : weight (e :: s) = weightE e + weight s := by unfold weight; rw [List.map_cons, List.sum_cons]
    have hc : cntK 6 s ≤ 1 := by omega
    show needE e (needS s) ≤ _
    rw [hw]
    cases e with
    | reduce n =>
      rw [hcnt, if_pos (show kd (Ed.reduce _) = 6 from rfl)] at h
      have := needS_0 s (by omega)
      show 3 * needS s + 4 ≤ 3 * (0 + weight s) + 19
      omega
    | corner w c => show 5 ≤ 3 * ((w + c) + weight s) + 19; omega
    | trim l t r b => have := needS_1 s hc; show needS s + (l + t + r + b) ≤ 3 * (l + t + r + b + weight s) + 19; omega
    | pad l t r b => have := needS_1 s hc; show needS s + (l + t + r + b) ≤ 3 * (l + t + r + b + weight s) + 19; omega
    | turn => have := needS_1 s hc; show needS s ≤ 3 * (0 + weight s) + 19; omega
    | flip => have := needS_1 s hc; show needS s ≤ 3 * (0 + weight s) + 19; omega
    | enlarge => have := needS_1 s hc; show needS s ≤ 3 * (0 + weight s) + 19; omega
theorem range_get (n p : Nat) : (rangeD 0 n 1)[p]? = if p < n then some (.int p) else none := by
  unfold rangeD
  rw [List.getElem?_map]
  by_cases h : p < n
  · rw [List.getElem?_range h, if_pos h]
    show some (PyData.int (0 + (p : Int) * 1)) = _
    rw [Int.zero_add, Int.mul_one]
  · rw [List.getElem?_eq_none (by rw [List.length_range]; omega), if_neg h]; rfl
def shape (s : Stk) (a : Bool) : Sh := (shRun s (a, .lg 6 0 0 0 6)).2
/-- behind this size a line only grows -/
def farT (s : Stk) : Nat := 3 * weight s + 25
theorem line_far {s : Stk} (a : Bool) (hs : s.ok) (hc : cntK 6 s ≤ 1) {n : Nat} (hn : farT s ≤ n) : (shape s a).rel 0 (lnO s a n) (lnO s a (n + 6)) := by
  unfold farT at hn
  have h1 := needS_1 s hc
  refine rel_run s (.lg 6 0 0 0 6) a (idL n) (idL (n + 6)) hs (.inr ⟨hc, Nat.dvd_refl 6⟩) ⟨_, _, rfl, rfl, ?_⟩
  refine ⟨.inl ⟨rfl, rfl⟩, by omega, by rw [range_len]; omega, by rw [range_len]; omega, by rw [range_len, range_len], fun p hp => ?_, fun p hp => ?_, fun p i hp => ?_⟩
  · rw [range_len] at hp
    rw [range_get, range_get, if_pos (by omega), if_pos (by omega)]
    show some (PyData.int p) = some (PyData.int (p + ((0 : Nat) : Int)))
    rw [show ((p : Int) + ((0 : Nat) : Int)) = p by omega]
  · rw [range_get, range_get]
    by_cases q : p < n
    · rw [if_pos q, if_pos (by omega)]; rfl
    · rw [if_neg q, if_neg (by omega)]; rfl
  · rw [range_get] at hp
    by_cases q : p < n
    · rw [if_pos q] at hp
      cases hp
      rw [range_get, range_get, if_pos (by omega), if_pos (by omega)]
      exact ⟨by rw [show ((p : Int) + ((0 : Nat) : Int)) = p by omega], rfl⟩
    · rw [if_neg q] at hp; cases hp

/-! Qa3: when two stacks do the same for a size; enough sizes. -/
open PySem
def Non2 (c r : Ln) : Prop := c = none ∨ r = none
def Blk (xs : List D) : Prop := ∀ x ∈ xs, x = .none
/-- the only place of a line -/
def Only (xs : List D) (d : D) : Prop := d ≠ .none ∧ d ∈ xs ∧ ∀ x ∈ xs, x = .none ∨ x = d
def msk (xs : List D) : List Bool := xs.map isNon
def AgreeS (sw : Bool) (c r c' r' : List D) : Prop :=
  (if sw then c.length = r'.length ∧ r.length = c'.length else c.length = c'.length ∧ r.length = r'.length) ∧
  (((Blk c ∨ Blk r) ∧ (Blk c' ∨ Blk r')) ∨ (¬(Blk c ∨ Blk r) ∧ ¬(Blk c' ∨ Blk r') ∧
    (if sw then (∃ d, Only c d ∧ Only c' d) ∧ (∃ d, Only r d ∧ Only r' d) ∧ msk c = msk r' ∧ msk r = msk c' else c = c' ∧ r = r')))
def Agree (sw : Bool) (c r c' r' : Ln) : Prop := (Non2 c r ∧ Non2 c' r') ∨ ∃ xs ys xs' ys', c = some xs ∧ r = some ys ∧ c' = some xs' ∧ r' = some ys' ∧ AgreeS sw xs ys xs' ys'
theorem AgreeS.swap {sw : Bool} {c r c' r' : List D} (h : AgreeS sw c r c' r') : AgreeS sw r c r' c' := by
  obtain ⟨h1, h2⟩ := h
  refine ⟨?_, ?_⟩
  · cases sw
    · exact ⟨h1.2, h1.1⟩
    · exact ⟨h1.2, h1.1⟩
  · rcases h2 with ⟨a, b⟩ | ⟨a, b, z⟩
    · exact .inl ⟨a.symm, b.symm⟩
    · refine .inr ⟨fun q => a q.symm, fun q => b q.symm, ?_⟩
      cases sw
      · exact ⟨z.2, z.1⟩
      · exact ⟨z.2.1, z.1, z.2.2.2, z.2.2.1⟩
theorem Agree.swap {sw : Bool} {c r c' r' : Ln} (h : Agree sw c r c' r') : Agree sw r c r' c' := by
  rcases h with ⟨a, b⟩ | ⟨xs, ys, xs', ys', h1, h2, h3, h4, h⟩
  · exact .inl ⟨a.symm, b.symm⟩
  · exact .inr ⟨ys, xs, ys', xs', h2, h1, h4, h3, h.swap⟩
theorem sft_none (u : Nat) (d : D) : sft u d = .none ↔ d = .none := by cases d <;> simp [sft]
theorem cell_int {d : D} (h : cell d) (hn : d ≠ .none) : ∃ i, d = .int i := h.elim (fun z => absurd z hn) id
theorem mem_get {xs : List D} {x : D} (h : x ∈ xs) : ∃ p : Nat, xs[p]? = some x := List.getElem?_of_mem h
/-- growth -/
def Sh.dl : Sh → Nat
  | .sh _ => 0
  | .lg δ _ _ _ _ => δ
section
variable {sh sh' : Sh}
theorem rel_len {xs ys : List D} (h : sh.rel 0 (some xs) (some ys)) : ys.length = xs.length + sh.dl := by
  cases sh with
  | sh u =>
    have h1 : some ys = some (xs.map (sft u)) := h.1
    cases h1
    rw [List.length_map]; rfl
  | lg δ lo g u v =>
    obtain ⟨a, b, h1, h2, h⟩ := h
    cases h1; cases h2
    exact h.len
theorem rel_none {l l' : Ln} (h : sh.rel 0 l l') : l = none ↔ l' = none := by
  cases sh with
  | sh u => rw [h.1]; cases l <;> simp
  | lg δ lo g u v =>
    obtain ⟨a, b, h1, h2, h⟩ := h
    rw [h1, h2]; simp
theorem rel_blk {xs ys : List D} (hx : Cells xs) (h : sh.rel 0 (some xs) (some ys)) : Blk xs ↔ Blk ys := by
  cases sh with
  | sh u =>
    have h1 : some ys = some (xs.map (sft u)) := h.1
    cases h1
    constructor
    · intro b x hm
      rw [List.mem_map] at hm
      obtain ⟨y, h1, rfl⟩ := hm
      rw [b y h1]; rfl
    · intro b x hm
      exact (sft_none u x).mp (b _ (List.mem_map_of_mem hm))
  | lg δ lo g u v =>
    obtain ⟨a, b, h1, h2, h⟩ := h
    cases h1; cases h2
    constructor
    · intro b y hm
      obtain ⟨p, hp⟩ := mem_get hm
      by_cases q : p + g < xs.length
      · rw [h.fr p q] at hp
        obtain ⟨z, h1, rfl⟩ := Option.map_eq_some_iff.mp hp
        rw [b z (List.mem_of_getElem? h1)]; rfl
      · have h1 := h.s1
        have h2 := h.s2
        have := h.bk (p - δ) (by omega)
        rw [show p - δ + δ = p by omega, hp] at this
        obtain ⟨z, h1, h2⟩ := Option.map_eq_some_iff.mp this.symm
        rw [← h2, b z (List.mem_of_getElem? h1)]; rfl
    · intro b x hm
      rcases hx x hm with rfl | ⟨i, rfl⟩
      · rfl
      · obtain ⟨p, hp⟩ := mem_get hm
        have := b _ (List.mem_of_getElem? (h.fl p i hp).1)
        cases this
theorem map_blk {u : Nat} {xs : List D} (h : Blk xs) : xs.map (sft u) = xs := by
  have : ∀ x ∈ xs, sft u x = id x := fun x hx => by rw [h x hx]; rfl
  rw [List.map_congr_left this, List.map_id]
/-- two lines, alike twice, are alike from there on -/
theorem line_eq {y0 y1 y2 z2 : List D} (h0 : Cells y0) (c1 : Cells y1) (a : sh.rel 0 (some y0) (some y1)) (a' : sh.rel 0 (some y1) (some y2)) (b : sh'.rel 0 (some y0) (some y1)) (b' : sh'.rel 0 (some y1) (some z2)) : y2 = z2 := by
  have hd : sh.dl = sh'.dl := by
    have h1 := rel_len a
    have h2 := rel_len b
    omega
  have u_eq : ∀ {i j : Int} {u u' : Nat}, some (sft u (.int i)) = some (PyData.int j) → some (sft u' (.int i)) = some (PyData.int j) → u = u' := by
    intro i j u u' h1 h2
    have h1 : some (PyData.int (i + u)) = some (.int j) := h1
    have h2 : some (PyData.int (i + u')) = some (.int j) := h2
    cases h1
    have := Option.some.inj h2
    injection this with this
    omega
  cases sh with
  | sh u =>
    cases sh' with
    | sh u' =>
      have e1 : some y1 = some (y0.map (sft u)) := a.1
      have e2 : some y1 = some (y0.map (sft u')) := b.1
      have e3 : some y2 = some (y1.map (sft u)) := a'.1
      have e4 : some z2 = some (y1.map (sft u')) := b'.1
      have e1 := Option.some.inj e1
      have e2 := Option.some.inj e2
      cases e3; cases e4
      by_cases hb : Blk y1
      · rw [map_blk hb, map_blk hb]
      · have : ∃ x, x ∈ y1 ∧ x ≠ .none := by
          apply Classical.byContradiction
          intro q
          exact hb fun x hx => Classical.byContradiction fun z => q ⟨x, hx, z⟩
        obtain ⟨x, hx, hn⟩ := this
        obtain ⟨j, rfl⟩ := cell_int (c1 x hx) hn
        obtain ⟨p, hp⟩ := mem_get hx
        have q1 := hp
        have q2 := hp
        rw [e1, List.getElem?_map] at q1
        rw [e2, List.getElem?_map] at q2
        cases hz : y0[p]? with
        | none => rw [hz] at q1; cases q1
        | some d =>
          rw [hz] at q1 q2
          rcases h0 d (List.mem_of_getElem? hz) with rfl | ⟨i, rfl⟩
          · cases q1
          · rw [u_eq q1 q2]
    | lg δ lo g u' v =>
      obtain ⟨_, _, _, _, h⟩ := b
      have := h.d1
      have : (0 : Nat) = δ := hd
      omega
  | lg δ lo g u v =>
    cases sh' with
    | sh u' =>
      obtain ⟨_, _, _, _, h⟩ := a
      have := h.d1
      have : δ = 0 := hd
      omega
    | lg δ' lo' g' u' v' =>
      have hd : δ = δ' := hd
      subst hd
      obtain ⟨_, _, q1, q2, ha⟩ := a
      cases q1; cases q2
      obtain ⟨_, _, q1, q2, ha'⟩ := a'
      cases q1; cases q2
      obtain ⟨_, _, q1, q2, hb⟩ := b
      cases q1; cases q2
      obtain ⟨_, _, q1, q2, hb'⟩ := b'
      cases q1; cases q2
      have s1 := ha.s1
      have s2 := ha.s2
      have s3 := hb.s1
      have s4 := hb.s2
      have l1 := ha.len
      have uniq : ∀ (q : Nat) (i : Int), y1[q]? = some (.int i) → u = u' ∧ v = v' := by
        intro q i hq
        have uv := ha.uv
        have uv' := hb.uv
        by_cases c : q + max g g' < y0.length
        · have f1 := ha.fr q (by omega)
          have f2 := hb.fr q (by omega)
          rw [hq] at f1 f2
          cases hz : y0[q]? with
          | none => rw [hz] at f1; cases f1
          | some d =>
            rw [hz] at f1 f2
            rcases h0 d (List.mem_of_getElem? hz) with rfl | ⟨j, rfl⟩
            · cases f1
            · have : u = u' := u_eq f1.symm f2.symm
              omega
        · have f1 := ha.bk (q - δ) (by omega)
          have f2 := hb.bk (q - δ) (by omega)
          rw [show q - δ + δ = q by omega, hq] at f1 f2
          cases hz : y0[q - δ]? with
          | none => rw [hz] at f1; cases f1
          | some d =>
            rw [hz] at f1 f2
            rcases h0 d (List.mem_of_getElem? hz) with rfl | ⟨j, rfl⟩
            · cases f1
            · have : v = v' := u_eq f1.symm f2.symm
              omega
      apply List.ext_getElem?
      intro p
      have same : ∀ (w w' q : Nat), (u = u' ∧ v = v' → w = w') → (y1[q]?).map (sft w) = (y1[q]?).map (sft w') := by
        intro w w' q hw
        cases hz : y1[q]? with
        | none => rfl
        | some d =>
          rcases c1 d (List.mem_of_getElem? hz) with rfl | ⟨j, rfl⟩
          · rfl
          · rw [hw (uniq q j hz)]
      by_cases c : p + max g g' < y1.length
      · rw [ha'.fr p (by omega), hb'.fr p (by omega)]
        exact same u u' p fun z => z.1
      · have f1 := ha'.bk (p - δ) (by omega)
        have f2 := hb'.bk (p - δ) (by omega)
        rw [show p - δ + δ = p by omega] at f1 f2
        rw [f1, f2]
        exact same v v' (p - δ) fun z => z.2
theorem only_uniq {xs : List D} {d e : D} (h : Only xs d) (h2 : Only xs e) : d = e := by
  rcases h2.2.2 d h.2.1 with z | z
  · exact absurd z h.1
  · exact z
theorem only_map {xs : List D} {d : D} (u : Nat) (h : Only xs d) : Only (xs.map (sft u)) (sft u d) := by
  refine ⟨fun z => h.1 ((sft_none u d).mp z), List.mem_map_of_mem h.2.1, fun x hx => ?_⟩
  rw [List.mem_map] at hx
  obtain ⟨y, h1, rfl⟩ := hx
  rcases h.2.2 y h1 with rfl | rfl
  · exact .inl rfl
  · exact .inr rfl
theorem msk_map (u : Nat) (xs : List D) : msk (xs.map (sft u)) = msk xs := by
  unfold msk
  rw [List.map_map]
  congr 1
  funext d
  cases d <;> rfl
/-- rows that grow -/
theorem agree_step {sw : Bool} {C D' R0 R1 R2 S0 S1 S2 : Ln} (cR0 : ∀ xs, R0 = some xs → Cells xs) (cR1 : ∀ xs, R1 = some xs → Cells xs) (cS0 : ∀ xs, S0 = some xs → Cells xs) (cS1 : ∀ xs, S1 = some xs → Cells xs)
    (r0 : sh.rel 0 R0 R1) (r1 : sh.rel 0 R1 R2) (s0 : sh'.rel 0 S0 S1) (s1 : sh'.rel 0 S1 S2) (a0 : Agree sw C R0 D' S0) (a1 : Agree sw C R1 D' S1) : Agree sw C R2 D' S2 := by
  have n0 := rel_none r0
  have n1 := rel_none r1
  have m0 := rel_none s0
  have m1 := rel_none s1
  rcases a0 with ⟨h1, h2⟩ | ⟨c, y0, d, z0, rfl, rfl, rfl, rfl, a0⟩
  · exact .inl ⟨h1.imp id fun q => n1.mp (n0.mp q), h2.imp id fun q => m1.mp (m0.mp q)⟩
  rcases a1 with ⟨h1, _⟩ | ⟨c1, y1, d1, z1, hc, rfl, hd, rfl, a1⟩
  · rcases h1 with h1 | h1
    · cases h1
    · exact absurd (n0.mpr h1) (by simp)
  have hc := Option.some.inj hc
  have hd := Option.some.inj hd
  subst hc hd
  cases R2 with
  | none => exact absurd (n1.mpr rfl) (by simp)
  | some y2 =>
    cases S2 with
    | none => exact absurd (m1.mpr rfl) (by simp)
    | some z2 =>
      refine .inr ⟨c, y2, d, z2, rfl, rfl, rfl, rfl, ?_⟩
      have ly0 := rel_len r0
      have ly1 := rel_len r1
      have lz0 := rel_len s0
      have lz1 := rel_len s1
      have by0 := rel_blk (cR0 _ rfl) r0
      have by1 := rel_blk (cR1 _ rfl) r1
      have bz0 := rel_blk (cS0 _ rfl) s0
      have bz1 := rel_blk (cS1 _ rfl) s1
      obtain ⟨l0, a0⟩ := a0
      obtain ⟨l1, a1⟩ := a1
      refine ⟨?_, ?_⟩
      · cases sw
        · exact ⟨l0.1, by have := l0.2; have := l1.2; omega⟩
        · exact ⟨by have := l0.1; have := l1.1; omega, by have := l0.2; have := l1.2; omega⟩
      · rcases a0 with ⟨b1, b2⟩ | ⟨b1, b2, b3⟩
        · exact .inl ⟨b1.imp id fun q => by1.mp (by0.mp q), b2.imp id fun q => bz1.mp (bz0.mp q)⟩
        · have nb1 : ¬(Blk c ∨ Blk y1) := fun q => b1 (q.imp id by0.mpr)
          have nb2 : ¬(Blk d ∨ Blk z1) := fun q => b2 (q.imp id bz0.mpr)
          rcases a1 with ⟨q, _⟩ | ⟨_, _, b4⟩
          · exact absurd q nb1
          refine .inr ⟨fun q => nb1 (q.imp id by1.mpr), fun q => nb2 (q.imp id bz1.mpr), ?_⟩
          cases sw with
          | false =>
            obtain ⟨rfl, e0⟩ := b3
            obtain ⟨_, e1⟩ := b4
            subst e0 e1
            exact ⟨rfl, line_eq (cR0 _ rfl) (cR1 _ rfl) r0 r1 s0 s1⟩
          | true =>
            have l0 : c.length = z0.length ∧ y0.length = d.length := l0
            have l1 : c.length = z1.length ∧ y1.length = d.length := l1
            obtain ⟨o1, ⟨p0, o2, o3⟩, k1, k2⟩ := b3
            obtain ⟨_, ⟨p1, o4, o5⟩, k3, k4⟩ := b4
            have d1 : sh.dl = 0 := by omega
            have d2 : sh'.dl = 0 := by omega
            cases sh with
            | lg δ lo g u v =>
              obtain ⟨_, _, _, _, h⟩ := r0
              have := h.d1
              have : δ = 0 := d1
              omega
            | sh u =>
              cases sh' with
              | lg δ lo g u v =>
                obtain ⟨_, _, _, _, h⟩ := s0
                have := h.d1
                have : δ = 0 := d2
                omega
              | sh u' =>
                have e1 : some y1 = some (y0.map (sft u)) := r0.1
                have e2 : some y2 = some (y1.map (sft u)) := r1.1
                have e3 : some z1 = some (z0.map (sft u')) := s0.1
                have e4 : some z2 = some (z1.map (sft u')) := s1.1
                cases e1; cases e2; cases e3; cases e4
                refine ⟨o1, ⟨sft u p1, only_map u o4, ?_⟩, ?_, ?_⟩
                · have f1 := only_uniq o4 (only_map u o2)
                  have f2 := only_uniq o5 (only_map u' o3)
                  obtain ⟨i, rfl⟩ := cell_int (cR0 _ rfl p0 o2.2.1) o2.1
                  have : u = u' := by
                    rw [f1] at f2
                    have f2 : PyData.int (i + u) = PyData.int (i + u') := f2
                    injection f2 with f2
                    omega
                  rw [this]
                  exact only_map u' o5
                · rw [msk_map]; exact k3
                · rw [msk_map]; exact k4
end
/-- whether two stacks do the same for a size, by their lines -/
def AgreeAt (s t : Stk) (w h : Nat) : Prop := Agree (swp s != swp t) (lnO s false w) (lnO s true h) (lnO t false w) (lnO t true h)
theorem run1_cells : ∀ (s : Stk) (x : Bool × Ln), (∀ xs, x.2 = some xs → Cells xs) → ∀ xs, (run1 s x).2 = some xs → Cells xs
  | [], _, h => h
  | e :: s, (a, l), h => by
    refine run1_cells s (step1 e (a, l)) fun xs hx => ?_
    by_cases hT : e.isT = true
    · cases e with
      | turn q =>
        have rc : ∀ xs, rv l = some xs → Cells xs := fun xs hx => by
          cases l with
          | none => cases hx
          | some ys => cases hx; exact cells_rev (h ys rfl)
        unfold step1 at hx
        simp only at hx
        split at hx
        · cases a
          · exact h xs hx
          · exact rc xs hx
        · split at hx
          · exact rc xs hx
          · cases a
            · exact rc xs hx
            · exact h xs hx
      | _ => cases hT
    · rw [step1_line (by simpa using hT)] at hx
      cases l with
      | none => cases hx
      | some ys =>
        have hx : kept (lineE e a ys) = some xs := hx
        unfold kept at hx
        split at hx
        · cases hx
        · cases hx; exact lineE_cells e a ys (h ys rfl)
theorem lnO_cells (s : Stk) (a : Bool) (n : Nat) : ∀ xs, lnO s a n = some xs → Cells xs := run1_cells s (a, idL n) fun xs hx => by cases hx; exact range_cells _ _ _
/-- enough sizes -/
theorem agree_all {s t : Stk} (hs : s.ok) (ht : t.ok) (cs : cntK 6 s ≤ 1) (ct : cntK 6 t ≤ 1) {m : Nat} (m1 : 3 * weight s + 36 ≤ m) (m2 : 3 * weight t + 36 ≤ m) (h : ∀ w h, 0 < w → 0 < h → w ≤ m → h ≤ m → AgreeAt s t w h) : ∀ w h, 0 < w → 0 < h → AgreeAt s t w h := by
  have rows : ∀ w, 0 < w → w ≤ m → ∀ n, 0 < n → AgreeAt s t w n := by
    intro w w0 wm n
    induction n using Nat.strongRecOn with
    | _ n ih =>
      intro n0
      by_cases hn : n ≤ m
      · exact h w n w0 n0 wm hn
      · have f1 : farT s ≤ n - 12 := by unfold farT; omega
        have f2 : farT t ≤ n - 12 := by unfold farT; omega
        have f3 : farT s ≤ n - 12 + 6 := by omega
        have f4 : farT t ≤ n - 12 + 6 := by omega
        have q := agree_step (lnO_cells s true _) (lnO_cells s true _) (lnO_cells t true _) (lnO_cells t true _) (line_far true hs cs f1) (line_far true hs cs f3) (line_far true ht ct f2) (line_far true ht ct f4) (ih (n - 12) (by omega) (by omega)) (ih (n - 12 + 6) (by omega) (by omega))
        rw [show n - 12 + 6 + 6 = n by omega] at q
        exact q
  intro w
  induction w using Nat.strongRecOn with
  | _ w ih =>
    intro n w0 n0
    by_cases hw : w ≤ m
    · exact rows w w0 hw n n0
    · have f1 : farT s ≤ w - 12 := by unfold farT; omega
      have f2 : farT t ≤ w - 12 := by unfold farT; omega
      have f3 : farT s ≤ w - 12 + 6 := by omega
      have f4 : farT t ≤ w - 12 + 6 := by omega
      have q := agree_step (lnO_cells s false _) (lnO_cells s false _) (lnO_cells t false _) (lnO_cells t false _) (line_far false hs cs f1) (line_far false hs cs f3) (line_far false ht ct f2) (line_far false ht ct f4) (ih (w - 12) (by omega) n (by omega) n0).swap (ih (w - 12 + 6) (by omega) n (by omega) n0).swap
      rw [show w - 12 + 6 + 6 = w by omega] at q
      exact q.swap

/-! Qa4: doing the same is giving the same pictures. -/
open PySem
/-- the pixel from a column and a row -/
def px (p : Pc) : D → D → D
  | .int c, .int r => at2 p r.toNat c.toNat
  | _, _ => .none
theorem pixD_px (p : Pc) (sw : Bool) (c r : D) : pixD p sw c r = if sw then px p r c else px p c r := by
  cases c <;> cases r <;> cases sw <;> rfl
def grid (F : D → D → D) (xs ys : List D) : Pc := xs.map fun x => ys.map fun y => F x y
theorem grid_len (F : D → D → D) (xs ys : List D) : (grid F xs ys).length = xs.length := by unfold grid; simp
theorem grid_get {F : D → D → D} {xs ys : List D} {i j : Nat} {x y : D} (h1 : xs[i]? = some x) (h2 : ys[j]? = some y) : ((grid F xs ys)[i]?).bind (·[j]?) = some (F x y) := by
  unfold grid
  rw [List.getElem?_map, h1]
  simp only [Option.map_some, Option.bind_some]
  rw [List.getElem?_map, h2]; rfl
theorem grid_eq {F F' : D → D → D} {xs ys xs' ys' : List D} (h1 : xs.length = xs'.length) (h2 : ys.length = ys'.length) (h : ∀ (i j : Nat) (x y x' y' : D), xs[i]? = some x → ys[j]? = some y → xs'[i]? = some x' → ys'[j]? = some y' → F x y = F' x' y') : grid F xs ys = grid F' xs' ys' := by
  unfold grid
  apply List.ext_getElem?
  intro i
  rw [List.getElem?_map, List.getElem?_map]
  by_cases hi : i < xs.length
  · rw [List.getElem?_eq_getElem hi, List.getElem?_eq_getElem (by omega)]
    simp only [Option.map_some]
    congr 1
    apply List.ext_getElem?
    intro j
    rw [List.getElem?_map, List.getElem?_map]
    by_cases hj : j < ys.length
    · rw [List.getElem?_eq_getElem hj, List.getElem?_eq_getElem (by omega)]
      simp only [Option.map_some]
      congr 1
      exact h i j _ _ _ _ (List.getElem?_eq_getElem hi) (List.getElem?_eq_getElem hj) (List.getElem?_eq_getElem _) (List.getElem?_eq_getElem _)
    · rw [List.getElem?_eq_none (by omega), List.getElem?_eq_none (by omega)]; rfl
  · rw [List.getElem?_eq_none (by omega), List.getElem?_eq_none (by omega)]; rfl
theorem grid_inv {F F' : D → D → D} {xs ys xs' ys' : List D} (hx : xs ≠ []) (e : grid F xs ys = grid F' xs' ys') : xs.length = xs'.length ∧ ys.length = ys'.length ∧ ∀ (i j : Nat) (x y x' y' : D), xs[i]? = some x → ys[j]? = some y → xs'[i]? = some x' → ys'[j]? = some y' → F x y = F' x' y' := by
  have l1 : xs.length = xs'.length := by
    have := congrArg List.length e
    rw [grid_len, grid_len] at this; exact this
  refine ⟨l1, ?_, ?_⟩
  · cases xs with
    | nil => exact absurd rfl hx
    | cons a as =>
      cases xs' with
      | nil => simp at l1
      | cons b bs =>
        have e : (ys.map fun y => F a y) :: _ = (ys'.map fun y => F' b y) :: _ := e
        have := congrArg List.length (List.cons.inj e).1
        rw [List.length_map, List.length_map] at this; exact this
  · intro i j x y x' y' h1 h2 h3 h4
    have q1 := grid_get (F := F) h1 h2
    have q2 := grid_get (F := F') h3 h4
    rw [e, q2] at q1
    exact (Option.some.inj q1).symm
/-- a picture after a stack, by its lines -/
def vw (p : Pc) (sw : Bool) (c r : Ln) : Option Pc := match c, r with
  | some xs, some ys => some (if sw then grid (px p) xs ys else grid (fun y x => px p x y) ys xs)
  | _, _ => none
theorem viewL_eq {s : Stk} (hs : s.ok) (p : Pc) (w h : Nat) : viewL p (linesA w h s) = vw p (swp s) (lnO s false w) (lnO s true h) := by
  rw [linesA_eq hs]
  cases swp s with
  | false =>
    rw [if_neg (by decide)]
    cases lnO s false w with
    | none => rfl
    | some xs =>
      cases lnO s true h with
      | none => rfl
      | some ys =>
        show some (ys.map fun r => xs.map fun c => pixD p false c r) = some (grid (fun y x => px p x y) ys xs)
        congr 1
  | true =>
    rw [if_pos rfl]
    cases lnO s true h with
    | none => cases lnO s false w <;> rfl
    | some ys =>
      cases lnO s false w with
      | none => rfl
      | some xs =>
        show some (xs.map fun r => ys.map fun c => pixD p true c r) = some (grid (px p) xs ys)
        unfold grid
        congr 2
        funext r
        congr 1
        funext c
        rw [pixD_px]; rfl
theorem lnO_in {s : Stk} (hs : s.ok) (a : Bool) (n : Nat) : LnIn n (lnO s a n) := by
  cases a with
  | false =>
    have := linesA_in (w := n) (h := n) hs
    rw [linesA_eq hs] at this
    cases h : swp s with
    | false => rw [h, if_neg (by decide)] at this; exact this.1
    | true => rw [h, if_pos rfl] at this; exact this.2
  | true =>
    have := linesA_in (w := n) (h := n) hs
    rw [linesA_eq hs] at this
    cases h : swp s with
    | false => rw [h, if_neg (by decide)] at this; exact this.2
    | true => rw [h, if_pos rfl] at this; exact this.1
theorem run1_ne : ∀ (s : Stk) (x : Bool × Ln), (∀ xs, x.2 = some xs → xs ≠ []) → ∀ xs, (run1 s x).2 = some xs → xs ≠ []
  | [], _, h => h
  | e :: s, (a, l), h => by
    refine run1_ne s (step1 e (a, l)) fun xs hx => ?_
    by_cases hT : e.isT = true
    · cases e with
      | turn q =>
        have rc : ∀ xs, rv l = some xs → xs ≠ [] := fun xs hx => by
          cases l with
          | none => cases hx
          | some ys => cases hx; exact fun z => h ys rfl (List.reverse_eq_nil_iff.mp z)
        unfold step1 at hx
        simp only at hx
        split at hx
        · cases a
          · exact h xs hx
          · exact rc xs hx
        · split at hx
          · exact rc xs hx
          · cases a
            · exact rc xs hx
            · exact h xs hx
      | _ => cases hT
    · rw [step1_line (by simpa using hT)] at hx
      cases l with
      | none => cases hx
      | some ys =>
        have hx : kept (lineE e a ys) = some xs := hx
        unfold kept at hx
        split at hx
        · cases hx
        · rename_i hne
          cases hx; exact hne
theorem lnO_ne (s : Stk) (a : Bool) {n : Nat} (hn : 0 < n) : ∀ xs, lnO s a n = some xs → xs ≠ [] := run1_ne s (a, idL n) fun xs hx => by
  cases hx
  intro z
  have := congrArg List.length z
  rw [range_len] at this
  simp at this; omega
theorem px_blk {p : Pc} {c r : D} (h : c = .none ∨ r = .none) : px p c r = .none := by
  rcases h with rfl | rfl
  · rfl
  · cases c <;> rfl
theorem blk_get {xs : List D} {i : Nat} {x : D} (h : Blk xs) (e : xs[i]? = some x) : x = .none := h x (List.mem_of_getElem? e)
theorem msk_get {xs ys : List D} (h : msk xs = msk ys) {i : Nat} {x y : D} (h1 : xs[i]? = some x) (h2 : ys[i]? = some y) : isNon x = isNon y := by
  have := congrArg (·[i]?) h
  unfold msk at this
  simp only [List.getElem?_map, h1, h2, Option.map_some] at this
  exact Option.some.inj this
theorem non_iff (d : D) : isNon d = true ↔ d = .none := by cases d <;> simp [isNon]
theorem only_get {xs : List D} {d x : D} (h : Only xs d) {i : Nat} (e : xs[i]? = some x) (hn : x ≠ .none) : x = d := (h.2.2 x (List.mem_of_getElem? e)).resolve_left hn
/-- doing the same gives the same pictures -/
theorem agree_view {p : Pc} {a b : Bool} {c r c' r' : Ln} (h : Agree (a != b) c r c' r') : vw p a c r = vw p b c' r' := by
  rcases h with ⟨h1, h2⟩ | ⟨xs, ys, xs', ys', rfl, rfl, rfl, rfl, hl, h⟩
  · have e1 : vw p a c r = none := by
      rcases h1 with rfl | rfl
      · rfl
      · cases c <;> rfl
    have e2 : vw p b c' r' = none := by
      rcases h2 with rfl | rfl
      · rfl
      · cases c' <;> rfl
    rw [e1, e2]
  · show some _ = some _
    congr 1
    rcases h with ⟨h1, h2⟩ | ⟨_, _, h⟩
    · have b1 : ∀ (i j : Nat) (x y : D), xs[i]? = some x → ys[j]? = some y → px p x y = .none := fun i j x y e1 e2 => px_blk (h1.imp (fun q => blk_get q e1) fun q => blk_get q e2)
      have b2 : ∀ (i j : Nat) (x y : D), xs'[i]? = some x → ys'[j]? = some y → px p x y = .none := fun i j x y e1 e2 => px_blk (h2.imp (fun q => blk_get q e1) fun q => blk_get q e2)
      cases a <;> cases b
      · exact grid_eq hl.2 hl.1 fun i j x y x' y' e1 e2 e3 e4 => by rw [b1 j i y x e2 e1, b2 j i y' x' e4 e3]
      · exact grid_eq hl.2 hl.1 fun i j x y x' y' e1 e2 e3 e4 => by rw [b1 j i y x e2 e1, b2 i j x' y' e3 e4]
      · exact grid_eq hl.1 hl.2 fun i j x y x' y' e1 e2 e3 e4 => by rw [b1 i j x y e1 e2, b2 j i y' x' e4 e3]
      · exact grid_eq hl.1 hl.2 fun i j x y x' y' e1 e2 e3 e4 => by rw [b1 i j x y e1 e2, b2 i j x' y' e3 e4]
    · have same : ∀ {i j : Nat} {x y x' y' : D}, (∃ d, Only xs d ∧ Only xs' d) → (∃ d, Only ys d ∧ Only ys' d) → msk xs = msk ys' → msk ys = msk xs' → xs[i]? = some x → ys[j]? = some y → xs'[j]? = some x' → ys'[i]? = some y' → px p x y = px p x' y' := by
        intro i j x y x' y' ⟨d, o1, o2⟩ ⟨e, o3, o4⟩ k1 k2 g1 g2 g3 g4
        have m1 := msk_get k1 g1 g4
        have m2 := msk_get k2 g2 g3
        by_cases hx : x = .none
        · have : y' = .none := (non_iff y').mp (m1 ▸ (non_iff x).mpr hx)
          rw [px_blk (.inl hx), px_blk (.inr this)]
        · by_cases hy : y = .none
          · have : x' = .none := (non_iff x').mp (m2 ▸ (non_iff y).mpr hy)
            rw [px_blk (.inr hy), px_blk (.inl this)]
          · have hx' : x' ≠ .none := fun z => hy ((non_iff y).mp (m2 ▸ (non_iff x').mpr z))
            have hy' : y' ≠ .none := fun z => hx ((non_iff x).mp (m1 ▸ (non_iff y').mpr z))
            rw [only_get o1 g1 hx, only_get o2 g3 hx', only_get o3 g2 hy, only_get o4 g4 hy']
      cases a <;> cases b
      · obtain ⟨rfl, rfl⟩ := h; rfl
      · obtain ⟨h1, h2, h3, h4⟩ := h
        exact grid_eq hl.2 hl.1 fun i j x y x' y' e1 e2 e3 e4 => same h1 h2 h3 h4 e2 e1 e3 e4
      · obtain ⟨h1, h2, h3, h4⟩ := h
        exact grid_eq hl.1 hl.2 fun i j x y x' y' e1 e2 e3 e4 => same h1 h2 h3 h4 e1 e2 e4 e3
      · obtain ⟨rfl, rfl⟩ := h; rfl
theorem px_unlike {w h : Nat} {c r : D} (hc : InR w c) (hr : InR h r) : px (unlike w h) c r = dueD w c r := by
  have := pix_unlike (w := w) (h := h) (sw := false) hc hr
  rw [pixD_px] at this
  exact this
/-- .. of a picture of unlike pixels they differ else -/
theorem dueD_none {w : Nat} {c r : D} (hc : cell c) (hr : cell r) : dueD w c r = .none ↔ (c = .none ∨ r = .none) := by
  rcases hc with rfl | ⟨i, rfl⟩
  · exact ⟨fun _ => .inl rfl, fun _ => rfl⟩
  · rcases hr with rfl | ⟨j, rfl⟩
    · exact ⟨fun _ => .inr rfl, fun _ => rfl⟩
    · constructor
      · intro h; cases h
      · rintro (h | h) <;> cases h
theorem dueD_inj {w h : Nat} {c r c' r' : D} (hc : InR w c) (hr : InR h r) (hc' : InR w c') (hr' : InR h r') (n1 : c ≠ .none) (n2 : r ≠ .none) (e : dueD w c r = dueD w c' r') : c = c' ∧ r = r' := by
  rcases hc with rfl | ⟨i, rfl, hi⟩
  · exact absurd rfl n1
  rcases hr with rfl | ⟨j, rfl, hj⟩
  · exact absurd rfl n2
  rcases hc' with rfl | ⟨i', rfl, hi'⟩
  · cases e
  rcases hr' with rfl | ⟨j', rfl, hj'⟩
  · cases e
  have e : PyData.int ((w : Int) * (j : Int) + (i : Int)) = PyData.int ((w : Int) * (j' : Int) + (i' : Int)) := e
  injection e with e
  rw [← Int.natCast_mul, ← Int.natCast_mul, ← Int.natCast_add, ← Int.natCast_add] at e
  have e := Int.ofNat.inj e
  have h1 : (w * j + i) % w = i := by rw [Nat.mul_add_mod, Nat.mod_eq_of_lt hi]
  have h2 : (w * j' + i') % w = i' := by rw [Nat.mul_add_mod, Nat.mod_eq_of_lt hi']
  rw [e, h2] at h1
  subst h1
  have : w * j = w * j' := by omega
  have := Nat.eq_of_mul_eq_mul_left (by omega) this
  subst this
  exact ⟨rfl, rfl⟩
theorem not_blk {xs : List D} (h : ¬Blk xs) : ∃ (i : Nat) (x : D), xs[i]? = some x ∧ x ≠ .none := by
  apply Classical.byContradiction
  intro q
  refine h fun x hx => Classical.byContradiction fun z => q ?_
  obtain ⟨i, hi⟩ := mem_get hx
  exact ⟨i, x, hi, z⟩
theorem get_of {xs : List D} {n i : Nat} (h : xs.length = n) (hi : i < n) : ∃ x, xs[i]? = some x := ⟨_, List.getElem?_eq_getElem (by omega)⟩
theorem lt_of_get {xs : List D} {i : Nat} {x : D} (h : xs[i]? = some x) : i < xs.length := (List.getElem?_eq_some_iff.mp h).1
theorem view_agree {w h : Nat} {a b : Bool} {c r c' r' : Ln} (ic : LnIn w c) (ir : LnIn h r) (ic' : LnIn w c') (ir' : LnIn h r') (nc : ∀ xs, c = some xs → xs ≠ []) (nr : ∀ xs, r = some xs → xs ≠ [])
    (e : vw (unlike w h) a c r = vw (unlike w h) b c' r') : Agree (a != b) c r c' r' := by
  cases c with
  | none =>
    left
    refine ⟨.inl rfl, ?_⟩
    cases c' with
    | none => exact .inl rfl
    | some xs' => cases r' with
      | none => exact .inr rfl
      | some ys' => cases e
  | some xs =>
    cases r with
    | none =>
      left
      refine ⟨.inr rfl, ?_⟩
      cases c' with
      | none => exact .inl rfl
      | some xs' => cases r' with
        | none => exact .inr rfl
        | some ys' => cases e
    | some ys =>
      cases c' with
      | none => cases e
      | some xs' =>
        cases r' with
        | none => cases e
        | some ys' =>
          have e := Option.some.inj e
          have nx := nc xs rfl
          have ny := nr ys rfl
          have jx := ic xs rfl
          have jy := ir ys rfl
          have jx' := ic' xs' rfl
          have jy' := ir' ys' rfl
          refine .inr ⟨xs, ys, xs', ys', rfl, rfl, rfl, rfl, ?_⟩
          -- straight
          have straight : xs.length = xs'.length → ys.length = ys'.length → (∀ (i j : Nat) (x y x' y' : D), xs[i]? = some x → ys[j]? = some y → xs'[i]? = some x' → ys'[j]? = some y' → px (unlike w h) x y = px (unlike w h) x' y') → AgreeS false xs ys xs' ys' := by
            intro l1 l2 g
            have g : ∀ (i j : Nat) (x y x' y' : D), xs[i]? = some x → ys[j]? = some y → xs'[i]? = some x' → ys'[j]? = some y' → dueD w x y = dueD w x' y' := fun i j x y x' y' e1 e2 e3 e4 => by
              have := g i j x y x' y' e1 e2 e3 e4
              rwa [px_unlike (jx _ (List.mem_of_getElem? e1)) (jy _ (List.mem_of_getElem? e2)), px_unlike (jx' _ (List.mem_of_getElem? e3)) (jy' _ (List.mem_of_getElem? e4))] at this
            refine ⟨⟨l1, l2⟩, ?_⟩
            by_cases hb : Blk xs ∨ Blk ys
            · left
              refine ⟨hb, Classical.byContradiction fun hb' => ?_⟩
              rw [not_or] at hb'
              obtain ⟨i, x', g1, n1⟩ := not_blk hb'.1
              obtain ⟨j, y', g2, n2⟩ := not_blk hb'.2
              obtain ⟨x, g3⟩ := get_of l1 (lt_of_get g1)
              obtain ⟨y, g4⟩ := get_of l2 (lt_of_get g2)
              have q := g i j x y x' y' g3 g4 g1 g2
              have cx := (jx x (List.mem_of_getElem? g3)).cell
              have cy := (jy y (List.mem_of_getElem? g4)).cell
              rw [(dueD_none cx cy).mpr (hb.imp (fun z => blk_get z g3) fun z => blk_get z g4)] at q
              rcases (dueD_none (jx' x' (List.mem_of_getElem? g1)).cell (jy' y' (List.mem_of_getElem? g2)).cell).mp q.symm with z | z
              · exact n1 z
              · exact n2 z
            · right
              have hb0 := hb
              rw [not_or] at hb
              obtain ⟨i0, x0, g1, n1⟩ := not_blk hb.1
              obtain ⟨j0, y0, g2, n2⟩ := not_blk hb.2
              obtain ⟨x0', g3⟩ := get_of l1.symm (lt_of_get g1)
              obtain ⟨y0', g4⟩ := get_of l2.symm (lt_of_get g2)
              have q0 := dueD_inj (jx _ (List.mem_of_getElem? g1)) (jy _ (List.mem_of_getElem? g2)) (jx' _ (List.mem_of_getElem? g3)) (jy' _ (List.mem_of_getElem? g4)) n1 n2 (g i0 j0 x0 y0 x0' y0' g1 g2 g3 g4)
              obtain ⟨q1, q2⟩ := q0
              subst q1 q2
              have cx := fun x (hx : x ∈ xs) => (jx x hx).cell
              have ex : xs = xs' := by
                apply List.ext_getElem?
                intro i
                by_cases hi : i < xs.length
                · obtain ⟨x, f1⟩ := get_of rfl hi
                  obtain ⟨x', f2⟩ := get_of l1.symm hi
                  rw [f1, f2]
                  have q := g i j0 x y0 x' y0 f1 g2 f2 g4
                  by_cases hx : x = .none
                  · rw [(dueD_none (jx x (List.mem_of_getElem? f1)).cell (jy _ (List.mem_of_getElem? g2)).cell).mpr (.inl hx)] at q
                    rcases (dueD_none (jx' x' (List.mem_of_getElem? f2)).cell (jy _ (List.mem_of_getElem? g2)).cell).mp q.symm with z | z
                    · rw [hx, z]
                    · exact absurd z n2
                  · rw [(dueD_inj (jx _ (List.mem_of_getElem? f1)) (jy _ (List.mem_of_getElem? g2)) (jx' _ (List.mem_of_getElem? f2)) (jy _ (List.mem_of_getElem? g2)) hx n2 q).1]
                · rw [List.getElem?_eq_none (by omega), List.getElem?_eq_none (by omega)]
              have ey : ys = ys' := by
                apply List.ext_getElem?
                intro i
                by_cases hi : i < ys.length
                · obtain ⟨y, f1⟩ := get_of rfl hi
                  obtain ⟨y', f2⟩ := get_of l2.symm hi
                  rw [f1, f2]
                  have q := g i0 i x0 y x0 y' g1 f1 g3 f2
                  by_cases hy : y = .none
                  · rw [(dueD_none (jx _ (List.mem_of_getElem? g1)).cell (jy _ (List.mem_of_getElem? f1)).cell).mpr (.inr hy)] at q
                    rcases (dueD_none (jx _ (List.mem_of_getElem? g1)).cell (jy' _ (List.mem_of_getElem? f2)).cell).mp q.symm with z | z
                    · exact absurd z n1
                    · rw [hy, z]
                  · rw [(dueD_inj (jx _ (List.mem_of_getElem? g1)) (jy _ (List.mem_of_getElem? f1)) (jx _ (List.mem_of_getElem? g1)) (jy' _ (List.mem_of_getElem? f2)) n1 hy q).2]
                · rw [List.getElem?_eq_none (by omega), List.getElem?_eq_none (by omega)]
              subst ex ey
              exact ⟨hb0, hb0, rfl, rfl⟩
          have crossed : xs.length = ys'.length → ys.length = xs'.length → (∀ (i j : Nat) (x y x' y' : D), xs[i]? = some x → ys[j]? = some y → xs'[j]? = some x' → ys'[i]? = some y' → px (unlike w h) x y = px (unlike w h) x' y') → AgreeS true xs ys xs' ys' := by
            intro l1 l2 g
            have g : ∀ (i j : Nat) (x y x' y' : D), xs[i]? = some x → ys[j]? = some y → xs'[j]? = some x' → ys'[i]? = some y' → dueD w x y = dueD w x' y' := fun i j x y x' y' e1 e2 e3 e4 => by
              have := g i j x y x' y' e1 e2 e3 e4
              rwa [px_unlike (jx _ (List.mem_of_getElem? e1)) (jy _ (List.mem_of_getElem? e2)), px_unlike (jx' _ (List.mem_of_getElem? e3)) (jy' _ (List.mem_of_getElem? e4))] at this
            refine ⟨⟨l1, l2⟩, ?_⟩
            by_cases hb : Blk xs ∨ Blk ys
            · left
              refine ⟨hb, Classical.byContradiction fun hb' => ?_⟩
              rw [not_or] at hb'
              obtain ⟨j, x', g1, n1⟩ := not_blk hb'.1
              obtain ⟨i, y', g2, n2⟩ := not_blk hb'.2
              obtain ⟨x, g3⟩ := get_of l1 (lt_of_get g2)
              obtain ⟨y, g4⟩ := get_of l2 (lt_of_get g1)
              have q := g i j x y x' y' g3 g4 g1 g2
              rw [(dueD_none (jx x (List.mem_of_getElem? g3)).cell (jy y (List.mem_of_getElem? g4)).cell).mpr (hb.imp (fun z => blk_get z g3) fun z => blk_get z g4)] at q
              rcases (dueD_none (jx' x' (List.mem_of_getElem? g1)).cell (jy' y' (List.mem_of_getElem? g2)).cell).mp q.symm with z | z
              · exact n1 z
              · exact n2 z
            · right
              have hb0 := hb
              rw [not_or] at hb
              obtain ⟨i0, x0, g1, n1⟩ := not_blk hb.1
              obtain ⟨j0, y0, g2, n2⟩ := not_blk hb.2
              obtain ⟨x0', g3⟩ := get_of l2.symm (lt_of_get g2)
              obtain ⟨y0', g4⟩ := get_of l1.symm (lt_of_get g1)
              have q0 := dueD_inj (jx _ (List.mem_of_getElem? g1)) (jy _ (List.mem_of_getElem? g2)) (jx' _ (List.mem_of_getElem? g3)) (jy' _ (List.mem_of_getElem? g4)) n1 n2 (g i0 j0 x0 y0 x0' y0' g1 g2 g3 g4)
              obtain ⟨q1, q2⟩ := q0
              subst q1 q2
              -- one place at a time
              have colx : ∀ (i : Nat) (x y' : D), xs[i]? = some x → ys'[i]? = some y' → (x = .none ↔ y' = .none) ∧ (x ≠ .none → x = x0 ∧ y' = y0) := by
                intro i x y' f1 f2
                have q := g i j0 x y0 x0 y' f1 g2 g3 f2
                constructor
                · have a1 := dueD_none (w := w) (jx x (List.mem_of_getElem? f1)).cell (jy _ (List.mem_of_getElem? g2)).cell
                  have a2 := dueD_none (w := w) (jx' _ (List.mem_of_getElem? g3)).cell (jy' y' (List.mem_of_getElem? f2)).cell
                  rw [q] at a1
                  constructor
                  · intro z; exact (a2.mp (a1.mpr (.inl z))).resolve_left n1
                  · intro z; exact (a1.mp (a2.mpr (.inr z))).resolve_right n2
                · intro z
                  have := dueD_inj (jx _ (List.mem_of_getElem? f1)) (jy _ (List.mem_of_getElem? g2)) (jx' _ (List.mem_of_getElem? g3)) (jy' _ (List.mem_of_getElem? f2)) z n2 q
                  exact ⟨this.1, this.2.symm⟩
              have rowy : ∀ (j : Nat) (y x' : D), ys[j]? = some y → xs'[j]? = some x' → (y = .none ↔ x' = .none) ∧ (y ≠ .none → y = y0 ∧ x' = x0) := by
                intro j y x' f1 f2
                have q := g i0 j x0 y x' y0 g1 f1 f2 g4
                constructor
                · have a1 := dueD_none (w := w) (jx _ (List.mem_of_getElem? g1)).cell (jy y (List.mem_of_getElem? f1)).cell
                  have a2 := dueD_none (w := w) (jx' x' (List.mem_of_getElem? f2)).cell (jy' _ (List.mem_of_getElem? g4)).cell
                  rw [q] at a1
                  constructor
                  · intro z; exact (a2.mp (a1.mpr (.inr z))).resolve_right n2
                  · intro z; exact (a1.mp (a2.mpr (.inl z))).resolve_left n1
                · intro z
                  have := dueD_inj (jx _ (List.mem_of_getElem? g1)) (jy _ (List.mem_of_getElem? f1)) (jx' _ (List.mem_of_getElem? f2)) (jy' _ (List.mem_of_getElem? g4)) n1 z q
                  exact ⟨this.2, this.1.symm⟩
              have mk : ∀ {as bs : List D}, as.length = bs.length → (∀ (i : Nat) (x y : D), as[i]? = some x → bs[i]? = some y → (x = .none ↔ y = .none)) → msk as = msk bs := by
                intro as bs l f
                unfold msk
                apply List.ext_getElem?
                intro i
                rw [List.getElem?_map, List.getElem?_map]
                by_cases hi : i < as.length
                · obtain ⟨x, f1⟩ := get_of rfl hi
                  obtain ⟨y, f2⟩ := get_of l.symm hi
                  rw [f1, f2]
                  show some (isNon x) = some (isNon y)
                  congr 1
                  rw [Bool.eq_iff_iff, non_iff, non_iff]
                  exact f i x y f1 f2
                · rw [List.getElem?_eq_none (by omega), List.getElem?_eq_none (by omega)]
              have ox : Only xs x0 := ⟨n1, List.mem_of_getElem? g1, fun x hx => by
                obtain ⟨i, f1⟩ := mem_get hx
                obtain ⟨y', f2⟩ := get_of l1.symm (lt_of_get f1)
                by_cases z : x = .none
                · exact .inl z
                · exact .inr ((colx i x y' f1 f2).2 z).1⟩
              have oy : Only ys y0 := ⟨n2, List.mem_of_getElem? g2, fun y hy => by
                obtain ⟨j, f1⟩ := mem_get hy
                obtain ⟨x', f2⟩ := get_of l2.symm (lt_of_get f1)
                by_cases z : y = .none
                · exact .inl z
                · exact .inr ((rowy j y x' f1 f2).2 z).1⟩
              have ox' : Only xs' x0 := ⟨n1, List.mem_of_getElem? g3, fun x' hx => by
                obtain ⟨j, f2⟩ := mem_get hx
                obtain ⟨y, f1⟩ := get_of l2 (lt_of_get f2)
                by_cases z : x' = .none
                · exact .inl z
                · exact .inr ((rowy j y x' f1 f2).2 fun q => z ((rowy j y x' f1 f2).1.mp q)).2⟩
              have oy' : Only ys' y0 := ⟨n2, List.mem_of_getElem? g4, fun y' hy => by
                obtain ⟨i, f2⟩ := mem_get hy
                obtain ⟨x, f1⟩ := get_of l1 (lt_of_get f2)
                by_cases z : y' = .none
                · exact .inl z
                · exact .inr ((colx i x y' f1 f2).2 fun q => z ((colx i x y' f1 f2).1.mp q)).2⟩
              refine ⟨hb0, fun q => ?_, ⟨x0, ox, ox'⟩, ⟨y0, oy, oy'⟩, mk l1 fun i x y f1 f2 => (colx i x y f1 f2).1, mk l2 fun i x y f1 f2 => (rowy i x y f1 f2).1⟩
              rcases q with q | q
              · exact n1 (blk_get q g3)
              · exact n2 (blk_get q g4)
          cases a <;> cases b
          · obtain ⟨l1, l2, g⟩ := grid_inv ny e
            exact straight l2 l1 fun i j x y x' y' e1 e2 e3 e4 => g j i y x y' x' e2 e1 e4 e3
          · obtain ⟨l1, l2, g⟩ := grid_inv ny e
            exact crossed l2 l1 fun i j x y x' y' e1 e2 e3 e4 => g j i y x x' y' e2 e1 e3 e4
          · obtain ⟨l1, l2, g⟩ := grid_inv nx e
            exact crossed l1 l2 fun i j x y x' y' e1 e2 e3 e4 => g i j x y y' x' e1 e2 e4 e3
          · obtain ⟨l1, l2, g⟩ := grid_inv nx e
            exact straight l1 l2 fun i j x y x' y' e1 e2 e3 e4 => g i j x y x' y' e1 e2 e3 e4
/-- two stacks do the same for a size -/
theorem agree_iff {s t : Stk} (hs : s.ok) (ht : t.ok) {w h : Nat} (hw : 0 < w) (hh : 0 < h) : AgreeAt s t w h ↔ ∀ p, viewL p (linesA w h s) = viewL p (linesA w h t) := by
  constructor
  · intro a p
    rw [viewL_eq hs, viewL_eq ht]
    exact agree_view a
  · intro e
    have e := e (unlike w h)
    rw [viewL_eq hs, viewL_eq ht] at e
    exact view_agree (lnO_in hs _ _) (lnO_in hs _ _) (lnO_in ht _ _) (lnO_in ht _ _) (lnO_ne s _ hw) (lnO_ne s _ hh) e
theorem agree_unlike {s t : Stk} (hs : s.ok) (ht : t.ok) {w h : Nat} (hw : 0 < w) (hh : 0 < h) (e : viewL (unlike w h) (linesA w h s) = viewL (unlike w h) (linesA w h t)) : AgreeAt s t w h := by
  rw [viewL_eq hs, viewL_eq ht] at e
  exact view_agree (lnO_in hs _ _) (lnO_in hs _ _) (lnO_in ht _ _) (lnO_in ht _ _) (lnO_ne s _ hw) (lnO_ne s _ hh) e

/-! Qb1: weights, own lines, views of lines. -/
open PySem
section
variable {Φ : Phi} {Γ : Str → Option D} {ρ ρ1 : Env} {Q : Out → Env → Prop}
/-- a loop that looks for something: rows of things, of which the first that is found ends it -/
theorem en_forF {Z W : Type} {tg : Tg} {it : E} {body : S} {zs : List Z} (dz : Z → D) (row : Z → List W) (P : W → Bool) (g : W → D) (I I' : Env → Prop) (h1 : evI Φ Γ it ρ = some (zs.map dz, ρ1)) (h0 : I ρ1)
    (h : ∀ z ∈ zs, ∀ ρ, I ρ → ∃ ρ1, bindT tg (dz z) ρ = some ρ1 ∧ Ends Φ Γ body ρ1 fun o ρ2 => match o with | .nx => (row z).find? P = none ∧ I ρ2 | .ret v => ∃ w, (row z).find? P = some w ∧ v = g w ∧ I' ρ2)
    (hq : (zs.flatMap row).find? P = none → ∀ ρ, I ρ → Q .nx ρ) (hr : ∀ w, (zs.flatMap row).find? P = some w → ∀ ρ, I' ρ → Q (.ret (g w)) ρ) : Ends Φ Γ (.for_ tg it body) ρ Q := by
  have key : ∀ (zs : List Z) (ρ : Env), (∀ z ∈ zs, ∀ ρ, I ρ → ∃ ρ1, bindT tg (dz z) ρ = some ρ1 ∧ Ends Φ Γ body ρ1 fun o ρ2 => match o with | .nx => (row z).find? P = none ∧ I ρ2 | .ret v => ∃ w, (row z).find? P = some w ∧ v = g w ∧ I' ρ2) → I ρ →
      ∃ o ρ', forLoop tg (evS Φ Γ body) (zs.map dz) ρ = some (o, ρ') ∧ (match o with | .nx => (zs.flatMap row).find? P = none ∧ I ρ' | .ret v => ∃ w, (zs.flatMap row).find? P = some w ∧ v = g w ∧ I' ρ') := by
    intro zs
    induction zs with
    | nil => intro ρ _ h0; exact ⟨.nx, ρ, rfl, rfl, h0⟩
    | cons z zs ih =>
      intro ρ h h0
      obtain ⟨ρ1, b1, o, ρ2, b2, b3⟩ := h z List.mem_cons_self ρ h0
      rw [List.map_cons, List.flatMap_cons, List.find?_append]
      cases o with
      | nx =>
        obtain ⟨o', ρ3, e, q⟩ := ih ρ2 (fun y hy => h y (List.mem_cons_of_mem _ hy)) b3.2
        refine ⟨o', ρ3, by unfold forLoop; rw [b1]; simp only; rw [b2]; exact e, ?_⟩
        rw [b3.1]
        exact q
      | ret v =>
        obtain ⟨w, w1, w2, w3⟩ := b3
        refine ⟨.ret v, ρ2, by unfold forLoop; rw [b1]; simp only; rw [b2], ?_⟩
        rw [w1]
        exact ⟨w, rfl, w2, w3⟩
  obtain ⟨o, ρ', e, q⟩ := key zs ρ1 h h0
  refine ⟨o, ρ', by rw [evS, sB, h1]; exact e, ?_⟩
  cases o with
  | nx => exact hq q.1 _ q.2
  | ret v =>
    obtain ⟨w, w1, rfl, w3⟩ := q
    exact hr w w1 _ w3
theorem ints_map {α : Type} (f : α → Int) : ∀ xs : List α, intsOf (xs.map fun x => PyData.int (f x)) = some (xs.map f)
  | [] => rfl
  | x :: xs => by
    show (intsOf (xs.map fun x => PyData.int (f x))).map (f x :: ·) = _
    rw [ints_map f xs]; rfl
theorem bools_of {α : Type} (f : α → Bool) : ∀ xs : List α, boolsOf (xs.map fun x => PyData.bool (f x)) = some (xs.map f)
  | [] => rfl
  | x :: xs => by
    show (boolsOf (xs.map fun x => PyData.bool (f x))).map (f x :: ·) = _
    rw [bools_of f xs]; rfl
theorem in_three (e : Ed) : cmpX .In (.str (wd e)) (.tuple [.str "trim", .str "pad", .str "corner"]) = some (decide (kd e = 2) || (decide (kd e = 3) || decide (kd e = 4))) := by
  rw [c_inT (wd_sh e) (by decide +kernel)]
  show some (PyData.eqv (.str (wdK 2)) (.str (wdK (kd e))) || (PyData.eqv (.str (wdK 3)) (.str (wdK (kd e))) || (PyData.eqv (.str (wdK 4)) (.str (wdK (kd e))) || false))) = _
  rw [wdK_eqv, wdK_eqv, wdK_eqv, Bool.or_false]
  congr 2
  · exact decide_eq_decide.mpr ⟨fun h => h.symm, fun h => h.symm⟩
  · congr 1 <;> exact decide_eq_decide.mpr ⟨fun h => h.symm, fun h => h.symm⟩
theorem sum_ed {e : Ed} (h : (decide (kd e = 2) || (decide (kd e = 3) || decide (kd e = 4))) = true) : ∃ ds, sliceD e.d (some 1) none = some (.tuple ds) ∧ b1D .sum (.tuple ds) = some (.int (weightE e)) := by
  cases e with
  | trim l t r b =>
    refine ⟨_, rfl, ?_⟩
    show some (PyData.int ((l : Int) + ((t : Int) + ((r : Int) + ((b : Int) + 0))))) = some (.int ((l + t + r + b : Nat) : Int))
    rw [show (l : Int) + ((t : Int) + ((r : Int) + ((b : Int) + 0))) = ((l + t + r + b : Nat) : Int) by omega]
  | pad l t r b =>
    refine ⟨_, rfl, ?_⟩
    show some (PyData.int ((l : Int) + ((t : Int) + ((r : Int) + ((b : Int) + 0))))) = some (.int ((l + t + r + b : Nat) : Int))
    rw [show (l : Int) + ((t : Int) + ((r : Int) + ((b : Int) + 0))) = ((l + t + r + b : Nat) : Int) by omega]
  | corner w c =>
    refine ⟨_, rfl, ?_⟩
    show some (PyData.int ((w : Int) + ((c : Int) + 0))) = some (.int ((w + c : Nat) : Int))
    rw [show (w : Int) + ((c : Int) + 0) = ((w + c : Nat) : Int) by omega]
  | turn q => (have h : false = true := h); cases h
  | flip q => (have h : false = true := h); cases h
  | enlarge q => (have h : false = true := h); cases h
  | reduce q => (have h : false = true := h); cases h
def SpWeightS (F : FSem) : Prop := ∀ (s : Stk), s.length ≤ 1000 → F [.val s.d] = some (.int (weight s), [.val s.d])
theorem SpWeight.s {F : FSem} (h : SpWeight F) : SpWeightS F := fun s _ => h s
def edSum (e : D) : D := match e with
  | .tuple (_ :: ds) => match intsOf ds with
    | some ns => .int ns.sum
    | none => .none
  | _ => .none
def ed3 (e : D) : Bool := match e with
  | .tuple (.str w :: _) => PyData.eqv (.str "trim") (.str w) || (PyData.eqv (.str "pad") (.str w) || PyData.eqv (.str "corner") (.str w))
  | _ => false
theorem ed3_K : ∀ k : _root_.Fin 7, (PyData.eqv (.str "trim") (.str (wdK k)) || (PyData.eqv (.str "pad") (.str (wdK k)) || PyData.eqv (.str "corner") (.str (wdK k)))) = (decide (k = 2) || (decide (k = 3) || decide (k = 4))) := by decide +kernel
theorem ed3_eq (e : Ed) : ed3 e.d = (decide (kd e = 2) || (decide (kd e = 3) || decide (kd e = 4))) := by
  rw [← ed3_K]
  cases e <;> rfl
theorem edSum_eq (e : Ed) (h : (decide (kd e = 2) || (decide (kd e = 3) || decide (kd e = 4))) = true) : edSum e.d = .int (weightE e) := by
  obtain ⟨ds, h1, h2⟩ := sum_ed h
  cases e with
  | trim l t r b =>
    show PyData.int ((l : Int) + ((t : Int) + ((r : Int) + ((b : Int) + 0)))) = (.int ((l + t + r + b : Nat) : Int))
    rw [show (l : Int) + ((t : Int) + ((r : Int) + ((b : Int) + 0))) = ((l + t + r + b : Nat) : Int) by omega]
  | pad l t r b =>
    show PyData.int ((l : Int) + ((t : Int) + ((r : Int) + ((b : Int) + 0)))) = (.int ((l + t + r + b : Nat) : Int))
    rw [show (l : Int) + ((t : Int) + ((r : Int) + ((b : Int) + 0))) = ((l + t + r + b : Nat) : Int) by omega]
  | corner w c =>
    show PyData.int ((w : Int) + ((c : Int) + 0)) = (.int ((w + c : Nat) : Int))
    rw [show (w : Int) + ((c : Int) + 0) = ((w + c : Nat) : Int) by omega]
  | turn q => (have h : false = true := h); cases h
  | flip q => (have h : false = true := h); cases h
  | enlarge q => (have h : false = true := h); cases h
  | reduce q => (have h : false = true := h); cases h
theorem sum_w : ∀ s : Stk, (intsOf (((s.map Ed.d).filter ed3).map edSum)).map List.sum = some ((weight s : Nat) : Int)
  | [] => rfl
  | e :: s => by
    have ih := sum_w s
    have hw : weight (e :: s) = weightE e + weight s := by unfold weight; rw [List.map_cons, List.sum_cons]
    obtain ⟨ns, h1, h2⟩ := Option.map_eq_some_iff.mp ih
    cases h : (decide (kd e = 2) || (decide (kd e = 3) || decide (kd e = 4))) with
    | true =>
      rw [List.map_cons, List.filter_cons_of_pos (by rw [ed3_eq]; exact h), List.map_cons, edSum_eq e h]
      show ((intsOf _).map ((weightE e : Int) :: ·)).map List.sum = _
      rw [h1]
      show some ((weightE e : Int) + ns.sum) = _
      rw [h2, hw, Int.natCast_add]
    | false =>
      rw [List.map_cons, List.filter_cons_of_neg (by rw [ed3_eq, h]; decide), ih]
      have h0 : weightE e = 0 := by
        cases e with
        | trim => cases h
        | pad => cases h
        | corner => cases h
        | _ => rfl
      rw [hw, h0, Nat.zero_add]
theorem sp_weightP : SpWeightS (runF Φ Γ 1 2 t_weight) := by
  intro s hs
  refine runF_of rfl ?_
  unfold t_weight
  apply en_ret
  · apply ev_b1
    · apply ev_compF (ds := s.map Ed.d) ed3 edSum
      · exact ei_seq (ev_var rfl) rfl
      · rfl
      · rw [List.length_map, size_eq]; omega
      · rfl
      intro d hd
      rw [List.mem_map] at hd
      obtain ⟨e, _, rfl⟩ := hd
      refine ⟨[.val s.d, .val e.d], [.val s.d, .val e.d], rfl, ?_, fun _ => rfl, fun h => ?_⟩
      · rw [ed3_eq]
        (law_purse 1 => first | exact ed_idx0 e | exact in_three e)
      · rw [ed3_eq] at h
        obtain ⟨ds, s1, s2⟩ := sum_ed h
        rw [edSum_eq e h]
        apply ee
        · (law_purse 1 => first | exact s1 | exact s2)
        · rfl
    · show (intsOf _).map _ = _
      obtain ⟨ns, h1, h2⟩ := Option.map_eq_some_iff.mp (sum_w s)
      rw [h1]
      show some (PyData.int ns.sum) = _
      rw [h2]
  · exact ⟨rfl, rfl⟩
def most (s t : Stk) : Nat := 3 * (max (weight s) (weight t) + 12)
def SpMost (F : FSem) : Prop := ∀ (s t : Stk), s.length ≤ 1000 → t.length ≤ 1000 → F [.val s.d, .val t.d] = some (.int (most s t), [.val s.d, .val t.d])
theorem max_eq (a b : Nat) : b2D .max (.int a) (.int b) = some (.int ((max a b : Nat) : Int)) := by
  show some (PyData.int (if (b : Int) > (a : Int) then (b : Int) else (a : Int))) = _
  congr 2; split <;> omega
theorem min_eq (a b : Nat) : b2D .min (.int a) (.int b) = some (.int ((min a b : Nat) : Int)) := by
  show some (PyData.int (if (b : Int) < (a : Int) then (b : Int) else (a : Int))) = _
  congr 2; split <;> omega
theorem sp_enough {Fw : FSem} (hw : Φ "weight" = some Fw) (sw : SpWeightS Fw) : SpMost (runF Φ Γ 2 2 t_enough) := by
  intro s t hs ht
  refine runF_of rfl ?_
  unfold t_enough
  apply en_ret
  · (law_purse 1 => first | exact sw s hs | exact sw t ht | exact max_eq _ _ | exact o_mulI (.inl (by decide)))
  · exact ⟨rfl, congrArg PyData.int (by unfold most; omega)⟩
theorem sp_lawmost {Fw : FSem} (hw : Φ "_law_weight" = some Fw) (sw : SpWeight Fw) : SpMost (runF Φ Γ 2 2 t_law_most) := by
  intro s t hs ht
  refine runF_of rfl ?_
  unfold t_law_most
  apply en_ret
  · (law_purse 1 => first | exact sw s | exact sw t | exact max_eq _ _ | exact o_mulI (.inl (by decide)))
  · exact ⟨rfl, congrArg PyData.int (by unfold most; omega)⟩
def SpOwn (F : FSem) : Prop := ∀ (n : Nat) (s : Stk), s.ok → Fit n n s → F [.val (.int n), .val s.d] = some (.tuple [(lnO s false n).d, (lnO s true n).d], [.val (.int n), .val s.d])
theorem sp_own {Fl : FSem} (hl : Φ "lines_after" = some Fl) (sl : SpLines Fl) : SpOwn (runF Φ Γ 2 5 t_own_lines) := by
  intro n s hs hf
  refine runF_of rfl ?_
  unfold t_own_lines
  have e1 := sl n n s hs hf
  rw [linesA_eq hs] at e1
  apply en_seq
  cases h : swp s with
  | false =>
    rw [h, if_neg (by decide)] at e1
    (law_purse 2 => exact e1)
    exact ⟨rfl, rfl⟩
  | true =>
    rw [h, if_pos rfl] at e1
    (law_purse 2 => exact e1)
    exact ⟨rfl, rfl⟩
def SpSwapped (F : FSem) : Prop := ∀ (s : Stk), s.ok → s.length ≤ 1000 → F [.val s.d] = some (.bool (swp s), [.val s.d])
def oddT (e : Ed) : Bool := match e with
  | .turn q => decide (q ≠ 2)
  | _ => false
theorem axS_odd : ∀ (s : Stk) (a : Bool), axS s a = if (s.countP oddT) % 2 = 1 then !a else a
  | [], a => rfl
  | e :: s, a => by
    show axS s (ax1 e a) = _
    rw [axS_odd s, List.countP_cons]
    have : ax1 e a = if oddT e then !a else a := by
      cases e with
      | turn q =>
        unfold ax1 oddT
        by_cases hq : q = 2 <;> simp [hq]
      | _ => rfl
    rw [this]
    cases oddT e with
    | false => simp
    | true =>
      simp only [if_true]
      by_cases h : s.countP oddT % 2 = 1
      · rw [if_pos h, if_neg (by omega)]; simp
      · rw [if_neg h, if_pos (by omega)]
def oddD (d : D) : Bool := match d with
  | .tuple [.str w, .int q] => PyData.eqv (.str w) (.str "turn") && !PyData.eqv (.int q) (.int 2)
  | _ => false
theorem oddD_eq (e : Ed) : oddD e.d = oddT e := by
  cases e with
  | turn q =>
    show (PyData.eqv (.str "turn") (.str "turn") && !((q : Int) == 2)) = decide (q ≠ 2)
    rw [show PyData.eqv (.str "turn") (.str "turn") = true by decide +kernel, Bool.true_and]
    by_cases h : q = 2
    · subst h; rfl
    · have : ((q : Int) == 2) = false := by simp; omega
      rw [this, decide_eq_true h]; rfl
  | flip dn => cases dn <;> rfl
  | enlarge n => show (PyData.eqv (.str "enlarge") (.str "turn") && !PyData.eqv (.int n) (.int 2)) = false; rw [show PyData.eqv (.str "enlarge") (.str "turn") = false by decide +kernel]; rfl
  | reduce n => show (PyData.eqv (.str "reduce") (.str "turn") && !PyData.eqv (.int n) (.int 2)) = false; rw [show PyData.eqv (.str "reduce") (.str "turn") = false by decide +kernel]; rfl
  | trim => rfl
  | pad => rfl
  | corner => rfl
theorem sp_swapped : SpSwapped (runF Φ Γ 1 2 t_is_swapped) := by
  intro s hs hl
  refine runF_of rfl ?_
  unfold t_is_swapped
  have key : ev Φ Γ (.comp [1] (.one 1) (.seq (.var 0)) (.and (.cmp .Eq (.idx (.var 1) (.kI 0)) (.kS "turn")) (.cmp .NotEq (.idx (.var 1) (.kI 1)) (.kI 2))) (.var 1)) [.val s.d, .non] = some (.list ((s.filter oddT).map Ed.d), [.val s.d, .non]) := by
    have e : (s.filter oddT).map Ed.d = ((s.map Ed.d).filter oddD).map id := by
      rw [List.map_id, List.filter_map]
      congr 1
      apply List.filter_congr
      intro e _
      exact (oddD_eq e).symm
    rw [e]
    apply ev_compF
    · exact ei_seq (ev_var rfl) rfl
    · rfl
    · rw [List.length_map, size_eq]; omega
    · rfl
    intro d hd
    rw [List.mem_map] at hd
    obtain ⟨e, he, rfl⟩ := hd
    refine ⟨[.val s.d, .val e.d], [.val s.d, .val e.d], rfl, ?_, fun _ => rfl, fun _ => ⟨_, ev_var rfl, rfl⟩⟩
    rw [oddD_eq]
    by_cases hT : e.isT = true
    · cases e with
      | turn q =>
        have ne : cmpX .NotEq (.int q) (.int 2) = some (oddT (.turn q)) := by
          rw [c_ne rfl rfl]
          show some (!((q : Int) == 2)) = some (decide (q ≠ 2))
          by_cases h : q = 2
          · subst h; rfl
          · have : ((q : Int) == 2) = false := by simp; omega
            rw [this, decide_eq_true h]; rfl
        have := ev_and (Φ := Φ) (Γ := Γ) (c := true) (d := oddT (.turn q)) (a := .cmp .Eq (.idx (.var 1) (.kI 0)) (.kS "turn")) (b := .cmp .NotEq (.idx (.var 1) (.kI 1)) (.kI 2)) (ρ := [.val s.d, .val (Ed.turn q).d]) (by (law_purse 1 => first | exact ed_idx0 _ | exact wt_turn (.turn q))) (fun _ => by (law_purse 1 => exact ne))
        rw [Bool.true_and] at this
        exact this
      | _ => cases hT
    · have hT : e.isT = false := by simpa using hT
      have ho : oddT e = false := by cases e <;> first | rfl | cases hT
      have hk : decide (kd e = 0) = false := by rw [← isT_kd]; exact hT
      rw [ho]
      apply ev_andF
      · (law_purse 1 => first | exact ed_idx0 _ | (law_purse 19 => fail))
      · exact hk
  apply en_ret
  · (law_purse 1 => exact key)
  · refine ⟨rfl, ?_⟩
    show PyData.bool (PyData.eqv (.int ((((s.filter oddT).map Ed.d).length : Nat) % 2)) (.int 1)) = _
    rw [List.length_map]
    congr 1
    unfold swp
    rw [axS_odd, List.countP_eq_length_filter]
    show ((((s.filter oddT).length : Int) % 2) == 1) = _
    by_cases h : (s.filter oddT).length % 2 = 1
    · rw [if_pos h]; simp; omega
    · rw [if_neg h]; simp; omega
/-! ### views -/
def somes (xs : List D) : List D := xs.filter fun d => !isNon d
def onlyL (ys : List D) : D := match ys with
  | [] => .none
  | y :: r => if PyData.eqvAll (y :: r) (List.replicate (r.length + 1) y) then y else .none
def onlyD (xs : List D) : D := onlyL (somes xs)
def blkB (xs : List D) : Bool := decide (somes xs = [])
theorem blkB_iff (xs : List D) : blkB xs = true ↔ Blk xs := by
  unfold blkB somes Blk
  rw [decide_eq_true_eq, List.filter_eq_nil_iff]
  constructor
  · intro h x hx
    have := h x hx
    rw [← non_iff]; simpa using this
  · intro h x hx
    rw [(non_iff x).mpr (h x hx)]; simp
theorem somes_cells {xs : List D} (h : Cells xs) : Cells (somes xs) := fun x hx => h x ((List.mem_filter.mp hx).1)
theorem eqvAll_iff {xs ys : List D} (hx : Cells xs) (hy : Cells ys) : PyData.eqvAll xs ys = true ↔ xs = ys := by
  constructor
  · exact eqvAll_eq xs ys (cells_pl hx).1 (cells_pl hy).1
  · rintro rfl
    exact PySem.SeqAt.eqv_refl (.list xs) (pl_lay _ (show plD (.list xs) = true from (cells_pl hx).1))
theorem onlyD_iff {xs : List D} (hx : Cells xs) (d : D) : (onlyD xs = d ∧ d ≠ .none) ↔ Only xs d := by
  have hc := somes_cells hx
  have mem : ∀ x, x ∈ somes xs ↔ x ∈ xs ∧ x ≠ .none := fun x => by
    unfold somes
    rw [List.mem_filter]
    constructor
    · rintro ⟨a, b⟩
      exact ⟨a, fun z => by rw [(non_iff x).mpr z] at b; cases b⟩
    · rintro ⟨a, b⟩
      refine ⟨a, ?_⟩
      cases h : isNon x with
      | true => exact absurd ((non_iff x).mp h) b
      | false => rfl
  unfold onlyD
  cases h : somes xs with
  | nil =>
    constructor
    · rintro ⟨rfl, q⟩; exact absurd rfl q
    · rintro ⟨q1, q2, _⟩
      have := (mem d).mpr ⟨q2, q1⟩
      rw [h] at this; cases this
  | cons y r =>
    have hy := (mem y).mp (by rw [h]; exact List.mem_cons_self)
    rw [h] at hc
    have hr : Cells (List.replicate (r.length + 1) y) := fun x hx => by rw [List.eq_of_mem_replicate hx]; exact hc y List.mem_cons_self
    have hiff := eqvAll_iff hc hr
    unfold onlyL
    by_cases q : PyData.eqvAll (y :: r) (List.replicate (r.length + 1) y) = true
    · simp only [q, if_true]
      have e := hiff.mp q
      constructor
      · rintro ⟨rfl, q1⟩
        refine ⟨q1, hy.1, fun x hx => ?_⟩
        by_cases z : x = .none
        · exact .inl z
        · right
          have := (mem x).mpr ⟨hx, z⟩
          rw [h, e] at this
          exact List.eq_of_mem_replicate this
      · rintro ⟨q1, q2, q3⟩
        refine ⟨?_, q1⟩
        exact (q3 y hy.1).resolve_left hy.2
    · simp only [q, if_false, Bool.false_eq_true]
      constructor
      · rintro ⟨rfl, q1⟩; exact absurd rfl q1
      · rintro ⟨q1, q2, q3⟩
        exfalso
        apply q
        apply hiff.mpr
        have : ∀ x ∈ y :: r, x = y := fun x hx => by
          rw [← h] at hx
          have hx := (mem x).mp hx
          rw [(q3 x hx.1).resolve_left hx.2, (q3 y hy.1).resolve_left hy.2]
        exact List.eq_replicate_iff.mpr ⟨rfl, this⟩
theorem onlyD_cell {xs : List D} (hx : Cells xs) : cell (onlyD xs) := by
  have hc := somes_cells hx
  unfold onlyD
  cases h : somes xs with
  | nil => exact .inl rfl
  | cons y r =>
    unfold onlyL
    simp only
    split
    · rw [h] at hc; exact hc y List.mem_cons_self
    · exact .inl rfl
def viewD : Ln → D
  | none => .none
  | some xs => .tuple [.list xs, .int xs.length, .bool (blkB xs), onlyD xs]
def SpOnly (F : FSem) : Prop := ∀ (xs : List D), Cells xs → xs.length ≤ 5000000 → F [.val (.list xs)] = some (onlyL xs, [.val (.list xs)])
theorem eqv_list (xs ys : List D) : PyData.eqv (.list xs) (.list ys) = PyData.eqvAll xs ys := rfl
theorem sp_only : SpOnly (runF Φ Γ 1 1 t_only) := by
  intro xs hc hl
  refine runF_of rfl ?_
  unfold t_only
  have hs := cells_sh hc
  cases xs with
  | nil =>
    apply en_ret
    · apply ev_iteF
      · apply ev_andF
        · (law_purse 1 => exact c_ne (b := .list []) rfl rfl)
        · rfl
      · rfl
      · exact ev_kN
    · exact ⟨rfl, rfl⟩
  | cons y r =>
    have cr : Cells (List.replicate (r.length + 1) y) := fun x hx => by rw [List.eq_of_mem_replicate hx]; exact hc y List.mem_cons_self
    have hr := cells_sh cr
    have i0 : idxD (.list (y :: r)) (.int 0) = some y := atI_nat' (i := 0) rfl
    have mul : opX .Mult (.list [y]) (.int ((y :: r).length : Nat)) = some (.list (List.replicate (r.length + 1) y)) := by
      have := o_mulL (xs := [y]) (n := (y :: r).length) (by simp at hl ⊢; omega) (by simp at hl ⊢; omega)
      rw [flat1] at this
      exact this
    have cond : ∀ b, PyData.eqvAll (y :: r) (List.replicate (r.length + 1) y) = b → ev Φ Γ (.and (.cmp .NotEq (.var 0) (.lst .nil)) (.cmp .Eq (.var 0) (.bin .Mult (.lst (.cons (.idx (.var 0) (.kI 0)) .nil)) (.b1 .len (.var 0))))) [.val (.list (y :: r))] = some (.bool b, [.val (.list (y :: r))]) := by
      intro b hb
      have := ev_and (Φ := Φ) (Γ := Γ) (c := true) (d := b) (a := .cmp .NotEq (.var 0) (.lst .nil)) (b := .cmp .Eq (.var 0) (.bin .Mult (.lst (.cons (.idx (.var 0) (.kI 0)) .nil)) (.b1 .len (.var 0)))) (ρ := [.val (.list (y :: r))]) (by (law_purse 1 => exact c_ne (b := .list []) hs rfl)) (fun _ => by
        have q := c_eq hs hr
        rw [eqv_list, hb] at q
        (law_purse 1 => first | exact mul | exact q | exact i0))
      rw [Bool.true_and] at this
      exact this
    by_cases q : PyData.eqvAll (y :: r) (List.replicate (r.length + 1) y) = true
    · apply en_ret
      · apply ev_iteT
        · exact cond true q
        · rfl
        · (law_purse 1 => exact i0)
      · refine ⟨rfl, ?_⟩
        unfold onlyL
        simp only [q, if_true]
    · have q : PyData.eqvAll (y :: r) (List.replicate (r.length + 1) y) = false := by simpa using q
      apply en_ret
      · apply ev_iteF
        · exact cond false q
        · rfl
        · exact ev_kN
      · refine ⟨rfl, ?_⟩
        unfold onlyL
        simp only [q, if_false, Bool.false_eq_true]
theorem ev_somes {ρ : Env} {i j : Nat} {xs : List D} (h1 : ρ[i]? = some (.val (.list xs))) (h2 : noHeld [j] ρ = true) (h3 : xs.length ≤ 5000000) (h4 : backE [j] ρ (wipeE [j] ρ) = ρ) (h5 : ∀ d, setV j d (wipeE [j] ρ) = some ((wipeE [j] ρ).set j (.val d))) (hj : j < ρ.length) :
    ev Φ Γ (.comp [j] (.one j) (.seq (.var i)) (.cmp .IsNot (.var j) .kN) (.var j)) ρ = some (.list (somes xs), ρ) := by
  have e : somes xs = (xs.filter fun d => !isNon d).map id := by rw [List.map_id]; rfl
  rw [e]
  have hw : (wipeE [j] ρ).length = ρ.length := by show (ρ.set j Sl.non).length = _; rw [List.length_set]
  have hget : ∀ d : D, ((wipeE [j] ρ).set j (Sl.val d))[j]? = some (Sl.val d) := fun d => by
    rw [List.getElem?_set_self (by rw [hw]; exact hj)]
  have hback : ∀ d : D, wipeE [j] ((wipeE [j] ρ).set j (Sl.val d)) = wipeE [j] ρ := fun d => by
    show ((ρ.set j Sl.non).set j (Sl.val d)).set j Sl.non = ρ.set j Sl.non
    rw [List.set_set, List.set_set]
  apply ev_compF
  · exact ei_seq (ev_var h1) rfl
  · exact h2
  · rw [size_eq]; omega
  · exact h4
  intro d hd
  exact ⟨_, _, h5 d, ev_cmp (ev_var (hget d)) ev_kN c_isn, fun _ => hback d, fun _ => ⟨_, ev_var (hget d), hback d⟩⟩
def SpView (F : FSem) : Prop := ∀ (l : Ln), LnOk 5000000 l → F [.val l.d] = some (viewD l, [.val l.d])
theorem sp_view {Fo : FSem} (ho : Φ "only" = some Fo) (so : SpOnly Fo) : SpView (runF Φ Γ 1 3 t_view) := by
  intro l hl
  refine runF_of rfl ?_
  unfold t_view
  apply en_seq
  cases l with
  | none =>
    (law_purse 2 => fail)
    exact ⟨rfl, rfl⟩
  | some xs =>
    obtain ⟨x1, x2, _⟩ := hl xs rfl
    apply en_iteF
    · (law_purse 1 => fail)
    · rfl
    apply en_skip
    apply sq_nx
    apply en_seq
    apply en_set
    · exact ev_somes (i := 0) (j := 2) rfl rfl x2 rfl (fun _ => rfl) (by simp [Ln.d])
    · exact rfl
    apply sq_nx
    have hlen : (somes xs).length ≤ 5000000 := Nat.le_trans (List.length_filter_le _ _) x2
    have e1 := so (somes xs) (somes_cells x1) hlen
    have e2 : cmpX .Eq (.list (somes xs)) (.list []) = some (blkB xs) := by
      rw [c_eq (cells_sh (somes_cells x1)) rfl, eqv_nilL]; rfl
    apply en_ret
    · (law_purse 1 => first | exact e1 | exact e2)
    · exact ⟨rfl, rfl⟩
def SpMask (F : FSem) : Prop := ∀ (xs : List D), xs.length ≤ 5000000 → F [.val (.list xs)] = some (.list ((msk xs).map .bool), [.val (.list xs)])
theorem sp_mask : SpMask (runF Φ Γ 1 2 t_mask) := by
  intro xs hl
  refine runF_of rfl ?_
  unfold t_mask
  apply en_ret
  · apply ev_compM (ds := xs) fun d => .bool (isNon d)
    · exact ei_seq (ev_var rfl) rfl
    · rfl
    · rw [size_eq]; omega
    · rfl
    intro d hd
    refine ⟨_, rfl, ?_⟩
    apply ee
    · (law_purse 1 => fail)
    · rfl
  · refine ⟨rfl, ?_⟩
    unfold msk
    rw [List.map_map]; rfl
end

/-! Qb2: the same result; telling sizes. -/
open PySem
noncomputable def pB (p : Prop) : Bool := @decide p (Classical.propDecidable p)
theorem pB_iff (p : Prop) : pB p = true ↔ p := by unfold pB; exact @decide_eq_true_iff p (Classical.propDecidable p)
theorem pB_true {p : Prop} (h : p) : pB p = true := (pB_iff p).mpr h
theorem pB_false {p : Prop} (h : ¬p) : pB p = false := by
  cases q : pB p with
  | false => rfl
  | true => exact absurd ((pB_iff p).mp q) h
theorem pB_eq {p : Prop} {b : Bool} (h : b = true ↔ p) : b = pB p := by
  cases b with
  | true => exact (pB_true (h.mp rfl)).symm
  | false => exact (pB_false fun q => by cases h.mpr q).symm
theorem pB_congr {p q : Prop} (h : p ↔ q) : pB p = pB q := pB_eq ((pB_iff p).trans h)
section
variable {Φ : Phi} {Γ : Str → Option D} {ρ ρ1 ρ2 : Env} {Q : Out → Env → Prop}
theorem ei_zipT {a b : E} {xs ys : List D} (h : ev Φ Γ a ρ = some (.tuple xs, ρ1)) (h2 : ev Φ Γ b ρ1 = some (.tuple ys, ρ2)) : evI Φ Γ (.zip a b) ρ = some (zipD xs ys, ρ2) := by
  show vZip _ _ ρ = _
  unfold vZip eB
  rw [h]; simp only; rw [h2]; rfl
theorem bools_lay : ∀ bs : List Bool, PyData.canLayAll0 (bs.map .bool) = true ∧ PyData.depthAll (bs.map .bool) = 0
  | [] => ⟨rfl, rfl⟩
  | b :: bs => by
    have ih := bools_lay bs
    exact ⟨by show (true && PyData.canLayAll0 (bs.map .bool)) = true; rw [ih.1]; rfl, by show max 0 (PyData.depthAll (bs.map .bool)) = 0; rw [ih.2]; rfl⟩
theorem sh_bools (bs : List Bool) : sh (.list (bs.map .bool)) = true := by
  have h := bools_lay bs
  show (PyData.canLayAll0 (bs.map .bool) && decide (PyData.depthAll (bs.map .bool) + 1 ≤ 64)) = true
  rw [h.1, h.2]; rfl
theorem eqv_bools : ∀ bs cs : List Bool, PyData.eqvAll (bs.map .bool) (cs.map .bool) = decide (bs = cs)
  | [], [] => rfl
  | [], _ :: _ => rfl
  | _ :: _, [] => rfl
  | b :: bs, c :: cs => by
    show (PyData.eqv (.bool b) (.bool c) && PyData.eqvAll (bs.map .bool) (cs.map .bool)) = _
    rw [eqv_bools bs cs, show PyData.eqv (.bool b) (.bool c) = decide (b = c) by cases b <;> cases c <;> rfl]
    cases b <;> cases c <;> simp
theorem bools_ne (bs cs : List Bool) : cmpX .NotEq (.list (bs.map .bool)) (.list (cs.map .bool)) = some (!decide (bs = cs)) := by
  rw [c_ne (sh_bools _) (sh_bools _), eqv_list, eqv_bools]
theorem cell_eqv {a b : D} (ha : cell a) (hb : cell b) : PyData.eqv a b = pB (a = b) := by
  apply pB_eq
  constructor
  · exact eqv_eq a b (cell_pl ha).1 (cell_pl hb).1
  · rintro rfl; exact eqv_self a (cell_pl ha).1
theorem cell_sh {a : D} (ha : cell a) : sh a = true := sh_of (cell_pl ha).1 (by rw [(cell_pl ha).2]; decide)
theorem cells_eqv {a b : List D} (ha : Cells a) (hb : Cells b) : PyData.eqv (.list a) (.list b) = pB (a = b) := pB_eq (eqvAll_iff ha hb)
theorem view_lay {l : Ln} {n : Nat} (h : LnOk n l) : (viewD l).canLay0 = true := by
  cases l with
  | none => rfl
  | some xs =>
    obtain ⟨x1, _, _⟩ := h xs rfl
    show (PyData.canLayAll0 xs && (true && (true && ((onlyD xs).canLay0 && true)))) = true
    rw [pl_layA xs (cells_pl x1).1, pl_lay _ (cell_pl (onlyD_cell x1)).1]; rfl
theorem in_none {c r : Ln} {n : Nat} (hc : LnOk n c) (hr : LnOk n r) : cmpX .In .none (.tuple [viewD c, viewD r]) = some (c.isNone || r.isNone) := by
  rw [c_inT rfl (by show ((viewD c).canLay0 && ((viewD r).canLay0 && true)) = true; rw [view_lay hc, view_lay hr]; rfl)]
  show some (PyData.eqv (viewD c) .none || (PyData.eqv (viewD r) .none || false)) = _
  have e : ∀ l : Ln, PyData.eqv (viewD l) .none = l.isNone := fun l => by cases l <;> rfl
  rw [e, e, Bool.or_false]
/-- both lines crossed -/
def Crossed (c r c' r' : List D) : Prop := (∃ d, Only c d ∧ Only c' d) ∧ (∃ d, Only r d ∧ Only r' d) ∧ msk c = msk r' ∧ msk r = msk c'
def fst2 (c r : List D) : D := .tuple [viewD (some c), viewD (some r)]
def SpUnlikeT (F : FSem) : Prop := ∀ (c r c' r' : List D), LnOk 5000000 (some c) → LnOk 5000000 (some r) → LnOk 5000000 (some c') → LnOk 5000000 (some r') → F [.val (fst2 c r), .val (fst2 c' r')] = some (.bool (!pB (Crossed c r c' r')), [.val (fst2 c r), .val (fst2 c' r')])
def gU (d : D) : D := match d with
  | .tuple [.tuple [_, _, _, o], .tuple [_, _, _, o']] => .bool (isNon o || !PyData.eqv o o')
  | _ => .none
theorem only_pair {c c' : List D} (hc : Cells c) (hc' : Cells c') : (isNon (onlyD c) || !PyData.eqv (onlyD c) (onlyD c')) = !pB (∃ d, Only c d ∧ Only c' d) := by
  rw [cell_eqv (onlyD_cell hc) (onlyD_cell hc')]
  have key : (!(isNon (onlyD c) || !pB (onlyD c = onlyD c'))) = pB (∃ d, Only c d ∧ Only c' d) := by
    apply pB_eq
    rw [Bool.not_or, Bool.not_not, Bool.and_eq_true, pB_iff, Bool.not_eq_true', ← Bool.not_eq_true, non_iff]
    constructor
    · rintro ⟨h1, h2⟩
      exact ⟨onlyD c, (onlyD_iff hc _).mp ⟨rfl, h1⟩, (onlyD_iff hc' _).mp ⟨h2.symm, h1⟩⟩
    · rintro ⟨d, h1, h2⟩
      obtain ⟨e1, n1⟩ := (onlyD_iff hc d).mpr h1
      obtain ⟨e2, _⟩ := (onlyD_iff hc' d).mpr h2
      exact ⟨by rw [e1]; exact n1, by rw [e1, e2]⟩
  rw [← key, Bool.not_not]
theorem sp_unlikeT {Fm : FSem} (hm : Φ "mask" = some Fm) (sm : SpMask Fm) : SpUnlikeT (runF Φ Γ 2 4 t_unlike_turned) := by
  intro c r c' r' oc or_ oc' or'
  obtain ⟨c1, c2, _⟩ := oc c rfl
  obtain ⟨r1, r2, _⟩ := or_ r rfl
  obtain ⟨c1', c2', _⟩ := oc' c' rfl
  obtain ⟨r1', r2', _⟩ := or' r' rfl
  refine runF_of rfl ?_
  unfold t_unlike_turned
  have cond : ev Φ Γ (.truth (.b1 .any (.comp [2, 3] (.many [2, 3]) (.zip (.var 0) (.var 1)) (.kB true) (.or (.cmp .Is (.idx (.var 2) (.kI 3)) .kN) (.cmp .NotEq (.idx (.var 2) (.kI 3)) (.idx (.var 3) (.kI 3))))))) [.val (fst2 c r), .val (fst2 c' r'), .non, .non] = some (.bool (!(pB (∃ d, Only c d ∧ Only c' d) && pB (∃ d, Only r d ∧ Only r' d))), [.val (fst2 c r), .val (fst2 c' r'), .non, .non]) := by
    apply ev_truth
    apply ev_b1 (x := .list [gU (.tuple [viewD (some c), viewD (some c')]), gU (.tuple [viewD (some r), viewD (some r')])])
    · apply ev_compM (ds := [.tuple [viewD (some c), viewD (some c')], .tuple [viewD (some r), viewD (some r')]]) gU
      · exact ei_zipT (xs := [viewD (some c), viewD (some r)]) (ys := [viewD (some c'), viewD (some r')]) (ev_var rfl) (ev_var rfl)
      · rfl
      · exact len_dec (n := 2) rfl rfl
      · rfl
      have one : ∀ a b : List D, Cells a → Cells b → ev Φ Γ (.or (.cmp .Is (.idx (.var 2) (.kI 3)) .kN) (.cmp .NotEq (.idx (.var 2) (.kI 3)) (.idx (.var 3) (.kI 3)))) [.val (fst2 c r), .val (fst2 c' r'), .val (viewD (some a)), .val (viewD (some b))] = some (gU (.tuple [viewD (some a), viewD (some b)]), [.val (fst2 c r), .val (fst2 c' r'), .val (viewD (some a)), .val (viewD (some b))]) := by
        intro a b ca cb
        have i1 : idxD (viewD (some a)) (.int 3) = some (onlyD a) := rfl
        have i2 : idxD (viewD (some b)) (.int 3) = some (onlyD b) := rfl
        apply ev_or
        · (law_purse 1 => first | exact i1 | exact i2)
        · intro _
          (law_purse 1 => first | exact i1 | exact i2 | exact c_ne (cell_sh (onlyD_cell ca)) (cell_sh (onlyD_cell cb)))
      intro d hd
      simp only [List.mem_cons, List.not_mem_nil, or_false] at hd
      rcases hd with rfl | rfl
      · exact ⟨_, rfl, _, one c c' c1 c1', rfl⟩
      · exact ⟨_, rfl, _, one r r' r1 r1', rfl⟩
    · show some (PyData.bool ((isNon (onlyD c) || !PyData.eqv (onlyD c) (onlyD c')) || ((isNon (onlyD r) || !PyData.eqv (onlyD r) (onlyD r')) || false))) = _
      rw [only_pair c1 c1', only_pair r1 r1', Bool.or_false, Bool.not_and]
  apply en_seq
  by_cases h : (pB (∃ d, Only c d ∧ Only c' d) && pB (∃ d, Only r d ∧ Only r' d)) = true
  · apply en_iteF
    · exact cond
    · rw [h]; rfl
    apply en_skip
    apply sq_nx
    have m1 := sm c c2
    have m2 := sm r r2
    have m3 := sm c' c2'
    have m4 := sm r' r2'
    have i1 : idxD (fst2 c r) (.int 0) = some (viewD (some c)) := rfl
    have i2 : idxD (fst2 c r) (.int 1) = some (viewD (some r)) := rfl
    have i3 : idxD (fst2 c' r') (.int 0) = some (viewD (some c')) := rfl
    have i4 : idxD (fst2 c' r') (.int 1) = some (viewD (some r')) := rfl
    have j : ∀ a, idxD (viewD (some a)) (.int 0) = some (.list a) := fun _ => rfl
    apply en_ret
    · apply ev_or (c := !decide (msk c = msk r')) (d := !decide (msk r = msk c'))
      · (law_purse 1 => first | exact i1 | exact i4 | exact j _ | exact m1 | exact m4 | exact bools_ne _ _)
      · intro _
        (law_purse 1 => first | exact i2 | exact i3 | exact j _ | exact m2 | exact m3 | exact bools_ne _ _)
    · refine ⟨rfl, ?_⟩
      show PyData.bool _ = PyData.bool _
      congr 1
      rw [Bool.and_eq_true, pB_iff, pB_iff] at h
      rw [← Bool.not_and]
      congr 1
      apply pB_eq
      rw [Bool.and_eq_true, decide_eq_true_eq, decide_eq_true_eq]
      exact ⟨fun z => ⟨h.1, h.2, z.1, z.2⟩, fun z => ⟨z.2.2.1, z.2.2.2⟩⟩
  · have h : (pB (∃ d, Only c d ∧ Only c' d) && pB (∃ d, Only r d ∧ Only r' d)) = false := by simpa using h
    apply en_iteT
    · exact cond
    · rw [h]; rfl
    (law_purse 2 => fail)
    refine ⟨rfl, ?_⟩
    have : pB (Crossed c r c' r') = false := pB_false fun z => by
      rw [pB_true z.1, pB_true z.2.1] at h; cases h
    rw [this]; rfl
/-! ### the same result -/
def SpSame (F : FSem) : Prop := ∀ (c r c' r' : Ln) (sw : Bool), LnOk 5000000 c → LnOk 5000000 r → LnOk 5000000 c' → LnOk 5000000 r' → F [.val (.tuple [viewD c, viewD r]), .val (.tuple [viewD c', viewD r']), .val (.bool sw)] = some (.bool (pB (Agree sw c r c' r')), [.val (.tuple [viewD c, viewD r]), .val (.tuple [viewD c', viewD r']), .val (.bool sw)])
theorem agree_none {sw : Bool} {c r c' r' : Ln} (h : ((c.isNone || r.isNone) || (c'.isNone || r'.isNone)) = true) : ((c.isNone || r.isNone) && (c'.isNone || r'.isNone)) = pB (Agree sw c r c' r') := by
  apply pB_eq
  have non : ∀ a b : Ln, (a.isNone || b.isNone) = true ↔ Non2 a b := fun a b => by
    cases a <;> cases b <;> simp [Non2]
  rw [Bool.or_eq_true, non, non] at h
  rw [Bool.and_eq_true, non, non]
  constructor
  · exact fun z => .inl z
  · rintro (z | ⟨xs, ys, xs', ys', rfl, rfl, rfl, rfl, _⟩)
    · exact z
    · rcases h with (h | h) | (h | h) <;> cases h
theorem agree_some {sw : Bool} {c r c' r' : List D} : Agree sw (some c) (some r) (some c') (some r') ↔ AgreeS sw c r c' r' := by
  constructor
  · rintro (⟨z | z, _⟩ | ⟨xs, ys, xs', ys', h1, h2, h3, h4, h⟩)
    · cases z
    · cases z
    · cases h1; cases h2; cases h3; cases h4
      exact h
  · exact fun h => .inr ⟨c, r, c', r', rfl, rfl, rfl, rfl, h⟩
def g1 (d : D) : D := match d with
  | .tuple [_, l, _, _] => l
  | _ => .none
def g2 (d : D) : D := match d with
  | .tuple [_, _, l, _] => l
  | _ => .none
theorem two_ne (a b c d : Nat) : cmpX .NotEq (.list [.int a, .int b]) (.list [.int c, .int d]) = some (!(decide (a = c) && decide (b = d))) := by
  rw [c_ne rfl rfl]
  show some (!(((a : Int) == c) && (((b : Int) == d) && true))) = _
  rw [Bool.and_true]
  congr 3
  · show decide ((a : Int) = c) = _
    exact decide_eq_decide.mpr (by omega)
  · show decide ((b : Int) = d) = _
    exact decide_eq_decide.mpr (by omega)
def lensB (sw : Bool) (c r c' r' : List D) : Bool := if sw then decide (c.length = r'.length) && decide (r.length = c'.length) else decide (c.length = c'.length) && decide (r.length = r'.length)
theorem agreeS_no {sw : Bool} {c r c' r' : List D} (h : lensB sw c r c' r' = false) : ¬AgreeS sw c r c' r' := by
  intro z
  have z := z.1
  unfold lensB at h
  cases sw with
  | false =>
    have z : c.length = c'.length ∧ r.length = r'.length := z
    rw [if_neg (by decide), decide_eq_true z.1, decide_eq_true z.2] at h; cases h
  | true =>
    have z : c.length = r'.length ∧ r.length = c'.length := z
    rw [if_pos rfl, decide_eq_true z.1, decide_eq_true z.2] at h; cases h
theorem agreeS_iff {sw : Bool} {c r c' r' : List D} (h : lensB sw c r c' r' = true) : AgreeS sw c r c' r' ↔ (((blkB c || blkB r) && (blkB c' || blkB r')) = true ∨ (((blkB c || blkB r) || (blkB c' || blkB r')) = false ∧ if sw then Crossed c r c' r' else c = c' ∧ r = r')) := by
  have hl : (if sw then c.length = r'.length ∧ r.length = c'.length else c.length = c'.length ∧ r.length = r'.length) := by
    unfold lensB at h
    cases sw with
    | false =>
      rw [if_neg (by decide), Bool.and_eq_true, decide_eq_true_eq, decide_eq_true_eq] at h; exact h
    | true =>
      rw [if_pos rfl, Bool.and_eq_true, decide_eq_true_eq, decide_eq_true_eq] at h; exact h
  unfold AgreeS
  rw [Bool.or_eq_false_iff, Bool.and_eq_true, ← Bool.not_eq_true (blkB c || blkB r), ← Bool.not_eq_true (blkB c' || blkB r'), Bool.or_eq_true, Bool.or_eq_true, blkB_iff, blkB_iff, blkB_iff, blkB_iff]
  constructor
  · rintro ⟨_, z | ⟨z1, z2, z3⟩⟩
    · exact .inl z
    · refine .inr ⟨⟨z1, z2⟩, ?_⟩
      cases sw <;> exact z3
  · rintro (z | ⟨⟨z1, z2⟩, z3⟩)
    · exact ⟨hl, .inl z⟩
    · refine ⟨hl, .inr ⟨z1, z2, ?_⟩⟩
      cases sw <;> exact z3
theorem sp_same {Fu : FSem} (hu : Φ "unlike_turned" = some Fu) (su : SpUnlikeT Fu) : SpSame (runF Φ Γ 3 7 t_same_result) := by
  intro c r c' r' sw oc or_ oc' or'
  refine runF_of rfl ?_
  unfold t_same_result
  have n1 := in_none oc or_
  have n2 := in_none oc' or'
  apply en_seq
  by_cases h : ((c.isNone || r.isNone) || (c'.isNone || r'.isNone)) = true
  · apply en_iteT
    · apply ev_or
      · (law_purse 1 => exact n1)
      · intro _; (law_purse 1 => exact n2)
    · exact h
    apply en_ret
    · apply ev_and
      · (law_purse 1 => exact n1)
      · intro _; (law_purse 1 => exact n2)
    apply sq_ret
    exact ⟨rfl, congrArg PyData.bool (agree_none h)⟩
  · have h : ((c.isNone || r.isNone) || (c'.isNone || r'.isNone)) = false := Bool.not_eq_true _ ▸ h
    apply en_iteF
    · apply ev_or
      · (law_purse 1 => exact n1)
      · intro _; (law_purse 1 => exact n2)
    · exact h
    apply en_skip
    apply sq_nx
    cases c with
    | none => cases h
    | some c =>
    cases r with
    | none => cases h
    | some r =>
    cases c' with
    | none => cases h
    | some c' =>
    cases r' with
    | none => cases h
    | some r' =>
    clear h n1 n2
    obtain ⟨c1, c2, _⟩ := oc c rfl
    obtain ⟨r1, r2, _⟩ := or_ r rfl
    obtain ⟨c1', c2', _⟩ := oc' c' rfl
    obtain ⟨r1', r2', _⟩ := or' r' rfl
    have map2 : ∀ (i : Nat) (a b : List D) (g : D → D) (k : Int) (ρ : Env), ρ.length = 7 → ρ[6]? = some .non → i < 6 → ρ[i]? = some (.val (.tuple [viewD (some a), viewD (some b)])) → (∀ l, idxD (viewD (some l)) (.int k) = some (g (viewD (some l)))) →
        ev Φ Γ (.comp [6] (.one 6) (.seq (.var i)) (.kB true) (.idx (.var 6) (.kI k))) ρ = some (.list [g (viewD (some a)), g (viewD (some b))], ρ) := by
      intro i a b g k ρ hl h6 hi e hg
      have hw : wipeE [6] ρ = ρ := by
        show ρ.set 6 .non = ρ
        apply List.ext_getElem?
        intro j
        by_cases q : j = 6
        · subst q; rw [List.getElem?_set_self (by omega), h6]
        · rw [List.getElem?_set_ne (by omega)]
      apply ev_compM (ds := [viewD (some a), viewD (some b)]) g
      · exact ei_seq (ev_var e) rfl
      · unfold noHeld; simp [h6]
      · exact len_dec (n := 2) rfl rfl
      · show (wipeE [6] ρ).set 6 ((ρ[6]?).getD .non) = ρ
        rw [hw, h6]
        exact hw
      intro d hd
      have hd : ∃ l, d = viewD (some l) := by
        simp only [List.mem_cons, List.not_mem_nil, or_false] at hd
        rcases hd with rfl | rfl
        · exact ⟨_, rfl⟩
        · exact ⟨_, rfl⟩
      obtain ⟨l, rfl⟩ := hd
      rw [hw]
      have hset : setV 6 (viewD (some l)) ρ = some (ρ.set 6 (.val (viewD (some l)))) := by unfold setV; rw [h6]
      refine ⟨_, hset, _, ev_idx (ev_var (by rw [List.getElem?_set_self (by omega)])) ev_kI (hg l), ?_⟩
      show (ρ.set 6 (.val (viewD (some l)))).set 6 .non = ρ
      rw [List.set_set]
      exact hw
    have L : ∀ l, idxD (viewD (some l)) (.int 1) = some (g1 (viewD (some l))) := fun _ => rfl
    have B : ∀ l, idxD (viewD (some l)) (.int 2) = some (g2 (viewD (some l))) := fun _ => rfl
    apply en_seq
    apply en_set
    · exact map2 1 c' r' g1 1 _ rfl rfl (by omega) rfl L
    · exact rfl
    apply sq_nx
    apply en_seq
    have hlen : ev Φ Γ (.cmp .NotEq (.comp [6] (.one 6) (.seq (.var 0)) (.kB true) (.idx (.var 6) (.kI 1))) (.ite (.truth (.var 2)) (.rev (.var 3)) (.var 3))) [.val (fst2 c r), .val (fst2 c' r'), .val (.bool sw), .val (.list [.int c'.length, .int r'.length]), .non, .non, .non] = some (.bool (!lensB sw c r c' r'), [.val (fst2 c r), .val (fst2 c' r'), .val (.bool sw), .val (.list [.int c'.length, .int r'.length]), .non, .non, .non]) := by
      apply ev_cmp (y := .list (if sw then [.int r'.length, .int c'.length] else [.int c'.length, .int r'.length]))
      · exact map2 0 c r g1 1 _ rfl rfl (by omega) rfl L
      · cases sw with
        | false =>
          apply ev_iteF (k := false)
          · (law_purse 1 => fail)
          · rfl
          · exact ev_var rfl
        | true =>
          apply ev_iteT (k := true)
          · (law_purse 1 => fail)
          · rfl
          · exact ev_rev (ev_var rfl) rfl
      · cases sw with
        | false => exact two_ne c.length r.length c'.length r'.length
        | true => exact two_ne c.length r.length r'.length c'.length
    by_cases hL : lensB sw c r c' r' = true
    · have iff := agreeS_iff hL
      apply en_iteF
      · exact hlen
      · rw [hL]; rfl
      apply en_skip
      apply sq_nx
      have a1 : ev Φ Γ (.b1 .any (.comp [6] (.one 6) (.seq (.var 0)) (.kB true) (.idx (.var 6) (.kI 2)))) [.val (fst2 c r), .val (fst2 c' r'), .val (.bool sw), .val (.list [.int c'.length, .int r'.length]), .non, .non, .non] = some (.bool (blkB c || blkB r), [.val (fst2 c r), .val (fst2 c' r'), .val (.bool sw), .val (.list [.int c'.length, .int r'.length]), .non, .non, .non]) := by
        apply ev_b1
        · exact map2 0 c r g2 2 _ rfl rfl (by omega) rfl B
        · show some (PyData.bool (blkB c || (blkB r || false))) = _
          rw [Bool.or_false]
      have a2 : ev Φ Γ (.b1 .any (.comp [6] (.one 6) (.seq (.var 1)) (.kB true) (.idx (.var 6) (.kI 2)))) [.val (fst2 c r), .val (fst2 c' r'), .val (.bool sw), .val (.list [.int c'.length, .int r'.length]), .non, .non, .non] = some (.bool (blkB c' || blkB r'), [.val (fst2 c r), .val (fst2 c' r'), .val (.bool sw), .val (.list [.int c'.length, .int r'.length]), .non, .non, .non]) := by
        apply ev_b1
        · exact map2 1 c' r' g2 2 _ rfl rfl (by omega) rfl B
        · show some (PyData.bool (blkB c' || (blkB r' || false))) = _
          rw [Bool.or_false]
      apply en_seq
      apply en_par
      · exact el_cons a1 (el_cons a2 el_nil)
      · exact rfl
      apply sq_nx
      apply en_seq
      have horr : ∀ (x : Bool) (ρ : Env) (y : Bool), ρ[4]? = some (.val (.bool x)) → ρ[5]? = some (.val (.bool y)) → ev Φ Γ (.or (.truth (.var 4)) (.truth (.var 5))) ρ = some (.bool (x || y), ρ) := by
        intro x ρ y h1 h2
        exact ev_or (ev_truth (ev_var h1)) fun _ => ev_truth (ev_var h2)
      by_cases hB : ((blkB c || blkB r) || (blkB c' || blkB r')) = true
      · apply en_iteT
        · exact horr _ _ _ rfl rfl
        · exact hB
        apply en_ret
        · apply ev_and
          · (law_purse 1 => fail)
          · intro _; (law_purse 1 => fail)
        apply sq_ret
        refine ⟨rfl, congrArg PyData.bool (pB_eq ?_)⟩
        rw [agree_some, iff]
        constructor
        · exact fun z => .inl z
        · rintro (z | ⟨z, _⟩)
          · exact z
          · rw [hB] at z; cases z
      · have hB : ((blkB c || blkB r) || (blkB c' || blkB r')) = false := by simpa using hB
        have hB2 : ((blkB c || blkB r) && (blkB c' || blkB r')) = false := by
          rw [Bool.or_eq_false_iff] at hB
          rw [hB.1]; rfl
        apply en_iteF
        · exact horr _ _ _ rfl rfl
        · exact hB
        apply en_skip
        apply sq_nx
        apply en_seq
        cases sw with
        | true =>
          apply en_iteT
          · (law_purse 1 => fail)
          · rfl
          have e1 := su c r c' r' oc or_ oc' or'
          apply en_ret
          · exact ev_not (ev_call (ea_cons (ev_var rfl) (ea_cons (ev_var rfl) ea_nil)) hu rfl e1 List.nodup_nil rfl)
          apply sq_ret
          refine ⟨rfl, congrArg PyData.bool ?_⟩
          rw [Bool.not_not]
          apply pB_congr
          rw [agree_some, iff]
          constructor
          · exact fun z => .inr ⟨hB, z⟩
          · rintro (z | ⟨_, z⟩)
            · rw [hB2] at z; cases z
            · exact z
        | false =>
          apply en_iteF
          · (law_purse 1 => fail)
          · rfl
          apply en_skip
          apply sq_nx
          have q1 : cmpX .Eq (.list c) (.list c') = some (pB (c = c')) := by rw [c_eq (cells_sh c1) (cells_sh c1'), cells_eqv c1 c1']
          have q2 : cmpX .Eq (.list r) (.list r') = some (pB (r = r')) := by rw [c_eq (cells_sh r1) (cells_sh r1'), cells_eqv r1 r1']
          have i1 : idxD (.tuple [viewD (some c), viewD (some r)]) (.int 0) = some (viewD (some c)) := rfl
          have i2 : idxD (.tuple [viewD (some c), viewD (some r)]) (.int 1) = some (viewD (some r)) := rfl
          have i3 : idxD (.tuple [viewD (some c'), viewD (some r')]) (.int 0) = some (viewD (some c')) := rfl
          have i4 : idxD (.tuple [viewD (some c'), viewD (some r')]) (.int 1) = some (viewD (some r')) := rfl
          have j : ∀ a, idxD (viewD (some a)) (.int 0) = some (.list a) := fun _ => rfl
          apply en_ret
          · apply ev_and
            · (law_purse 1 => first | exact i1 | exact i3 | exact j _ | exact q1)
            · intro _
              (law_purse 1 => first | exact i2 | exact i4 | exact j _ | exact q2)
          · refine ⟨rfl, congrArg PyData.bool (pB_eq ?_)⟩
            rw [agree_some, iff, Bool.and_eq_true, pB_iff, pB_iff]
            constructor
            · exact fun z => .inr ⟨hB, z⟩
            · rintro (z | ⟨_, z⟩)
              · rw [hB2] at z; cases z
              · exact z
    · have hL : lensB sw c r c' r' = false := by simpa using hL
      apply en_iteT
      · exact hlen
      · rw [hL]; rfl
      (law_purse 2 => fail)
      refine ⟨rfl, ?_⟩
      rw [pB_false fun z => agreeS_no hL (agree_some.mp z)]
end

/-! Qb3: telling sizes: the program's. -/
open PySem
theorem rng {lo : Int} {n k : Nat} {d : D} (hd : (rangeD lo n 1)[k]? = some d) : d = .int (lo + k) ∧ k < n := by
  unfold rangeD at hd
  rw [List.getElem?_map] at hd
  obtain ⟨m, hm, rfl⟩ := Option.map_eq_some_iff.mp hd
  have hk : k < n := by
    have := (List.getElem?_eq_some_iff.mp hm).1
    rwa [List.length_range] at this
  rw [List.getElem?_range hk] at hm
  cases hm
  exact ⟨by rw [Int.mul_one], hk⟩
/-- what the stacks of the laws keep -/
structure StW (n : Nat) (s : Stk) : Prop where
  ok : s.ok
  fits : fitsB s = true
  wt : weight s ≤ n
theorem StW.len6 {n : Nat} {s : Stk} (h : StW n s) : s.length ≤ 6 := by
  have := h.fits
  unfold fitsB at this
  rw [Bool.and_eq_true] at this
  exact of_decide_eq_true this.1
theorem StW.red {n : Nat} {s : Stk} (h : StW n s) : cntK 6 s ≤ 1 := by
  have := h.fits
  unfold fitsB at this
  rw [Bool.and_eq_true, Bool.and_eq_true] at this
  have := of_decide_eq_true this.2.2
  omega
theorem StkOk.w {n : Nat} {s : Stk} (h : StkOk n s) : StW 15 s := ⟨h.ok, h.fits, by have := h.wt; omega⟩
theorem StW.mono {n m : Nat} {s : Stk} (h : StW n s) (hm : n ≤ m) : StW m s := ⟨h.ok, h.fits, Nat.le_trans h.wt hm⟩
theorem fit_of {s : Stk} (hl : s.length ≤ 6) {w h : Nat} (hw : 0 < w) (hh : 0 < h) (w1 : w ≤ 5000) (h1 : h ≤ 5000) : Fit w h s := ⟨hw, hh, 5000, w1, h1, by
  have : 3 ^ s.length * (5000 + 3) ≤ 3 ^ 6 * (5000 + 3) := pow_mono3 hl
  omega⟩
theorem lnO_ok {s : Stk} (hs : s.ok) (hl : s.length ≤ 6) (a : Bool) {n : Nat} (h0 : 0 < n) (hn : n ≤ 5000) : LnOk 5000000 (lnO s a n) := by
  have h := linesA_ok (s := s) (m := 5000) hs h0 h0 hn hn
  have hb : 3 ^ s.length * (5000 + 3) ≤ 3 ^ 6 * (5000 + 3) := pow_mono3 hl
  rw [linesA_eq hs] at h
  cases q : swp s with
  | false =>
    rw [q, if_neg (by decide)] at h
    cases a
    · exact h.1.mono (by omega)
    · exact h.2.mono (by omega)
  | true =>
    rw [q, if_pos rfl] at h
    cases a
    · exact h.2.mono (by omega)
    · exact h.1.mono (by omega)
section
variable {Φ : Phi} {Γ : Str → Option D} {ρ ρ1 ρ2 : Env} {Q : Out → Env → Prop}
/-- the views of both lines of a size -/
def v2O (s : Stk) (n : Nat) : D := .tuple [viewD (lnO s false n), viewD (lnO s true n)]
def vAll (s : Stk) (m : Nat) : List D := (List.range m).map fun i => v2O s (i + 1)
theorem vAll_get {s : Stk} {m n : Nat} (h0 : 0 < n) (hn : n ≤ m) : atI (vAll s m) ((n : Int) - 1) = some (v2O s n) := by
  rw [show (n : Int) - 1 = ((n - 1 : Nat) : Int) by omega]
  apply atI_nat'
  unfold vAll
  rw [List.getElem?_map, List.getElem?_range (by omega)]
  show some (v2O s (n - 1 + 1)) = _
  rw [Nat.sub_add_cancel h0]
theorem vAll_len (s : Stk) (m : Nat) : (vAll s m).length = m := by unfold vAll; simp
def SpAllLines (F : FSem) : Prop := ∀ (s : Stk) (m : Nat), s.ok → s.length ≤ 6 → m ≤ 4000 → F [.val s.d, .val (.int m)] = some (.list (vAll s m), [.val s.d, .val (.int m)])
theorem sp_allLines {Fo Fv : FSem} (ho : Φ "own_lines" = some Fo) (hv : Φ "view" = some Fv) (so : SpOwn Fo) (sv : SpView Fv) : SpAllLines (runF Φ Γ 2 6 t_all_lines) := by
  intro s m hs hl hm
  refine runF_of rfl ?_
  unfold t_all_lines
  apply en_seq
  apply en_setO (ds := [])
  · exact ev_lst el_nil (len_dec (n := 0) rfl rfl)
  · exact rfl
  apply sq_nx
  apply en_seq
  refine en_for (ds := rangeD 1 m 1) (fun i ρ => ∃ x3 x4 x5, vb x3 ∧ vb x4 ∧ vb x5 ∧ ρ = [.val s.d, .val (.int m), .own (vAll s i), x3, x4, x5]) ?_ ⟨.non, .non, .non, .inl rfl, .inl rfl, .inl rfl, rfl⟩ (fun i d ρ hd hi => ?_) (fun ρ hρ => ?_)
  · have := ei_r2 (Φ := Φ) (Γ := Γ) (a := .kI 1) (b := .bin .Add (.var 1) (.kI 1)) (i := 1) (j := (m : Int) + 1) (ρ := [.val s.d, .val (.int m), .own [], .non, .non, .non]) ev_kI (ev_bin (ev_var rfl) ev_kI o_addI) (by omega) (by omega)
    rw [show ((m : Int) + 1 - 1).toNat = m by omega] at this
    exact this
  · obtain ⟨x3, x4, x5, h3, h4, h5, rfl⟩ := hi
    obtain ⟨rfl, hi⟩ := rng hd
    rw [show (1 : Int) + (i : Int) = ((i + 1 : Nat) : Int) by omega]
    have e1 := so (i + 1) s hs (fit_of hl (by omega) (by omega) (by omega) (by omega))
    have o1 := lnO_ok hs hl false (n := i + 1) (by omega) (by omega)
    have o2 := lnO_ok hs hl true (n := i + 1) (by omega) (by omega)
    have e2 := sv _ o1
    have e3 := sv _ o2
    refine ⟨_, sv_one (setV_vb rfl h3), ?_⟩
    apply en_seq
    apply en_setT
    · (law_purse 1 => exact e1)
    · (law_purse 18 => fail)
    apply sq_nx
    apply en_app
    · exact rfl
    · (law_purse 1 => first | exact e2 | exact e3)
    · exact rfl
    · rw [vAll_len, size_eq]; omega
    · exact rfl
    have : vAll s (i + 1) = vAll s i ++ [.tuple [viewD (lnO s false (i + 1)), viewD (lnO s true (i + 1))]] := by
      unfold vAll
      rw [List.range_succ, List.map_append]; rfl
    rw [this]
    exact ⟨_, _, _, vb_val _, vb_val _, vb_val _, rfl⟩
  · obtain ⟨x3, x4, x5, h3, h4, h5, rfl⟩ := hρ
    apply sq_nx
    apply en_ret
    · exact ev_own rfl
    · exact ⟨rfl, by rw [range_len]⟩
/-! sizes in their order -/
def loZ (m t : Nat) : Nat := max 1 (t - m)
def cnZ (m t : Nat) : Nat := min m (t - 1) + 1 - loZ m t
def rowZ (m t : Nat) : List Sz := (List.range (cnZ m t)).map fun j => (loZ m t + j, t - (loZ m t + j))
def allZ (m : Nat) : List Sz := (List.range (2 * m - 1)).flatMap fun k => rowZ m (k + 2)
theorem rowZ_mem {m t : Nat} {z : Sz} (h : z ∈ rowZ m t) : 0 < z.1 ∧ z.1 ≤ m ∧ z.1 + z.2 = t ∧ z.2 ≤ m ∧ (2 ≤ t → 0 < z.2) := by
  unfold rowZ at h
  rw [List.mem_map] at h
  obtain ⟨j, hj, rfl⟩ := h
  have hj := List.mem_range.mp hj
  unfold cnZ loZ at hj
  show 0 < loZ m t + j ∧ loZ m t + j ≤ m ∧ loZ m t + j + (t - (loZ m t + j)) = t ∧ t - (loZ m t + j) ≤ m ∧ (2 ≤ t → 0 < t - (loZ m t + j))
  unfold loZ
  omega
theorem allZ_mem {m : Nat} {z : Sz} : z ∈ allZ m ↔ 0 < z.1 ∧ 0 < z.2 ∧ z.1 ≤ m ∧ z.2 ≤ m := by
  unfold allZ
  rw [List.mem_flatMap]
  constructor
  · rintro ⟨k, hk, h⟩
    have := rowZ_mem h
    omega
  · rintro ⟨h1, h2, h3, h4⟩
    refine ⟨z.1 + z.2 - 2, List.mem_range.mpr (by omega), ?_⟩
    unfold rowZ
    rw [List.mem_map]
    refine ⟨z.1 - loZ m (z.1 + z.2 - 2 + 2), List.mem_range.mpr ?_, ?_⟩
    · unfold cnZ loZ; omega
    · have : loZ m (z.1 + z.2 - 2 + 2) ≤ z.1 := by unfold loZ; omega
      refine Prod.ext ?_ ?_
      · show loZ m (z.1 + z.2 - 2 + 2) + (z.1 - loZ m (z.1 + z.2 - 2 + 2)) = z.1; omega
      · show z.1 + z.2 - 2 + 2 - (loZ m (z.1 + z.2 - 2 + 2) + (z.1 - loZ m (z.1 + z.2 - 2 + 2))) = z.2; omega
noncomputable def notA (s t : Stk) (z : Sz) : Bool := !pB (AgreeAt s t z.1 z.2)
/-- the first size at which two stacks do not do the same -/
noncomputable def tell (s t : Stk) (m : Nat) : Option Sz := (allZ m).find? (notA s t)
theorem tell_none {s t : Stk} {m : Nat} : tell s t m = none ↔ ∀ w h, 0 < w → 0 < h → w ≤ m → h ≤ m → AgreeAt s t w h := by
  unfold tell
  rw [List.find?_eq_none]
  constructor
  · intro q w h h1 h2 h3 h4
    have := q (w, h) (allZ_mem.mpr ⟨h1, h2, h3, h4⟩)
    unfold notA at this
    simp only [Bool.not_eq_true, Bool.not_eq_false'] at this
    exact (pB_iff _).mp this
  · intro q z hz
    obtain ⟨h1, h2, h3, h4⟩ := allZ_mem.mp hz
    unfold notA
    rw [pB_true (q z.1 z.2 h1 h2 h3 h4)]; simp
theorem tell_some {s t : Stk} {m : Nat} {z : Sz} (h : tell s t m = some z) : 0 < z.1 ∧ 0 < z.2 ∧ z.1 ≤ m ∧ z.2 ≤ m ∧ ¬AgreeAt s t z.1 z.2 := by
  unfold tell at h
  obtain ⟨h1, h2, h3, h4⟩ := allZ_mem.mp (List.mem_of_find?_eq_some h)
  have := List.find?_some h
  unfold notA at this
  refine ⟨h1, h2, h3, h4, fun q => ?_⟩
  rw [pB_true q] at this
  cases this
theorem flat_one {α β : Type} (f : α → β) : ∀ xs : List α, xs.flatMap (fun x => [f x]) = xs.map f
  | [] => rfl
  | x :: xs => by rw [List.flatMap_cons, flat_one f xs]; rfl
/-- the loop over all sizes: the body is what is done for a size -/
theorem en_sizes {i1 i2 : Nat} {n1 : Nat} {m : Nat} {body : S} (hm : m ≤ 4000) (P : Sz → Bool) (I I' : Env → Prop) (h0 : I ρ)
    (hm1 : ∀ ρ, I ρ → ρ[n1]? = some (.val (.int m)))
    (b1 : ∀ ρ d, I ρ → ∃ ρ1, bindT (.one i1) d ρ = some ρ1 ∧ I ρ1 ∧ ρ1[i1]? = some (.val d))
    (b2 : ∀ ρ d e, I ρ → ρ[i1]? = some (.val e) → ∃ ρ1, bindT (.one i2) d ρ = some ρ1 ∧ I ρ1 ∧ ρ1[i1]? = some (.val e) ∧ ρ1[i2]? = some (.val d))
    (h : ∀ (z : Sz) (t : Nat), 0 < z.1 → 0 < z.2 → z.1 ≤ m → z.2 ≤ m → t = z.1 + z.2 → ∀ ρ, I ρ → ρ[i1]? = some (.val (.int t)) → ρ[i2]? = some (.val (.int z.1)) → Ends Φ Γ body ρ fun o ρ2 => match o with | .nx => P z = false ∧ I ρ2 ∧ ρ2[i1]? = some (.val (.int t)) | .ret v => P z = true ∧ v = szD z ∧ I' ρ2)
    (hq : (allZ m).find? P = none → ∀ ρ, I ρ → Q .nx ρ) (hr : ∀ z, (allZ m).find? P = some z → ∀ ρ, I' ρ → Q (.ret (szD z)) ρ) :
    Ends Φ Γ (.for_ (.one i1) (.range2 (.kI 2) (.bin .Add (.bin .Mult (.kI 2) (.var n1)) (.kI 1))) (.for_ (.one i2) (.range2 (.b2 .max (.kI 1) (.bin .Sub (.var i1) (.var n1))) (.bin .Add (.b2 .min (.var n1) (.bin .Sub (.var i1) (.kI 1))) (.kI 1))) body)) ρ Q := by
  refine en_forF (zs := List.range (2 * m - 1)) (fun k => .int ((2 : Int) + (k : Int) * 1)) (fun k => rowZ m (k + 2)) P szD I I' ?_ h0 (fun k hk ρ hI => ?_) hq hr
  · have := ei_r2 (Φ := Φ) (Γ := Γ) (a := .kI 2) (b := .bin .Add (.bin .Mult (.kI 2) (.var n1)) (.kI 1)) (i := 2) (j := (2 : Int) * (m : Int) + 1) (ρ := ρ) ev_kI (ev_bin (ev_bin ev_kI (ev_var (hm1 ρ h0)) (o_mulI (.inl (by decide)))) ev_kI o_addI) (by omega) (by omega)
    rw [show ((2 : Int) * (m : Int) + 1 - 2).toNat = 2 * m - 1 by omega] at this
    exact this
  · have hk := List.mem_range.mp hk
    obtain ⟨ρ1, e1, hI1, hg1⟩ := b1 ρ (.int ((2 : Int) + (k : Int) * 1)) hI
    refine ⟨ρ1, e1, ?_⟩
    rw [show (2 : Int) + (k : Int) * 1 = ((k + 2 : Nat) : Int) by omega] at hg1
    have lo : b2D .max (.int 1) (.int (((k + 2 : Nat) : Int) - (m : Int))) = some (.int (loZ m (k + 2) : Nat)) := by
      show some (PyData.int (if ((k + 2 : Nat) : Int) - (m : Int) > (1 : Int) then ((k + 2 : Nat) : Int) - (m : Int) else (1 : Int))) = _
      unfold loZ
      congr 2; split <;> omega
    have hi : b2D .min (.int m) (.int (((k + 2 : Nat) : Int) - 1)) = some (.int (min m (k + 2 - 1) : Nat)) := by
      show some (PyData.int (if ((k + 2 : Nat) : Int) - 1 < (m : Int) then ((k + 2 : Nat) : Int) - 1 else (m : Int))) = _
      congr 2; split <;> omega
    refine en_forF (zs := List.range (cnZ m (k + 2))) (fun j => .int ((loZ m (k + 2) : Int) + (j : Int) * 1)) (fun j => [(loZ m (k + 2) + j, k + 2 - (loZ m (k + 2) + j))]) P szD (fun ρ => I ρ ∧ ρ[i1]? = some (.val (.int ((k + 2 : Nat) : Int)))) I' ?_ ⟨hI1, hg1⟩ (fun j hj ρ2 hI2 => ?_) (fun hf ρ2 hI2 => ?_) (fun z hz ρ2 hI2 => ?_)
    · have := ei_r2 (Φ := Φ) (Γ := Γ) (a := .b2 .max (.kI 1) (.bin .Sub (.var i1) (.var n1))) (b := .bin .Add (.b2 .min (.var n1) (.bin .Sub (.var i1) (.kI 1))) (.kI 1)) (i := (loZ m (k + 2) : Nat)) (j := ((min m (k + 2 - 1) : Nat) : Int) + 1) (ρ := ρ1) (ev_b2 ev_kI (ev_bin (ev_var hg1) (ev_var (hm1 ρ1 hI1)) o_subI) lo) (ev_bin (ev_b2 (ev_var (hm1 ρ1 hI1)) (ev_bin (ev_var hg1) ev_kI o_subI) hi) ev_kI o_addI) (by unfold loZ; omega) (by omega)
      rw [show (((min m (k + 2 - 1) : Nat) : Int) + 1 - (loZ m (k + 2) : Nat)).toNat = cnZ m (k + 2) by unfold cnZ; omega] at this
      exact this
    · have hj := List.mem_range.mp hj
      obtain ⟨ρ3, e3, hI3, hg3, hg4⟩ := b2 ρ2 (.int ((loZ m (k + 2) : Int) + (j : Int) * 1)) _ hI2.1 hI2.2
      refine ⟨ρ3, e3, ?_⟩
      have hz : (loZ m (k + 2) + j, k + 2 - (loZ m (k + 2) + j)) ∈ rowZ m (k + 2) := List.mem_map_of_mem (f := fun j => (loZ m (k + 2) + j, k + 2 - (loZ m (k + 2) + j))) (List.mem_range.mpr hj)
      obtain ⟨q1, q2, q3, q4, q5⟩ := rowZ_mem hz
      rw [show (loZ m (k + 2) : Int) + (j : Int) * 1 = ((loZ m (k + 2) + j : Nat) : Int) by omega] at hg4
      refine en_imp (h (loZ m (k + 2) + j, k + 2 - (loZ m (k + 2) + j)) (k + 2) q1 (q5 (by omega)) q2 q4 q3.symm ρ3 hI3 hg3 hg4) fun o ρ4 q => ?_
      cases o with
      | nx =>
        refine ⟨?_, q.2.1, q.2.2⟩
        rw [List.find?_cons, q.1]; rfl
      | ret v =>
        refine ⟨_, ?_, q.2.1, q.2.2⟩
        rw [List.find?_cons, q.1]
    · have e : (List.range (cnZ m (k + 2))).flatMap (fun j => [(loZ m (k + 2) + j, k + 2 - (loZ m (k + 2) + j))]) = rowZ m (k + 2) := by
        exact flat_one _ _
      rw [e] at hf
      exact ⟨hf, hI2.1⟩
    · have e : (List.range (cnZ m (k + 2))).flatMap (fun j => [(loZ m (k + 2) + j, k + 2 - (loZ m (k + 2) + j))]) = rowZ m (k + 2) := by
        exact flat_one _ _
      rw [e] at hz
      exact ⟨z, hz, rfl, hI2⟩
end

/-! Qb4: telling_size, alike. -/
open PySem
section
variable {Φ : Phi} {Γ : Str → Option D} {ρ ρ1 ρ2 : Env} {Q : Out → Env → Prop}
theorem bool_ne (a b : Bool) : cmpX .NotEq (.bool a) (.bool b) = some (a != b) := by
  rw [c_ne rfl rfl]; cases a <;> cases b <;> rfl
theorem i_nat {a b c : Nat} (h : a = b + c) : opX .Sub (.int a) (.int b) = some (.int (c : Nat)) := by
  rw [o_subI, show (a : Int) - (b : Int) = (c : Int) by omega]
theorem len_d (s : Stk) : b1D .len s.d = some (.int s.length) := by
  show some (PyData.int ((s.map Ed.d).length : Nat)) = _
  rw [List.length_map]
def SpTell (F : FSem) : Prop := ∀ (s t : Stk), s.ok → t.ok → s.length ≤ 6 → t.length ≤ 6 → weight s ≤ 1000 → weight t ≤ 1000 → F [.val s.d, .val t.d] = some (oSz (tell s t (most s t)), [.val s.d, .val t.d])
theorem sp_tell {Fe Fa Fi Fs : FSem} (he : Φ "enough" = some Fe) (ha : Φ "all_lines" = some Fa) (hi : Φ "is_swapped" = some Fi) (hs : Φ "same_result" = some Fs) (se : SpMost Fe) (sa : SpAllLines Fa) (si : SpSwapped Fi) (ss : SpSame Fs) : SpTell (runF Φ Γ 2 10 t_telling_size) := by
  intro s t os ot ls lt ws wt
  refine runF_of rfl ?_
  unfold t_telling_size
  have e1 := se s t (by omega) (by omega)
  have hm : most s t ≤ 4000 := by unfold most; omega
  generalize most s t = m at e1 hm ⊢
  have e2 := sa s m os ls hm
  have e3 := sa t m ot lt hm
  have e4 := si s os (by omega)
  have e5 := si t ot (by omega)
  apply en_seq
  apply en_set
  · (law_purse 1 => exact e1)
  · exact rfl
  apply sq_nx
  apply en_seq
  apply en_par
  · (law_purse 1 => first | exact e2 | exact e3)
  · exact rfl
  apply sq_nx
  apply en_seq
  apply en_set
  · (law_purse 1 => first | exact e4 | exact e5 | exact bool_ne _ _)
  · exact rfl
  apply sq_nx
  apply en_seq
  refine en_sizes (m := m) hm (notA s t) (fun ρ => ∃ x4 x7 x8 x9, vb x4 ∧ vb x7 ∧ vb x8 ∧ vb x9 ∧ ρ = [.val s.d, .val t.d, .val (.int m), .val (.bool (swp s != swp t)), x4, .val (.list (vAll s m)), .val (.list (vAll t m)), x7, x8, x9]) (fun ρ => ∃ x, outs [.val s.d, .val t.d] ρ = some x ∧ x = [.val s.d, .val t.d]) ⟨.non, .non, .non, .non, .inl rfl, .inl rfl, .inl rfl, .inl rfl, rfl⟩ ?_ ?_ ?_ ?_ ?_ ?_
  · rintro ρ ⟨x4, x7, x8, x9, h4, h7, h8, h9, rfl⟩; rfl
  · rintro ρ d ⟨x4, x7, x8, x9, h4, h7, h8, h9, rfl⟩
    exact ⟨_, sv_one (setV_vb rfl h4), ⟨_, x7, x8, x9, vb_val _, h7, h8, h9, rfl⟩, rfl⟩
  · rintro ρ d e ⟨x4, x7, x8, x9, h4, h7, h8, h9, rfl⟩ hg
    exact ⟨_, sv_one (setV_vb rfl h7), ⟨x4, _, x8, x9, h4, vb_val _, h8, h9, rfl⟩, hg, rfl⟩
  · rintro ⟨w, h⟩ tt z1 z2 z3 z4 ht ρ ⟨x4, x7, x8, x9, h4, h7, h8, h9, rfl⟩ hg4 hg7
    have z1 : 0 < w := z1
    have z2 : 0 < h := z2
    have z3 : w ≤ m := z3
    have z4 : h ≤ m := z4
    have ht : tt = w + h := ht
    have hg4 : some x4 = some (Sl.val (.int tt)) := hg4
    have hg7 : some x7 = some (Sl.val (.int w)) := hg7
    cases hg4; cases hg7
    have a1 := vAll_get (s := s) z1 z3
    have a2 := vAll_get (s := s) z2 z4
    have a3 := vAll_get (s := t) z1 z3
    have a4 := vAll_get (s := t) z2 z4
    have a1 : idxD (.list (vAll s m)) (.int ((w : Int) - 1)) = some (v2O s w) := a1
    have a2 : idxD (.list (vAll s m)) (.int ((h : Int) - 1)) = some (v2O s h) := a2
    have a3 : idxD (.list (vAll t m)) (.int ((w : Int) - 1)) = some (v2O t w) := a3
    have a4 : idxD (.list (vAll t m)) (.int ((h : Int) - 1)) = some (v2O t h) := a4
    have k0 : ∀ s n, idxD (v2O s n) (.int 0) = some (viewD (lnO s false n)) := fun _ _ => rfl
    have k1 : ∀ s n, idxD (v2O s n) (.int 1) = some (viewD (lnO s true n)) := fun _ _ => rfl
    have call := ss (lnO s false w) (lnO s true h) (lnO t false w) (lnO t true h) (swp s != swp t) (lnO_ok os ls false z1 (by omega)) (lnO_ok os ls true z2 (by omega)) (lnO_ok ot lt false z1 (by omega)) (lnO_ok ot lt true z2 (by omega))
    have e8 : opX .Sub (.int tt) (.int w) = some (.int (h : Nat)) := i_nat (by omega)
    apply en_seq
    apply en_set
    · (law_purse 1 => exact e8)
    · (law_purse 18 => fail)
    apply sq_nx
    apply en_seq
    apply en_set
    · (law_purse 1 => first | exact a1 | exact a2 | exact k0 _ _ | exact k1 _ _)
    · (law_purse 18 => fail)
    apply sq_nx
    have hcall : ev Φ Γ (.not (.truth (.call "same_result" (.cons (.var 9) (.cons (.tup (.cons (.idx (.idx (.var 6) (.bin .Sub (.var 7) (.kI 1))) (.kI 0)) (.cons (.idx (.idx (.var 6) (.bin .Sub (.var 8) (.kI 1))) (.kI 1)) .nil))) (.cons (.var 3) .nil)))))) [.val s.d, .val t.d, .val (.int m), .val (.bool (swp s != swp t)), .val (.int tt), .val (.list (vAll s m)), .val (.list (vAll t m)), .val (.int w), .val (.int h), .val (.tuple [viewD (lnO s false w), viewD (lnO s true h)])] = some (.bool (notA s t (w, h)), [.val s.d, .val t.d, .val (.int m), .val (.bool (swp s != swp t)), .val (.int tt), .val (.list (vAll s m)), .val (.list (vAll t m)), .val (.int w), .val (.int h), .val (.tuple [viewD (lnO s false w), viewD (lnO s true h)])]) := by
      apply ev_not
      apply ev_truth
      apply ev_call
      · (law_purse 1 => first | exact a3 | exact a4 | exact k0 _ _ | exact k1 _ _)
      · exact hs
      · exact rfl
      · exact call
      · exact List.nodup_nil
      · exact rfl
    cases hn : notA s t (w, h) with
    | true =>
      apply en_iteT
      · exact hcall
      · exact hn
      apply en_ret
      · exact ev_tup (el_cons (ev_var rfl) (el_cons (ev_var rfl) el_nil)) (len_dec (n := 2) rfl rfl)
      · exact ⟨rfl, rfl, _, rfl, rfl⟩
    | false =>
      apply en_iteF
      · exact hcall
      · exact hn
      apply en_skip
      exact ⟨rfl, ⟨_, _, _, _, vb_val _, vb_val _, vb_val _, vb_val _, rfl⟩, rfl⟩
  · rintro hf ρ ⟨x4, x7, x8, x9, h4, h7, h8, h9, rfl⟩
    apply sq_nx
    (law_purse 2 => fail)
    refine ⟨rfl, ?_⟩
    show PyData.none = oSz ((allZ m).find? (notA s t))
    rw [hf]; rfl
  · rintro z hz ρ ⟨x, h1, rfl⟩
    apply sq_ret
    refine ⟨h1, ?_⟩
    show szD z = oSz ((allZ m).find? (notA s t))
    rw [hz]; rfl
noncomputable def alikeB (s t : Stk) : Bool := (tell s t (most s t)).isNone
def SpAlike (F : FSem) : Prop := ∀ (s t : Stk), s.ok → t.ok → s.length ≤ 6 → t.length ≤ 6 → weight s ≤ 1000 → weight t ≤ 1000 → F [.val s.d, .val t.d] = some (.bool (alikeB s t), [.val s.d, .val t.d])
theorem isNon_oSz (z : Option Sz) : isNon (oSz z) = z.isNone := by cases z <;> rfl
theorem sp_alike {Ft : FSem} (ht : Φ "telling_size" = some Ft) (st : SpTell Ft) : SpAlike (runF Φ Γ 2 2 t_alike) := by
  intro s t os ot ls lt ws wt
  refine runF_of rfl ?_
  unfold t_alike
  have e1 := st s t os ot ls lt ws wt
  apply en_ret
  · (law_purse 1 => exact e1)
  · exact ⟨rfl, by rw [isNon_oSz]; rfl⟩
/-- doing the same for all sizes -/
def AgreeAll (s t : Stk) : Prop := ∀ w h, 0 < w → 0 < h → AgreeAt s t w h
theorem alike_iff {n m : Nat} {s t : Stk} (hs : StW n s) (ht : StW m t) : alikeB s t = true ↔ AgreeAll s t := by
  unfold alikeB
  rw [Option.isNone_iff_eq_none, tell_none]
  constructor
  · intro h
    exact agree_all hs.ok ht.ok hs.red ht.red (by unfold most; omega) (by unfold most; omega) h
  · intro h w k h1 h2 _ _
    exact h w k h1 h2
theorem agreeAll_iff {s t : Stk} (hs : s.ok) (ht : t.ok) : AgreeAll s t ↔ ∀ w h, 0 < w → 0 < h → ∀ p, viewL p (linesA w h s) = viewL p (linesA w h t) := by
  constructor
  · intro a w h hw hh
    exact (agree_iff hs ht hw hh).mp (a w h hw hh)
  · intro a w h hw hh
    exact (agree_iff hs ht hw hh).mpr (a w h hw hh)
theorem agreeAll_refl {s : Stk} (hs : s.ok) : AgreeAll s s := (agreeAll_iff hs hs).mpr fun _ _ _ _ _ => rfl
theorem AgreeAll.symm {s t : Stk} (hs : s.ok) (ht : t.ok) (h : AgreeAll s t) : AgreeAll t s := (agreeAll_iff ht hs).mpr fun w k h1 h2 p => ((agreeAll_iff hs ht).mp h w k h1 h2 p).symm
theorem AgreeAll.trans {s t u : Stk} (hs : s.ok) (ht : t.ok) (hu : u.ok) (h : AgreeAll s t) (h' : AgreeAll t u) : AgreeAll s u := (agreeAll_iff hs hu).mpr fun w k h1 h2 p => ((agreeAll_iff hs ht).mp h w k h1 h2 p).trans ((agreeAll_iff ht hu).mp h' w k h1 h2 p)
end

/-! Qb5: the law's views, and whether they agree. -/
open PySem
section
variable {Φ : Phi} {Γ : Str → Option D} {ρ ρ1 ρ2 : Env} {Q : Out → Env → Prop}
def onesW (xs : List D) : List D := if isNon (onlyD xs) then [] else [onlyD xs]
def viewW : Ln → D
  | none => .none
  | some xs => .tuple [.int xs.length, .bool (blkB xs), .list ((msk xs).map .bool), .list (onesW xs)]
def SpViewW (F : FSem) : Prop := ∀ (l : Ln), LnOk 5000000 l → F [.val l.d] = some (viewW l, [.val l.d])
theorem ev_msk {i j : Nat} {xs : List D} (h1 : ρ[i]? = some (.val (.list xs))) (h2 : noHeld [j] ρ = true) (h3 : xs.length ≤ 5000000) (h4 : backE [j] ρ (wipeE [j] ρ) = ρ) (h5 : ∀ d, setV j d (wipeE [j] ρ) = some ((wipeE [j] ρ).set j (.val d))) (hj : j < ρ.length) :
    ev Φ Γ (.comp [j] (.one j) (.seq (.var i)) (.kB true) (.cmp .Is (.var j) .kN)) ρ = some (.list ((msk xs).map .bool), ρ) := by
  have e : (msk xs).map PyData.bool = xs.map fun d => .bool (isNon d) := by unfold msk; rw [List.map_map]; rfl
  rw [e]
  have hw : (wipeE [j] ρ).length = ρ.length := by show (ρ.set j Sl.non).length = _; rw [List.length_set]
  have hget : ∀ d : D, ((wipeE [j] ρ).set j (Sl.val d))[j]? = some (Sl.val d) := fun d => by
    rw [List.getElem?_set_self (by rw [hw]; exact hj)]
  have hback : ∀ d : D, wipeE [j] ((wipeE [j] ρ).set j (Sl.val d)) = wipeE [j] ρ := fun d => by
    show ((ρ.set j Sl.non).set j (Sl.val d)).set j Sl.non = ρ.set j Sl.non
    rw [List.set_set, List.set_set]
  apply ev_compM
  · exact ei_seq (ev_var h1) rfl
  · exact h2
  · rw [size_eq]; omega
  · exact h4
  intro d hd
  exact ⟨_, h5 d, _, ev_cmp (ev_var (hget d)) ev_kN c_is, hback d⟩
theorem sp_viewW : SpViewW (runF Φ Γ 1 4 t_law_view) := by
  intro l hl
  refine runF_of rfl ?_
  unfold t_law_view
  apply en_seq
  cases l with
  | none =>
    (law_purse 2 => fail)
    exact ⟨rfl, rfl⟩
  | some xs =>
    obtain ⟨x1, x2, _⟩ := hl xs rfl
    apply en_iteF
    · (law_purse 1 => fail)
    · rfl
    apply en_skip
    apply sq_nx
    apply en_seq
    apply en_set
    · exact ev_somes (i := 0) (j := 3) rfl rfl x2 rfl (fun _ => rfl) (by simp [Ln.d])
    · exact rfl
    apply sq_nx
    have hlen : (somes xs).length ≤ 5000000 := Nat.le_trans (List.length_filter_le _ _) x2
    have hcs := somes_cells x1
    have hones : ev Φ Γ (.ite (.cmp .Eq (.var 1) (.bin .Mult (.slice (.var 1) .pN (.pE (.kI 1))) (.b1 .len (.var 1)))) (.slice (.var 1) .pN (.pE (.kI 1))) (.lst .nil)) [.val (.list xs), .val (.list (somes xs)), .non, .non] = some (.list (onesW xs), [.val (.list xs), .val (.list (somes xs)), .non, .non]) := by
      have hns : ∀ y ∈ somes xs, isNon y = false := fun y hy => by
        have := (List.mem_filter.mp hy).2
        simpa using this
      unfold onesW onlyD
      generalize somes xs = ys at hlen hcs hns
      have sl : sliceD (.list ys) none (some 1) = some (.list (ys.take 1)) := by
        show some (PyData.list (cutL ys none (some ((1 : Nat) : Int)))) = _
        rw [cut_b]
      cases ys with
      | nil =>
        apply ev_iteT
        · (law_purse 1 => first | exact sl | exact o_mulL (n := 0) (by decide) (by decide) | exact c_eq (a := .list []) (b := .list []) rfl rfl)
        · rfl
        · (law_purse 1 => exact sl)
      | cons y r =>
        have cr : Cells (List.replicate (r.length + 1) y) := fun x hx => by rw [List.eq_of_mem_replicate hx]; exact hcs y List.mem_cons_self
        have mul : opX .Mult (.list [y]) (.int ((y :: r).length : Nat)) = some (.list (List.replicate (r.length + 1) y)) := by
          have := o_mulL (xs := [y]) (n := (y :: r).length) (by simp at hlen ⊢; omega) (by simp at hlen ⊢; omega)
          rw [flat1] at this
          exact this
        have sl : sliceD (.list (y :: r)) none (some 1) = some (.list [y]) := sl
        have q := c_eq (cells_sh hcs) (cells_sh cr)
        rw [eqv_list] at q
        by_cases h : PyData.eqvAll (y :: r) (List.replicate (r.length + 1) y) = true
        · have ho : onlyL (y :: r) = y := by unfold onlyL; simp only [h, if_true]
          rw [ho]
          rw [h] at q
          apply ev_iteT
          · (law_purse 1 => first | exact sl | exact mul | exact q)
          · rfl
          · rw [if_neg (by rw [hns y List.mem_cons_self]; decide)]
            (law_purse 1 => exact sl)
        · have h : PyData.eqvAll (y :: r) (List.replicate (r.length + 1) y) = false := by simpa using h
          have ho : onlyL (y :: r) = .none := by unfold onlyL; simp only [h, if_false, Bool.false_eq_true]
          rw [ho]
          rw [h] at q
          apply ev_iteF
          · (law_purse 1 => first | exact sl | exact mul | exact q)
          · rfl
          · exact ev_lst el_nil (len_dec (n := 0) rfl rfl)
    apply en_seq
    apply en_set
    · exact hones
    · exact rfl
    apply sq_nx
    have e2 : cmpX .Eq (.list (somes xs)) (.list []) = some (blkB xs) := by
      rw [c_eq (cells_sh (somes_cells x1)) rfl, eqv_nilL]; rfl
    have hm : ev Φ Γ (.comp [3] (.one 3) (.seq (.var 0)) (.kB true) (.cmp .Is (.var 3) .kN)) [.val (.list xs), .val (.list (somes xs)), .val (.list (onesW xs)), .non] = some (.list ((msk xs).map .bool), [.val (.list xs), .val (.list (somes xs)), .val (.list (onesW xs)), .non]) := ev_msk (i := 0) (j := 3) rfl rfl x2 rfl (fun _ => rfl) (by simp)
    apply en_ret
    · (law_purse 1 => first | exact e2 | exact hm)
    · exact ⟨rfl, rfl⟩
theorem viewW_lay {l : Ln} {n : Nat} (h : LnOk n l) : (viewW l).canLay0 = true := by
  cases l with
  | none => rfl
  | some xs =>
    obtain ⟨x1, _, _⟩ := h xs rfl
    have e : PyData.canLayAll0 (onesW xs) = true := by
      unfold onesW
      split
      · rfl
      · show ((onlyD xs).canLay0 && true) = true
        rw [pl_lay _ (cell_pl (onlyD_cell x1)).1]; rfl
    show (true && (true && (PyData.canLayAll0 ((msk xs).map .bool) && (PyData.canLayAll0 (onesW xs) && true)))) = true
    rw [e, (bools_lay (msk xs)).1]; rfl
theorem in_noneW {c r : Ln} {n : Nat} (hc : LnOk n c) (hr : LnOk n r) : cmpX .In .none (.list [viewW c, viewW r]) = some (c.isNone || r.isNone) := by
  rw [c_inL rfl (by show ((viewW c).canLay0 && ((viewW r).canLay0 && true)) = true; rw [viewW_lay hc, viewW_lay hr]; rfl)]
  show some (PyData.eqv (viewW c) .none || (PyData.eqv (viewW r) .none || false)) = _
  have e : ∀ l : Ln, PyData.eqv (viewW l) .none = l.isNone := fun l => by cases l <;> rfl
  rw [e, e, Bool.or_false]
def w0 (d : D) : D := match d with
  | .tuple [l, _, _, _] => l
  | _ => .none
def w1 (d : D) : D := match d with
  | .tuple [_, l, _, _] => l
  | _ => .none
def w2 (d : D) : D := match d with
  | .tuple [_, _, l, _] => l
  | _ => .none
theorem ev_map2 (n i : Nat) (a b : D) (g : D → D) (k : Int) (ρ : Env) (ds : List D) (hds : ds = [a, b]) (hl : n < ρ.length) (h6 : ρ[n]? = some .non) (hi : i ≠ n) {seqv : D} (e : ρ[i]? = some (.val seqv)) (hs : seqD seqv = some ds) (hg : ∀ d ∈ ds, idxD d (.int k) = some (g d)) :
    ev Φ Γ (.comp [n] (.one n) (.seq (.var i)) (.kB true) (.idx (.var n) (.kI k))) ρ = some (.list [g a, g b], ρ) := by
  subst hds
  have hw : wipeE [n] ρ = ρ := by
    show ρ.set n .non = ρ
    apply List.ext_getElem?
    intro j
    by_cases q : j = n
    · subst q; rw [List.getElem?_set_self hl, h6]
    · rw [List.getElem?_set_ne (by omega)]
  apply ev_compM (ds := [a, b]) g
  · exact ei_seq (ev_var e) hs
  · unfold noHeld; simp [h6]
  · exact len_dec (n := 2) rfl rfl
  · show (wipeE [n] ρ).set n ((ρ[n]?).getD .non) = ρ
    rw [hw, h6]
    exact hw
  intro d hd
  rw [hw]
  have hset : setV n d ρ = some (ρ.set n (.val d)) := by unfold setV; rw [h6]
  refine ⟨_, hset, _, ev_idx (ev_var (by rw [List.getElem?_set_self hl])) ev_kI (hg d hd), ?_⟩
  show (ρ.set n (.val d)).set n .non = ρ
  rw [List.set_set]
  exact hw
theorem in_true (a b : Bool) : cmpX .In (.bool true) (.list [.bool a, .bool b]) = some (a || b) := by
  rw [c_inL rfl rfl]
  cases a <;> cases b <;> rfl
theorem eq_tt (a b : Bool) : cmpX .Eq (.list [.bool a, .bool b]) (.list [.bool true, .bool true]) = some (a && b) := by
  rw [c_eq rfl rfl]
  cases a <;> cases b <;> rfl
theorem onesW_cells {xs : List D} (h : Cells xs) : Cells (onesW xs) := by
  unfold onesW
  split
  · intro x hx; cases hx
  · intro x hx
    rw [List.mem_singleton.mp hx]; exact onlyD_cell h
theorem ones_nil (xs : List D) : decide (onesW xs = []) = isNon (onlyD xs) := by
  unfold onesW
  cases isNon (onlyD xs) <;> simp
theorem ones_eq {xs ys : List D} (hx : Cells xs) (hy : Cells ys) : (decide (onesW xs = []) || !pB (onesW xs = onesW ys)) = !pB (∃ d, Only xs d ∧ Only ys d) := by
  rw [← only_pair hx hy, ones_nil, cell_eqv (onlyD_cell hx) (onlyD_cell hy)]
  cases h : isNon (onlyD xs) with
  | true => rfl
  | false =>
    rw [Bool.false_or, Bool.false_or]
    congr 1
    apply pB_congr
    unfold onesW
    rw [h, if_neg (by decide)]
    cases h2 : isNon (onlyD ys) with
    | true =>
      rw [if_pos rfl]
      constructor
      · intro z; cases z
      · intro z; rw [z, h2] at h; cases h
    | false =>
      rw [if_neg (by decide)]
      exact ⟨fun z => (List.cons.inj z).1, fun z => by rw [z]⟩
theorem msk2_eq (a b c d : List Bool) : cmpX .Eq (.list [.list (a.map .bool), .list (b.map .bool)]) (.list [.list (c.map .bool), .list (d.map .bool)]) = some (decide (a = c) && decide (b = d)) := by
  have hs : ∀ a b : List Bool, sh (.list [.list (a.map .bool), .list (b.map .bool)]) = true := fun a b => by
    have h1 := bools_lay a
    have h2 := bools_lay b
    show ((PyData.canLayAll0 (a.map .bool) && (PyData.canLayAll0 (b.map .bool) && true)) && decide (max (PyData.depthAll (a.map .bool) + 1) (max (PyData.depthAll (b.map .bool) + 1) 0) + 1 ≤ 64)) = true
    rw [h1.1, h1.2, h2.1, h2.2]; rfl
  rw [c_eq (hs a b) (hs c d)]
  show some (PyData.eqvAll (a.map .bool) (c.map .bool) && (PyData.eqvAll (b.map .bool) (d.map .bool) && true)) = _
  rw [eqv_bools, eqv_bools, Bool.and_true]
def SpAgreeL (F : FSem) : Prop := ∀ (c r c' r' : Ln) (sw : Bool), LnOk 5000000 c → LnOk 5000000 r → LnOk 5000000 c' → LnOk 5000000 r' → F [.val (.list [viewW c, viewW r]), .val (.list [viewW c', viewW r']), .val (.list [.bool (pB (c = c')), .bool (pB (r = r'))]), .val (.bool sw)] = some (.bool (pB (Agree sw c r c' r')), [.val (.list [viewW c, viewW r]), .val (.list [viewW c', viewW r']), .val (.list [.bool (pB (c = c')), .bool (pB (r = r'))]), .val (.bool sw)])
theorem sp_agreeL : SpAgreeL (runF Φ Γ 4 11 t_law_agree) := by
  intro c r c' r' sw oc or_ oc' or'
  refine runF_of rfl ?_
  unfold t_law_agree
  have n1 := in_noneW oc or_
  have n2 := in_noneW oc' or'
  apply en_seq
  by_cases h : ((c.isNone || r.isNone) || (c'.isNone || r'.isNone)) = true
  · apply en_iteT
    · apply ev_or
      · (law_purse 1 => exact n1)
      · intro _; (law_purse 1 => exact n2)
    · exact h
    apply en_ret
    · apply ev_and
      · (law_purse 1 => exact n1)
      · intro _; (law_purse 1 => exact n2)
    apply sq_ret
    exact ⟨rfl, congrArg PyData.bool (agree_none h)⟩
  · have h : ((c.isNone || r.isNone) || (c'.isNone || r'.isNone)) = false := Bool.not_eq_true _ ▸ h
    apply en_iteF
    · apply ev_or
      · (law_purse 1 => exact n1)
      · intro _; (law_purse 1 => exact n2)
    · exact h
    apply en_skip
    apply sq_nx
    cases c with
    | none => cases h
    | some c =>
    cases r with
    | none => cases h
    | some r =>
    cases c' with
    | none => cases h
    | some c' =>
    cases r' with
    | none => cases h
    | some r' =>
    clear h n1 n2
    obtain ⟨c1, c2, _⟩ := oc c rfl
    obtain ⟨r1, r2, _⟩ := or_ r rfl
    obtain ⟨c1', c2', _⟩ := oc' c' rfl
    obtain ⟨r1', r2', _⟩ := or' r' rfl
    generalize hK : PyData.list [.bool (pB (some c = some c')), .bool (pB (some r = some r'))] = K
    have mem2 : ∀ (a b : List D) (g : D → D) (k : Int), (∀ l, idxD (viewW (some l)) (.int k) = some (g (viewW (some l)))) → ∀ d ∈ [viewW (some a), viewW (some b)], idxD d (.int k) = some (g d) := by
      intro a b g k hg d hd
      simp only [List.mem_cons, List.not_mem_nil, or_false] at hd
      rcases hd with rfl | rfl <;> exact hg _
    have L0 : ∀ l, idxD (viewW (some l)) (.int 0) = some (w0 (viewW (some l))) := fun _ => rfl
    have L1 : ∀ l, idxD (viewW (some l)) (.int 1) = some (w1 (viewW (some l))) := fun _ => rfl
    have L2 : ∀ l, idxD (viewW (some l)) (.int 2) = some (w2 (viewW (some l))) := fun _ => rfl
    apply en_seq
    apply en_par
    · exact el_cons (ev_map2 10 0 _ _ w0 0 _ _ rfl (by simp) rfl (by omega) rfl rfl (mem2 c r w0 0 L0)) (el_cons (ev_map2 10 1 _ _ w0 0 _ _ rfl (by simp) rfl (by omega) rfl rfl (mem2 c' r' w0 0 L0)) el_nil)
    · exact rfl
    apply sq_nx
    apply en_seq
    have hlen : ev Φ Γ (.cmp .NotEq (.var 4) (.ite (.truth (.var 3)) (.rev (.var 5)) (.var 5))) [.val (.list [viewW (some c), viewW (some r)]), .val (.list [viewW (some c'), viewW (some r')]), .val K, .val (.bool sw), .val (.list [.int c.length, .int r.length]), .val (.list [.int c'.length, .int r'.length]), .non, .non, .non, .non, .non] = some (.bool (!lensB sw c r c' r'), [.val (.list [viewW (some c), viewW (some r)]), .val (.list [viewW (some c'), viewW (some r')]), .val K, .val (.bool sw), .val (.list [.int c.length, .int r.length]), .val (.list [.int c'.length, .int r'.length]), .non, .non, .non, .non, .non]) := by
      apply ev_cmp (y := .list (if sw then [.int r'.length, .int c'.length] else [.int c'.length, .int r'.length]))
      · exact ev_var rfl
      · cases sw with
        | false =>
          apply ev_iteF (k := false)
          · (law_purse 1 => fail)
          · rfl
          · exact ev_var rfl
        | true =>
          apply ev_iteT (k := true)
          · (law_purse 1 => fail)
          · rfl
          · exact ev_rev (ev_var rfl) rfl
      · cases sw with
        | false => exact two_ne c.length r.length c'.length r'.length
        | true => exact two_ne c.length r.length r'.length c'.length
    by_cases hL : lensB sw c r c' r' = true
    · have iff := agreeS_iff hL
      apply en_iteF
      · exact hlen
      · rw [hL]; rfl
      apply en_skip
      apply sq_nx
      apply en_seq
      apply en_par
      · refine el_cons (ev_cmp ev_kB (ev_map2 10 0 _ _ w1 1 _ _ rfl (by simp) rfl (by omega) rfl rfl (mem2 c r w1 1 L1)) (in_true (blkB c) (blkB r))) (el_cons (ev_cmp ev_kB (ev_map2 10 1 _ _ w1 1 _ _ rfl (by simp) rfl (by omega) rfl rfl (mem2 c' r' w1 1 L1)) (in_true (blkB c') (blkB r'))) el_nil)
      · exact rfl
      apply sq_nx
      apply en_seq
      by_cases hB : ((blkB c || blkB r) || (blkB c' || blkB r')) = true
      · apply en_iteT
        · apply ev_or
          · (law_purse 1 => fail)
          · intro _; (law_purse 1 => fail)
        · exact hB
        apply en_ret
        · apply ev_and
          · (law_purse 1 => fail)
          · intro _; (law_purse 1 => fail)
        apply sq_ret
        refine ⟨rfl, congrArg PyData.bool (pB_eq ?_)⟩
        rw [agree_some, iff]
        constructor
        · exact fun z => .inl z
        · rintro (z | ⟨z, _⟩)
          · exact z
          · rw [hB] at z; cases z
      · have hB : ((blkB c || blkB r) || (blkB c' || blkB r')) = false := by simpa using hB
        have hB2 : ((blkB c || blkB r) && (blkB c' || blkB r')) = false := by
          rw [Bool.or_eq_false_iff] at hB
          rw [hB.1]; rfl
        apply en_iteF
        · apply ev_or
          · (law_purse 1 => fail)
          · intro _; (law_purse 1 => fail)
        · exact hB
        apply en_skip
        apply sq_nx
        apply en_seq
        cases sw with
        | false =>
          apply en_iteT
          · (law_purse 1 => fail)
          · rfl
          subst hK
          apply en_ret
          · (law_purse 1 => exact eq_tt _ _)
          apply sq_ret
          refine ⟨rfl, congrArg PyData.bool (pB_eq ?_)⟩
          rw [agree_some, iff, Bool.and_eq_true, pB_iff, pB_iff]
          constructor
          · exact fun z => .inr ⟨hB, Option.some.inj z.1, Option.some.inj z.2⟩
          · rintro (z | ⟨_, z⟩)
            · rw [hB2] at z; cases z
            · exact ⟨congrArg some z.1, congrArg some z.2⟩
        | true =>
          apply en_iteF
          · (law_purse 1 => fail)
          · rfl
          apply en_skip
          apply sq_nx
          have fin : ∀ b, b = pB (AgreeS true c r c' r') → b = pB (Agree true (some c) (some r) (some c') (some r')) := fun b hb => by
            rw [hb]; exact pB_congr agree_some.symm
          have one : ∀ (a b : List D) (ds : List D) (x8 x9 : Sl) (Q : Out → Env → Prop) , Cells a → Cells b → vb x8 → vb x9 →
              (pB (∃ d, Only a d ∧ Only b d) = false → Q (.ret (.bool false)) [.val (.list [viewW (some c), viewW (some r)]), .val (.list [viewW (some c'), viewW (some r')]), .val K, .val (.bool true), .val (.list [.int c.length, .int r.length]), .val (.list [.int c'.length, .int r'.length]), .val (.bool (blkB c || blkB r)), .val (.bool (blkB c' || blkB r')), .val (viewW (some a)), .val (viewW (some b)), .non]) →
              (pB (∃ d, Only a d ∧ Only b d) = true → EndsL Φ Γ (.many [8, 9]) (.ite (.or (.cmp .Eq (.idx (.var 8) (.kI 3)) (.lst .nil)) (.cmp .NotEq (.idx (.var 8) (.kI 3)) (.idx (.var 9) (.kI 3)))) (.ret (.kB false)) .skip) ds [.val (.list [viewW (some c), viewW (some r)]), .val (.list [viewW (some c'), viewW (some r')]), .val K, .val (.bool true), .val (.list [.int c.length, .int r.length]), .val (.list [.int c'.length, .int r'.length]), .val (.bool (blkB c || blkB r)), .val (.bool (blkB c' || blkB r')), .val (viewW (some a)), .val (viewW (some b)), .non] Q) →
              EndsL Φ Γ (.many [8, 9]) (.ite (.or (.cmp .Eq (.idx (.var 8) (.kI 3)) (.lst .nil)) (.cmp .NotEq (.idx (.var 8) (.kI 3)) (.idx (.var 9) (.kI 3)))) (.ret (.kB false)) .skip) (.tuple [viewW (some a), viewW (some b)] :: ds) [.val (.list [viewW (some c), viewW (some r)]), .val (.list [viewW (some c'), viewW (some r')]), .val K, .val (.bool true), .val (.list [.int c.length, .int r.length]), .val (.list [.int c'.length, .int r'.length]), .val (.bool (blkB c || blkB r)), .val (.bool (blkB c' || blkB r')), x8, x9, .non] Q := by
            intro a b ds x8 x9 Q ca cb h8 h9 q1 q2
            apply el1
            · (law_purse 18 => fail)
            have i1 : idxD (viewW (some a)) (.int 3) = some (.list (onesW a)) := rfl
            have i2 : idxD (viewW (some b)) (.int 3) = some (.list (onesW b)) := rfl
            have e1 : cmpX .Eq (.list (onesW a)) (.list []) = some (decide (onesW a = [])) := by rw [c_eq (cells_sh (onesW_cells ca)) rfl, eqv_nilL]
            have e2 : cmpX .NotEq (.list (onesW a)) (.list (onesW b)) = some (!pB (onesW a = onesW b)) := by rw [c_ne (cells_sh (onesW_cells ca)) (cells_sh (onesW_cells cb)), cells_eqv (onesW_cells ca) (onesW_cells cb)]
            have hcond : ev Φ Γ (.or (.cmp .Eq (.idx (.var 8) (.kI 3)) (.lst .nil)) (.cmp .NotEq (.idx (.var 8) (.kI 3)) (.idx (.var 9) (.kI 3)))) [.val (.list [viewW (some c), viewW (some r)]), .val (.list [viewW (some c'), viewW (some r')]), .val K, .val (.bool true), .val (.list [.int c.length, .int r.length]), .val (.list [.int c'.length, .int r'.length]), .val (.bool (blkB c || blkB r)), .val (.bool (blkB c' || blkB r')), .val (viewW (some a)), .val (viewW (some b)), .non] = some (.bool (!pB (∃ d, Only a d ∧ Only b d)), [.val (.list [viewW (some c), viewW (some r)]), .val (.list [viewW (some c'), viewW (some r')]), .val K, .val (.bool true), .val (.list [.int c.length, .int r.length]), .val (.list [.int c'.length, .int r'.length]), .val (.bool (blkB c || blkB r)), .val (.bool (blkB c' || blkB r')), .val (viewW (some a)), .val (viewW (some b)), .non]) := by
              rw [← ones_eq ca cb]
              apply ev_or
              · (law_purse 1 => first | exact i1 | exact e1)
              · intro _; (law_purse 1 => first | exact i1 | exact i2 | exact e2)
            cases hp : pB (∃ d, Only a d ∧ Only b d) with
            | true =>
              rw [hp] at hcond
              apply en_iteF
              · exact hcond
              · rfl
              apply en_skip
              apply lp_nx
              exact q2 hp
            | false =>
              rw [hp] at hcond
              apply en_iteT
              · exact hcond
              · rfl
              apply en_ret
              · exact ev_kB
              · exact q1 hp
          have no : ∀ {a b : List D}, (AgreeS true c r c' r' → ∃ d, Only a d ∧ Only b d) → pB (∃ d, Only a d ∧ Only b d) = false → false = pB (AgreeS true c r c' r') := fun {a b} h1 h2 => (pB_false fun z => by rw [pB_true (h1 z)] at h2; cases h2).symm
          have cr : AgreeS true c r c' r' → Crossed c r c' r' := fun z => by
            rcases iff.mp z with z | ⟨_, z⟩
            · rw [hB2] at z; cases z
            · exact z
          apply en_seq
          apply en_forU (ds := [.tuple [viewW (some c), viewW (some c')], .tuple [viewW (some r), viewW (some r')]])
          · exact ei_zipL (xs := [viewW (some c), viewW (some r)]) (ys := [viewW (some c'), viewW (some r')]) (ev_var rfl) (ev_var rfl)
          refine one c c' _ _ _ _ c1 c1' (.inl rfl) (.inl rfl) (fun hp => ?_) fun hp => ?_
          · apply sq_ret
            exact ⟨rfl, congrArg PyData.bool (fin _ (no (fun z => (cr z).1) hp))⟩
          refine one r r' _ _ _ _ r1 r1' (vb_val _) (vb_val _) (fun hp2 => ?_) fun hp2 => ?_
          · apply sq_ret
            exact ⟨rfl, congrArg PyData.bool (fin _ (no (fun z => (cr z).2.1) hp2))⟩
          apply el0
          apply sq_nx
          apply en_ret
          · exact ev_cmp (ev_map2 10 0 _ _ w2 2 _ _ rfl (by simp) rfl (by omega) rfl rfl (mem2 c r w2 2 L2)) (ev_rev (ev_map2 10 1 _ _ w2 2 _ _ rfl (by simp) rfl (by omega) rfl rfl (mem2 c' r' w2 2 L2)) rfl) (msk2_eq (msk c) (msk r) (msk r') (msk c'))
          · refine ⟨rfl, congrArg PyData.bool (fin _ (pB_eq ?_))⟩
            rw [iff, Bool.and_eq_true, decide_eq_true_eq, decide_eq_true_eq]
            rw [pB_iff] at hp hp2
            constructor
            · exact fun z => .inr ⟨hB, hp, hp2, z.1, z.2⟩
            · rintro (z | ⟨_, z⟩)
              · rw [hB2] at z; cases z
              · exact ⟨z.2.2.1, z.2.2.2⟩
    · have hL : lensB sw c r c' r' = false := by simpa using hL
      apply en_iteT
      · exact hlen
      · rw [hL]; rfl
      (law_purse 2 => fail)
      refine ⟨rfl, ?_⟩
      rw [pB_false fun z => agreeS_no hL (agree_some.mp z)]
end

/-! Qb6: the law's own telling sizes. -/
open PySem
section
variable {Φ : Phi} {Γ : Str → Option D} {ρ ρ1 ρ2 : Env} {Q : Out → Env → Prop}
/-- lines of a size, and whether they are exchanged -/
def l3O (s : Stk) (n : Nat) : D := .tuple [(lnO s false n).d, (lnO s true n).d, .bool (swp s)]
def w2O (s : Stk) (n : Nat) : D := .list [viewW (lnO s false n), viewW (lnO s true n)]
def upD (f : Nat → D) (m : Nat) : List D := (List.range m).map fun i => f (i + 1)
theorem upD_len (f : Nat → D) (m : Nat) : (upD f m).length = m := by unfold upD; simp
theorem upD_get {f : Nat → D} {m n : Nat} (h0 : 0 < n) (hn : n ≤ m) : atI (upD f m) ((n - 1 : Nat) : Int) = some (f n) := by
  apply atI_nat'
  unfold upD
  rw [List.getElem?_map, List.getElem?_range (by omega)]
  show some (f (n - 1 + 1)) = _
  rw [Nat.sub_add_cancel h0]
def SpRowOf (F : FSem) : Prop := ∀ (s : Stk) (m : Nat), s.ok → s.length ≤ 6 → m ≤ 4000 → F [.val s.d, .val (.int m)] = some (.tuple [.list (upD (l3O s) m), .list (upD (w2O s) m)], [.val s.d, .val (.int m)])
def nOf (d : D) : Nat := match d with
  | .int i => i.toNat
  | _ => 0
def gW (d : D) : D := match d with
  | .tuple [.none, .none, _] => .list [viewW none, viewW none]
  | .tuple [.list xs, .none, _] => .list [viewW (some xs), viewW none]
  | .tuple [.none, .list ys, _] => .list [viewW none, viewW (some ys)]
  | .tuple [.list xs, .list ys, _] => .list [viewW (some xs), viewW (some ys)]
  | _ => .none
theorem gW_eq (s : Stk) (n : Nat) : gW (l3O s n) = w2O s n := by
  unfold l3O w2O
  cases lnO s false n <;> cases lnO s true n <;> rfl
theorem sp_rowOf {Fl Fv : FSem} (hl : Φ "_law_lines" = some Fl) (hv : Φ "_law_view" = some Fv) (sl : SpLawLines Fl) (sv : SpViewW Fv) : SpRowOf (runF Φ Γ 2 5 t_law_row_of) := by
  intro s m hs hlen hm
  refine runF_of rfl ?_
  unfold t_law_row_of
  have c1 : ev Φ Γ (.comp [3] (.one 3) (.range2 (.kI 1) (.bin .Add (.var 1) (.kI 1))) (.kB true) (.call "_law_lines" (.cons (.var 3) (.cons (.var 3) (.cons (.var 0) .nil))))) [.val s.d, .val (.int m), .non, .non, .non] = some (.list (upD (l3O s) m), [.val s.d, .val (.int m), .non, .non, .non]) := by
    have e : upD (l3O s) m = (rangeD 1 m 1).map fun d => l3O s (nOf d) := by
      unfold upD rangeD
      rw [List.map_map]
      apply List.map_congr_left
      intro i _
      show l3O s (i + 1) = l3O s ((1 + (i : Int) * 1).toNat)
      congr 1; omega
    rw [e]
    apply ev_compM
    · have := ei_r2 (Φ := Φ) (Γ := Γ) (a := .kI 1) (b := .bin .Add (.var 1) (.kI 1)) (i := 1) (j := (m : Int) + 1) (ρ := [.val s.d, .val (.int m), .non, .non, .non]) ev_kI (ev_bin (ev_var rfl) ev_kI o_addI) (by omega) (by omega)
      rw [show ((m : Int) + 1 - 1).toNat = m by omega] at this
      exact this
    · rfl
    · rw [range_len, size_eq]; omega
    · rfl
    intro d hd
    obtain ⟨k, hk⟩ := mem_get hd
    obtain ⟨rfl, hk⟩ := rng hk
    have h1 := sl (k + 1) (k + 1) s hs (fit_of hlen (by omega) (by omega) (by omega) (by omega))
    rw [ownL_eq hs, linesA_sw hs] at h1
    rw [show (1 : Int) + (k : Int) = ((k + 1 : Nat) : Int) by omega]
    refine ⟨_, rfl, ?_⟩
    apply ee
    · (law_purse 1 => exact h1)
    · rfl
  apply en_seq
  apply en_set
  · exact c1
  · exact rfl
  apply sq_nx
  have c2 : ev Φ Γ (.comp [4] (.one 4) (.seq (.var 2)) (.kB true) (.lst (.cons (.call "_law_view" (.cons (.idx (.var 4) (.kI 0)) .nil)) (.cons (.call "_law_view" (.cons (.idx (.var 4) (.kI 1)) .nil)) .nil)))) [.val s.d, .val (.int m), .val (.list (upD (l3O s) m)), .non, .non] = some (.list (upD (w2O s) m), [.val s.d, .val (.int m), .val (.list (upD (l3O s) m)), .non, .non]) := by
    have e : upD (w2O s) m = (upD (l3O s) m).map gW := by
      unfold upD
      rw [List.map_map]
      apply List.map_congr_left
      intro i _
      exact (gW_eq s (i + 1)).symm
    rw [e]
    apply ev_compM
    · exact ei_seq (ev_var rfl) rfl
    · rfl
    · rw [upD_len, size_eq]; omega
    · rfl
    intro d hd
    unfold upD at hd
    rw [List.mem_map] at hd
    obtain ⟨i, hi, rfl⟩ := hd
    have hi := List.mem_range.mp hi
    rw [gW_eq, show w2O s (i + 1) = .list [viewW (lnO s false (i + 1)), viewW (lnO s true (i + 1))] from rfl]
    have i1 : idxD (l3O s (i + 1)) (.int 0) = some (lnO s false (i + 1)).d := rfl
    have i2 : idxD (l3O s (i + 1)) (.int 1) = some (lnO s true (i + 1)).d := rfl
    have v1 := sv _ (lnO_ok hs hlen false (n := i + 1) (by omega) (by omega))
    have v2 := sv _ (lnO_ok hs hlen true (n := i + 1) (by omega) (by omega))
    refine ⟨_, rfl, ?_⟩
    have g4 : ∀ d, ((wipeE [4] [Sl.val s.d, .val (.int m), .val (.list (upD (l3O s) m)), .non, .non]).set 4 (Sl.val d))[4]? = some (.val d) := fun _ => rfl
    apply ee
    · exact ev_lst (el_cons (ev_call (ea_cons (ev_idx (ev_var (g4 _)) ev_kI i1) ea_nil) hv rfl v1 List.nodup_nil rfl) (el_cons (ev_call (ea_cons (ev_idx (ev_var (g4 _)) ev_kI i2) ea_nil) hv rfl v2 List.nodup_nil rfl) el_nil)) (len_dec (n := 2) rfl rfl)
    · rfl
  apply en_ret
  · (law_purse 1 => exact c2)
  · exact ⟨rfl, rfl⟩
theorem ln_eq {a b : Ln} {n : Nat} (ha : LnOk n a) (hb : LnOk n b) : cmpX .Eq a.d b.d = some (pB (a = b)) := by
  cases a with
  | none =>
    cases b with
    | none => rw [pB_true rfl]; exact c_eq (a := .none) (b := .none) rfl rfl
    | some ys =>
      obtain ⟨y1, _, _⟩ := hb ys rfl
      rw [pB_false (by simp)]
      exact (c_eq (a := .none) (b := .list ys) rfl (cells_sh y1)).trans (congrArg some (by cases ys <;> rfl))
  | some xs =>
    obtain ⟨x1, _, _⟩ := ha xs rfl
    cases b with
    | none =>
      rw [pB_false (by simp)]
      exact (c_eq (a := .list xs) (b := .none) (cells_sh x1) rfl).trans (congrArg some (by cases xs <;> rfl))
    | some ys =>
      obtain ⟨y1, _, _⟩ := hb ys rfl
      have : cmpX .Eq (.list xs) (.list ys) = some (pB (xs = ys)) := by rw [c_eq (cells_sh x1) (cells_sh y1), cells_eqv x1 y1]
      rw [pB_congr (show (some xs = some ys) ↔ xs = ys from ⟨Option.some.inj, congrArg some⟩)]
      exact this
noncomputable def likeO (s t : Stk) (n : Nat) : D := .list [.bool (pB (lnO s false n = lnO t false n)), .bool (pB (lnO s true n = lnO t true n))]
noncomputable def gK (d : D) : D := match d with
  | .tuple [.tuple [a, b, _], .tuple [c, e, _]] => .list [.bool (pB (a = c)), .bool (pB (b = e))]
  | _ => .none
theorem ln_d_inj {a b : Ln} : a.d = b.d ↔ a = b := by
  cases a <;> cases b <;> simp [Ln.d]
theorem gK_eq (s t : Stk) (n : Nat) : gK (.tuple [l3O s n, l3O t n]) = likeO s t n := by
  show PyData.list [.bool (pB ((lnO s false n).d = (lnO t false n).d)), .bool (pB ((lnO s true n).d = (lnO t true n).d))] = _
  unfold likeO
  rw [pB_congr ln_d_inj, pB_congr ln_d_inj]
theorem zip_map {α : Type} (f g : α → D) : ∀ xs : List α, zipD (xs.map f) (xs.map g) = xs.map fun x => .tuple [f x, g x]
  | [] => rfl
  | x :: xs => by
    show PyData.tuple [f x, g x] :: zipD (xs.map f) (xs.map g) = _
    rw [zip_map f g xs]; rfl
theorem ev_likes {s t : Stk} {m : Nat} (hs : s.ok) (ht : t.ok) (ls : s.length ≤ 6) (lt : t.length ≤ 6) (hm : m ≤ 4000) {i j k l : Nat} (h1 : ρ[i]? = some (.val (.list (upD (l3O s) m)))) (h2 : ρ[j]? = some (.val (.list (upD (l3O t) m)))) (hk : k < ρ.length) (hl : l < ρ.length) (hkl : k ≠ l) (e1 : ρ[k]? = some .non) (e2 : ρ[l]? = some .non) :
    ev Φ Γ (.comp [k, l] (.many [k, l]) (.zip (.var i) (.var j)) (.kB true) (.lst (.cons (.cmp .Eq (.idx (.var k) (.kI 0)) (.idx (.var l) (.kI 0))) (.cons (.cmp .Eq (.idx (.var k) (.kI 1)) (.idx (.var l) (.kI 1))) .nil)))) ρ = some (.list (upD (likeO s t) m), ρ) := by
  have hset : ∀ (n : Nat) (ρ : Env), n < ρ.length → ρ[n]? = some .non → ρ.set n .non = ρ := by
    intro n ρ hn e
    apply List.ext_getElem?
    intro p
    by_cases q : p = n
    · subst q; rw [List.getElem?_set_self hn, e]
    · rw [List.getElem?_set_ne (by omega)]
  have hw : wipeE [k, l] ρ = ρ := by
    show (ρ.set l .non).set k .non = ρ
    rw [hset l ρ hl e2, hset k ρ hk e1]
  have e : upD (likeO s t) m = (zipD (upD (l3O s) m) (upD (l3O t) m)).map gK := by
    unfold upD
    rw [zip_map, List.map_map]
    apply List.map_congr_left
    intro n _
    exact (gK_eq s t (n + 1)).symm
  rw [e]
  apply ev_compM
  · exact ei_zipL (ev_var h1) (ev_var h2)
  · unfold noHeld; simp [e1, e2]
  · unfold upD; rw [zip_map, List.length_map, List.length_range, size_eq]; omega
  · rw [hw]
    show (ρ.set l ((ρ[l]?).getD .non)).set k ((ρ[k]?).getD .non) = ρ
    rw [e1, e2]
    exact hw
  intro d hd
  unfold upD at hd
  rw [zip_map, List.mem_map] at hd
  obtain ⟨n, hn, rfl⟩ := hd
  have hn := List.mem_range.mp hn
  rw [hw, gK_eq]
  have b1 : bindT (.many [k, l]) (.tuple [l3O s (n + 1), l3O t (n + 1)]) ρ = some ((ρ.set k (.val (l3O s (n + 1)))).set l (.val (l3O t (n + 1)))) := by
    apply sv_many
    apply sv_cons (ρ1 := ρ.set k (.val (l3O s (n + 1))))
    · exact setV_vb e1 (.inl rfl)
    apply sv_cons
    · exact setV_vb (by rw [List.getElem?_set_ne hkl]; exact e2) (.inl rfl)
    · exact sv_nil
  refine ⟨_, b1, ?_⟩
  have g1 : ((ρ.set k (Sl.val (l3O s (n + 1)))).set l (.val (l3O t (n + 1))))[k]? = some (Sl.val (l3O s (n + 1))) := by
    rw [List.getElem?_set_ne (Ne.symm hkl), List.getElem?_set_self hk]
  have g2 : ((ρ.set k (Sl.val (l3O s (n + 1)))).set l (.val (l3O t (n + 1))))[l]? = some (Sl.val (l3O t (n + 1))) := by
    rw [List.getElem?_set_self (by rw [List.length_set]; exact hl)]
  have q1 := ln_eq (lnO_ok hs ls false (n := n + 1) (by omega) (by omega)) (lnO_ok ht lt false (n := n + 1) (by omega) (by omega))
  have q2 := ln_eq (lnO_ok hs ls true (n := n + 1) (by omega) (by omega)) (lnO_ok ht lt true (n := n + 1) (by omega) (by omega))
  apply ee
  · exact ev_lst (el_cons (ev_cmp (ev_idx (ev_var g1) ev_kI rfl) (ev_idx (ev_var g2) ev_kI rfl) q1) (el_cons (ev_cmp (ev_idx (ev_var g1) ev_kI rfl) (ev_idx (ev_var g2) ev_kI rfl) q2) el_nil)) (len_dec (n := 2) rfl rfl)
  · show (((ρ.set k (Sl.val (l3O s (n + 1)))).set l (.val (l3O t (n + 1)))).set l .non).set k .non = ρ
    rw [List.set_set, List.set_comm _ _ hkl, List.set_set]
    exact hw
def SpParts (F : FSem) : Prop := ∀ (s t : Stk) (m : Nat), s.ok → t.ok → s.length ≤ 6 → t.length ≤ 6 → 0 < m → m ≤ 4000 → F [.val s.d, .val t.d, .val (.int m)] = some (oSz (tell s t m), [.val s.d, .val t.d, .val (.int m)])
theorem sp_parts {Fr Fg : FSem} (hr : Φ "_law_row_of" = some Fr) (hg : Φ "_law_agree" = some Fg) (sr : SpRowOf Fr) (sg : SpAgreeL Fg) : SpParts (runF Φ Γ 3 17 t_law_parts) := by
  intro s t m os ot ls lt h0 hm
  refine runF_of rfl ?_
  unfold t_law_parts
  have e1 := sr s m os ls hm
  have e2 := sr t m ot lt hm
  apply en_seq
  apply en_setT
  · (law_purse 1 => exact e1)
  · exact rfl
  apply sq_nx
  apply en_seq
  apply en_setT
  · (law_purse 1 => exact e2)
  · exact rfl
  apply sq_nx
  apply en_seq
  have i1 : idxD (.list (upD (l3O s) m)) (.int 0) = some (l3O s 1) := upD_get (n := 1) (by omega) h0
  have i2 : idxD (.list (upD (l3O t) m)) (.int 0) = some (l3O t 1) := upD_get (n := 1) (by omega) h0
  have i3 : ∀ s n, idxD (l3O s n) (.int 2) = some (.bool (swp s)) := fun _ _ => rfl
  apply en_set
  · (law_purse 1 => first | exact i1 | exact i2 | exact i3 _ _ | exact bool_ne _ _)
  · exact rfl
  apply sq_nx
  apply en_seq
  apply en_set
  · exact ev_likes os ot ls lt hm (i := 6) (j := 8) (k := 11) (l := 12) rfl rfl (by simp) (by simp) (by omega) rfl rfl
  · exact rfl
  apply sq_nx
  apply en_seq
  refine en_sizes (m := m) hm (notA s t) (fun ρ => ∃ x5 x10 x11 x12 x13 x14 x15 x16, vb x5 ∧ vb x10 ∧ vb x11 ∧ vb x12 ∧ vb x13 ∧ vb x14 ∧ vb x15 ∧ vb x16 ∧ ρ = [.val s.d, .val t.d, .val (.int m), .val (.bool (swp s != swp t)), .val (.list (upD (likeO s t) m)), x5, .val (.list (upD (l3O s) m)), .val (.list (upD (w2O s) m)), .val (.list (upD (l3O t) m)), .val (.list (upD (w2O t) m)), x10, x11, x12, x13, x14, x15, x16]) (fun ρ => outs [.val s.d, .val t.d, .val (.int m)] ρ = some [.val s.d, .val t.d, .val (.int m)]) ⟨_, _, _, _, _, _, _, _, .inl rfl, .inl rfl, .inl rfl, .inl rfl, .inl rfl, .inl rfl, .inl rfl, .inl rfl, rfl⟩ ?_ ?_ ?_ ?_ ?_ ?_
  · rintro ρ ⟨x5, x10, x11, x12, x13, x14, x15, x16, h5, h10, h11, h12, h13, h14, h15, h16, rfl⟩; rfl
  · rintro ρ d ⟨x5, x10, x11, x12, x13, x14, x15, x16, h5, h10, h11, h12, h13, h14, h15, h16, rfl⟩
    exact ⟨_, sv_one (setV_vb rfl h5), ⟨_, x10, x11, x12, x13, x14, x15, x16, vb_val _, h10, h11, h12, h13, h14, h15, h16, rfl⟩, rfl⟩
  · rintro ρ d e ⟨x5, x10, x11, x12, x13, x14, x15, x16, h5, h10, h11, h12, h13, h14, h15, h16, rfl⟩ hg
    exact ⟨_, sv_one (setV_vb rfl h10), ⟨x5, _, x11, x12, x13, x14, x15, x16, h5, vb_val _, h11, h12, h13, h14, h15, h16, rfl⟩, hg, rfl⟩
  · rintro ⟨w, h⟩ tt z1 z2 z3 z4 ht ρ ⟨x5, x10, x11, x12, x13, x14, x15, x16, h5, h10, h11, h12, h13, h14, h15, h16, rfl⟩ hg5 hg10
    have z1 : 0 < w := z1
    have z2 : 0 < h := z2
    have z3 : w ≤ m := z3
    have z4 : h ≤ m := z4
    have ht : tt = w + h := ht
    have hg5 : some x5 = some (Sl.val (.int tt)) := hg5
    have hg10 : some x10 = some (Sl.val (.int w)) := hg10
    cases hg5; cases hg10
    have a13 : opX .Sub (.int w) (.int 1) = some (.int ((w - 1 : Nat) : Int)) := by rw [o_subI, show (w : Int) - 1 = ((w - 1 : Nat) : Int) by omega]
    have a14 : opX .Sub (.int tt) (.int w) = some (.int (h : Nat)) := i_nat (by omega)
    have a14b : opX .Sub (.int h) (.int 1) = some (.int ((h - 1 : Nat) : Int)) := by rw [o_subI, show (h : Int) - 1 = ((h - 1 : Nat) : Int) by omega]
    have v1 : ∀ s, idxD (.list (upD (w2O s) m)) (.int ((w - 1 : Nat) : Int)) = some (w2O s w) := fun s => upD_get z1 z3
    have v2 : ∀ s, idxD (.list (upD (w2O s) m)) (.int ((h - 1 : Nat) : Int)) = some (w2O s h) := fun s => upD_get z2 z4
    have v3 : idxD (.list (upD (likeO s t) m)) (.int ((w - 1 : Nat) : Int)) = some (likeO s t w) := upD_get z1 z3
    have v4 : idxD (.list (upD (likeO s t) m)) (.int ((h - 1 : Nat) : Int)) = some (likeO s t h) := upD_get z2 z4
    have k0 : ∀ s n, idxD (w2O s n) (.int 0) = some (viewW (lnO s false n)) := fun _ _ => rfl
    have k1 : ∀ s n, idxD (w2O s n) (.int 1) = some (viewW (lnO s true n)) := fun _ _ => rfl
    have k2 : ∀ n, idxD (likeO s t n) (.int 0) = some (.bool (pB (lnO s false n = lnO t false n))) := fun _ => rfl
    have k3 : ∀ n, idxD (likeO s t n) (.int 1) = some (.bool (pB (lnO s true n = lnO t true n))) := fun _ => rfl
    have call := sg (lnO s false w) (lnO s true h) (lnO t false w) (lnO t true h) (swp s != swp t) (lnO_ok os ls false z1 (by omega)) (lnO_ok os ls true z2 (by omega)) (lnO_ok ot lt false z1 (by omega)) (lnO_ok ot lt true z2 (by omega))
    apply en_seq
    apply en_par
    · (law_purse 1 => first | exact a13 | exact a14 | exact a14b)
    · (law_purse 18 => fail)
    apply sq_nx
    apply en_seq
    apply en_par
    · (law_purse 1 => first | exact v1 _ | exact v2 _ | exact k0 _ _ | exact k1 _ _)
    · (law_purse 18 => fail)
    apply sq_nx
    have hcall : ev Φ Γ (.not (.truth (.call "_law_agree" (.cons (.var 15) (.cons (.var 16) (.cons (.lst (.cons (.idx (.idx (.var 4) (.var 13)) (.kI 0)) (.cons (.idx (.idx (.var 4) (.var 14)) (.kI 1)) .nil))) (.cons (.var 3) .nil))))))) [.val s.d, .val t.d, .val (.int m), .val (.bool (swp s != swp t)), .val (.list (upD (likeO s t) m)), .val (.int tt), .val (.list (upD (l3O s) m)), .val (.list (upD (w2O s) m)), .val (.list (upD (l3O t) m)), .val (.list (upD (w2O t) m)), .val (.int w), x11, x12, .val (.int ((w - 1 : Nat) : Int)), .val (.int ((h - 1 : Nat) : Int)), .val (.list [viewW (lnO s false w), viewW (lnO s true h)]), .val (.list [viewW (lnO t false w), viewW (lnO t true h)])] = some (.bool (notA s t (w, h)), [.val s.d, .val t.d, .val (.int m), .val (.bool (swp s != swp t)), .val (.list (upD (likeO s t) m)), .val (.int tt), .val (.list (upD (l3O s) m)), .val (.list (upD (w2O s) m)), .val (.list (upD (l3O t) m)), .val (.list (upD (w2O t) m)), .val (.int w), x11, x12, .val (.int ((w - 1 : Nat) : Int)), .val (.int ((h - 1 : Nat) : Int)), .val (.list [viewW (lnO s false w), viewW (lnO s true h)]), .val (.list [viewW (lnO t false w), viewW (lnO t true h)])]) := by
      apply ev_not
      apply ev_truth
      apply ev_call
      · (law_purse 1 => first | exact v3 | exact v4 | exact k2 _ | exact k3 _)
      · exact hg
      · exact rfl
      · exact call
      · exact List.nodup_nil
      · exact rfl
    have o8 : opX .Sub (.int tt) (.int w) = some (.int (h : Nat)) := i_nat (by omega)
    cases hn : notA s t (w, h) with
    | true =>
      apply en_iteT
      · exact hcall
      · exact hn
      apply en_ret
      · exact ev_tup (el_cons (ev_var rfl) (el_cons (ev_bin (ev_var rfl) (ev_var rfl) o8) el_nil)) (len_dec (n := 2) rfl rfl)
      · exact ⟨rfl, rfl, rfl⟩
    | false =>
      apply en_iteF
      · exact hcall
      · exact hn
      apply en_skip
      exact ⟨rfl, ⟨_, _, _, _, _, _, _, _, vb_val _, vb_val _, h11, h12, vb_val _, vb_val _, vb_val _, vb_val _, rfl⟩, rfl⟩
  · rintro hf ρ ⟨x5, x10, x11, x12, x13, x14, x15, x16, h5, h10, h11, h12, h13, h14, h15, h16, rfl⟩
    apply sq_nx
    apply en_ret
    · exact ev_kN
    refine ⟨rfl, ?_⟩
    show PyData.none = oSz ((allZ m).find? (notA s t))
    rw [hf]; rfl
  · rintro z hz ρ h1
    apply sq_ret
    refine ⟨h1, ?_⟩
    show szD z = oSz ((allZ m).find? (notA s t))
    rw [hz]; rfl
end

/-! Qb7: near stacks, stacks that do the same, pictures: what is drawn. -/
open PySem
section
variable {Φ : Phi} {Γ : Str → Option D} {ρ ρ1 ρ2 : Env} {Q : Out → Env → Prop}
theorem cutL_map {α : Type} (f : α → D) (xs : List α) (lo hi : Option Int) : cutL (xs.map f) lo hi = (cutL xs lo hi).map f := by
  unfold cutL
  rw [List.length_map, List.map_take, List.map_drop]
theorem cutA_fb {α : Type} (xs : List α) (f b : Nat) (h : f ≤ b) : cutL xs (some (f : Int)) (some (b : Int)) = (xs.drop f).take (b - f) := by
  unfold cutL
  rw [sIx_nat', sIx_nat']
  by_cases h : f ≤ xs.length
  · rw [Nat.min_eq_left h]
    by_cases h2 : b ≤ xs.length
    · rw [Nat.min_eq_left h2]
    · rw [Nat.min_eq_right (by omega), List.take_of_length_le (by rw [List.length_drop]; omega), List.take_of_length_le (by rw [List.length_drop]; omega)]
  · rw [show min f xs.length = xs.length by omega, show min b xs.length = xs.length by omega, List.drop_eq_nil_of_le (Nat.le_refl _), List.drop_eq_nil_of_le (by omega), List.take_nil, List.take_nil]
theorem cutA_b {α : Type} (xs : List α) (b : Nat) : cutL xs none (some (b : Int)) = xs.take b := by
  unfold cutL
  rw [sIx_non, sIx_nat', List.drop_zero, Nat.sub_zero]
  by_cases h2 : b ≤ xs.length
  · rw [Nat.min_eq_left h2]
  · rw [Nat.min_eq_right (by omega), List.take_of_length_le (Nat.le_refl _), List.take_of_length_le (by omega)]
theorem cutA_f {α : Type} (xs : List α) (f : Nat) : cutL xs (some (f : Int)) none = xs.drop f := by
  unfold cutL
  rw [sIx_non, sIx_nat']
  by_cases h : f ≤ xs.length
  · rw [Nat.min_eq_left h, List.take_of_length_le (by rw [List.length_drop]; omega)]
  · rw [show min f xs.length = xs.length by omega, List.drop_eq_nil_of_le (Nat.le_refl _), List.drop_eq_nil_of_le (by omega), List.take_nil]
theorem sl_take (s : Stk) (n : Nat) : sliceD s.d none (some (n : Int)) = some (Stk.d (s.take n)) := by
  show some (PyData.tuple (cutL _ _ _)) = _
  rw [cutL_map, cutA_b]; rfl
theorem sl_drop (s : Stk) (n : Nat) : sliceD s.d (some (n : Int)) none = some (Stk.d (s.drop n)) := by
  show some (PyData.tuple (cutL _ _ _)) = _
  rw [cutL_map, cutA_f]; rfl
theorem sl_mid (s : Stk) (f b : Nat) (h : f ≤ b) : sliceD s.d (some (f : Int)) (some (b : Int)) = some (Stk.d ((s.drop f).take (b - f))) := by
  show some (PyData.tuple (cutL _ _ _)) = _
  rw [cutL_map, cutA_fb _ _ _ h]; rfl
theorem stk_rev (s : Stk) : revD s.d = some (Stk.d s.reverse) := by
  show some (PyData.tuple _) = some (PyData.tuple _)
  rw [List.map_reverse]
theorem stk_add (s t : Stk) (h : s.length + t.length ≤ 1000) : opX .Add s.d t.d = some (Stk.d (s ++ t)) := by
  have := o_addT (xs := s.map Ed.d) (ys := t.map Ed.d) (by rw [List.length_map, List.length_map]; omega)
  rw [show Stk.d (s ++ t) = .tuple (s.map Ed.d ++ t.map Ed.d) by unfold Stk.d; rw [List.map_append]]
  exact this
theorem stk_one (e : Ed) : PyData.tuple [e.d] = Stk.d [e] := rfl
theorem ok_app {s t : Stk} (hs : s.ok) (ht : t.ok) : Stk.ok (s ++ t) := fun e he => by
  rw [List.mem_append] at he
  exact he.elim (hs e) (ht e)
theorem ok_take {s : Stk} (hs : s.ok) (n : Nat) : Stk.ok (s.take n) := fun e he => hs e (List.mem_of_mem_take he)
theorem ok_drop {s : Stk} (hs : s.ok) (n : Nat) : Stk.ok (s.drop n) := fun e he => hs e (List.mem_of_mem_drop he)
theorem ok_rev {s : Stk} (hs : s.ok) : Stk.ok s.reverse := fun e he => hs e (List.mem_reverse.mp he)
theorem ok_one {e : Ed} (he : e.ok) : Stk.ok [e] := fun x hx => by rw [List.mem_singleton.mp hx]; exact he
theorem weight_app (s t : Stk) : weight (s ++ t) = weight s + weight t := by unfold weight; rw [List.map_append, List.sum_append_nat]
theorem weight_cut (s : Stk) (n : Nat) : weight (s.take n) + weight (s.drop n) = weight s := by rw [← weight_app, List.take_append_drop]
def SpNear (F : FSem) : Prop := ∀ (ts : List D) (s : Stk) (n : Nat), Tape ts → StW n s → ∃ (t : Stk) (ts' : List D), StW (max 19 n) t ∧ Tape ts' ∧ F [.par ts, .val s.d] = some (t.d, [.par ts', .val s.d])
theorem int_eq (a b : Nat) : cmpX .Eq (.int a) (.int b) = some (decide (a = b)) := by
  rw [c_eq rfl rfl]
  show some ((a : Int) == (b : Int)) = _
  congr 1
  show decide ((a : Int) = b) = _
  exact decide_eq_decide.mpr (by omega)
theorem int_ne (a b : Nat) : cmpX .NotEq (.int a) (.int b) = some (!decide (a = b)) := by
  rw [c_ne rfl rfl]
  show some (!((a : Int) == (b : Int))) = _
  congr 2
  show decide ((a : Int) = b) = _
  exact decide_eq_decide.mpr (by omega)
theorem int_lt (a b : Nat) : cmpX .Lt (.int a) (.int b) = some (decide (a < b)) := by
  rw [c_lt]
  congr 1
  exact decide_eq_decide.mpr (by omega)
theorem add_nat (a b : Nat) : opX .Add (.int a) (.int b) = some (.int ((a + b : Nat) : Int)) := by rw [o_addI, Int.natCast_add]
def s_nearE : S := .ret (.ite (.and (.truth (.call "_law_fits" (.cons (.var 2) .nil))) (.cmp .Lt (.call "_law_weight" (.cons (.var 2) .nil)) (.kI 20))) (.var 2) (.var 1))
theorem near_end {Ff Fw : FSem} (hf : Φ "_law_fits" = some Ff) (hw : Φ "_law_weight" = some Fw) (sf : SpFits Ff) (sw : SpWeight Fw) {ts0 ts : List D} {s t : Stk} {n : Nat} {x3 x4 x5 : Sl} (hs : StW n s) (ht : t.ok) (hl : t.length ≤ 1000) (hT : Tape ts) :
    Ends Φ Γ s_nearE [.par ts, .val s.d, .val t.d, x3, x4, x5] fun o ρ' => ∃ a', outs [.par ts0, .val s.d] ρ' = some a' ∧ ∃ (t : Stk) (ts' : List D), StW (max 19 n) t ∧ Tape ts' ∧ (match o with | .ret d => d | .nx => .none) = t.d ∧ a' = [.par ts', .val s.d] := by
  unfold s_nearE
  have hcond : ∀ b, (fitsB t && decide (weight t < 20)) = b → ev Φ Γ (.and (.truth (.call "_law_fits" (.cons (.var 2) .nil))) (.cmp .Lt (.call "_law_weight" (.cons (.var 2) .nil)) (.kI 20))) [.par ts, .val s.d, .val t.d, x3, x4, x5] = some (.bool b, [.par ts, .val s.d, .val t.d, x3, x4, x5]) := by
    intro b hb
    rw [← hb]
    apply ev_and
    · (law_purse 1 => exact sf t hl)
    · intro _; (law_purse 1 => first | exact sw t | exact int_lt _ 20)
  cases hb : (fitsB t && decide (weight t < 20)) with
  | true =>
    rw [Bool.and_eq_true, decide_eq_true_eq] at hb
    apply en_ret
    · apply ev_iteT
      · exact hcond true (by rw [hb.1, decide_eq_true hb.2]; rfl)
      · rfl
      · exact ev_var rfl
    · exact ⟨_, rfl, t, ts, ⟨ht, hb.1, by omega⟩, hT, rfl, rfl⟩
  | false =>
    apply en_ret
    · apply ev_iteF
      · exact hcond false hb
      · rfl
      · exact ev_var rfl
    · exact ⟨_, rfl, s, ts, ⟨hs.ok, hs.fits, by have := hs.wt; omega⟩, hT, rfl, rfl⟩
theorem sp_near {Fd Fe Ff Fw : FSem} (hd : Φ "_law_draw" = some Fd) (he : Φ "_law_edit" = some Fe) (hf : Φ "_law_fits" = some Ff) (hw : Φ "_law_weight" = some Fw) (sd : SpDraw Fd) (se : SpEdit Fe) (sf : SpFits Ff) (sw : SpWeight Fw) : SpNear (runF Φ Γ 2 6 t_law_near) := by
  intro ts s n ht hs
  suffices h : ∃ d a', runF Φ Γ 2 6 t_law_near [.par ts, .val s.d] = some (d, a') ∧ ∃ (t : Stk) (ts' : List D), StW (max 19 n) t ∧ Tape ts' ∧ d = t.d ∧ a' = [.par ts', .val s.d] by
    obtain ⟨d, a', e, t, ts', h1, h2, rfl, rfl⟩ := h
    exact ⟨t, ts', h1, h2, e⟩
  refine runF_ex rfl ?_
  unfold t_law_near
  have l6 := hs.len6
  obtain ⟨k, ts1, k1, k2, k3⟩ := sd ts (s.length + 1) ht (by omega) (by omega)
  obtain ⟨y, ts2, y1, y2, y3⟩ := sd ts1 4 k2 (by omega) (by omega)
  rw [show ((s.length + 1 : Nat) : Int) = (s.length : Int) + 1 by omega] at k3
  obtain ⟨e, ts3, e1, e2, e3⟩ := se ts2 y2
  have hlen := len_d s
  apply en_seq
  apply en_par
  · (law_purse 1 => first | exact hlen | exact k3 | exact y3)
  · exact rfl
  apply sq_nx
  apply en_seq
  have hk : opX .Add (.int k) (.int 1) = some (.int ((k + 1 : Nat) : Int)) := add_nat k 1
  have hk2 : opX .Add (.int k) (.int 2) = some (.int ((k + 2 : Nat) : Int)) := add_nat k 2
  apply en_set (d := Stk.d (s.take k ++ s.drop (k + 1)))
  · (law_purse 1 => first | exact hk | exact sl_take s k | exact sl_drop s (k + 1) | exact stk_add _ _ (by rw [List.length_take, List.length_drop]; omega))
  · exact rfl
  apply sq_nx
  have ok0 := ok_app (ok_take hs.ok k) (ok_drop hs.ok (k + 1))
  have l0 : (s.take k ++ s.drop (k + 1)).length ≤ 1000 := by rw [List.length_append, List.length_take, List.length_drop]; omega
  have hy : y = 0 ∨ y = 1 ∨ y = 2 ∨ y = 3 := by omega
  have eq0 : ∀ a b : Nat, cmpX .Eq (.int a) (.int b) = some (decide (a = b)) := int_eq
  apply en_seq
  rcases hy with rfl | rfl | rfl | rfl
  · apply en_iteT
    · (law_purse 1 => exact eq0 0 0)
    · rfl
    apply en_set (d := Stk.d (s.take k ++ [e] ++ s.drop k))
    · apply ev_bin
      · apply ev_bin
        · (law_purse 1 => exact sl_take s k)
        · exact ev_tup (el_cons (ev_call (ea_ref rfl ea_nil) he rfl e3 (nod1 _) rfl) el_nil) (len_dec (n := 1) rfl rfl)
        · exact stk_add (s.take k) [e] (by rw [List.length_take]; simp; omega)
      · (law_purse 1 => exact sl_drop s k)
      · exact stk_add _ _ (by simp; omega)
    · exact rfl
    apply sq_nx
    apply en_seq
    apply en_iteF
    · apply ev_andF
      · (law_purse 1 => exact eq0 0 2)
      · rfl
    · rfl
    apply en_skip
    apply sq_nx
    apply en_seq
    apply en_iteF
    · (law_purse 1 => exact eq0 0 3)
    · rfl
    apply en_skip
    apply sq_nx
    exact near_end hf hw sf sw hs (ok_app (ok_app (ok_take hs.ok k) (ok_one e1)) (ok_drop hs.ok k)) (by simp; omega) e2
  · apply en_iteF
    · (law_purse 1 => exact eq0 1 0)
    · rfl
    apply en_skip
    apply sq_nx
    apply en_seq
    apply en_iteF
    · apply ev_andF
      · (law_purse 1 => exact eq0 1 2)
      · rfl
    · rfl
    apply en_skip
    apply sq_nx
    apply en_seq
    apply en_iteF
    · (law_purse 1 => exact eq0 1 3)
    · rfl
    apply en_skip
    apply sq_nx
    exact near_end hf hw sf sw hs ok0 l0 y2
  · apply en_iteF
    · (law_purse 1 => exact eq0 2 0)
    · rfl
    apply en_skip
    apply sq_nx
    apply en_seq
    have hcond : ∀ ρ : Env, ρ[4]? = some (.val (.int (2 : Nat))) → ρ[3]? = some (.val (.int k)) → ρ[1]? = some (.val s.d) → ev Φ Γ (.and (.cmp .Eq (.var 4) (.kI 2)) (.cmp .Lt (.var 3) (.b1 .len (.var 1)))) ρ = some (.bool (true && decide (k < s.length)), ρ) := fun ρ h1 h2 h3 => ev_and (ev_cmp (ev_var h1) ev_kI (eq0 2 2)) fun _ => ev_cmp (ev_var h2) (ev_b1 (ev_var h3) hlen) (int_lt k s.length)
    by_cases hlt : k < s.length
    · apply en_iteT
      · exact hcond _ rfl rfl rfl
      · rw [decide_eq_true hlt]; rfl
      apply en_set (d := Stk.d (s.take k ++ [e] ++ s.drop (k + 1)))
      · apply ev_bin
        · apply ev_bin
          · (law_purse 1 => exact sl_take s k)
          · exact ev_tup (el_cons (ev_call (ea_ref rfl ea_nil) he rfl e3 (nod1 _) rfl) el_nil) (len_dec (n := 1) rfl rfl)
          · exact stk_add (s.take k) [e] (by rw [List.length_take]; simp; omega)
        · (law_purse 1 => first | exact hk | exact sl_drop s (k + 1))
        · exact stk_add _ _ (by simp; omega)
      · exact rfl
      apply sq_nx
      apply en_seq
      apply en_iteF
      · (law_purse 1 => exact eq0 2 3)
      · rfl
      apply en_skip
      apply sq_nx
      exact near_end hf hw sf sw hs (ok_app (ok_app (ok_take hs.ok k) (ok_one e1)) (ok_drop hs.ok (k + 1))) (by simp; omega) e2
    · apply en_iteF
      · exact hcond _ rfl rfl rfl
      · rw [decide_eq_false hlt]; rfl
      apply en_skip
      apply sq_nx
      apply en_seq
      apply en_iteF
      · (law_purse 1 => exact eq0 2 3)
      · rfl
      apply en_skip
      apply sq_nx
      exact near_end hf hw sf sw hs ok0 l0 y2
  · apply en_iteF
    · (law_purse 1 => exact eq0 3 0)
    · rfl
    apply en_skip
    apply sq_nx
    apply en_seq
    apply en_iteF
    · apply ev_andF
      · (law_purse 1 => exact eq0 3 2)
      · rfl
    · rfl
    apply en_skip
    apply sq_nx
    apply en_seq
    apply en_iteT
    · (law_purse 1 => exact eq0 3 3)
    · rfl
    have hmid := sl_mid s k (k + 2) (by omega)
    apply en_seq
    apply en_set
    · (law_purse 1 => first | exact hk2 | exact hmid)
    · exact rfl
    apply sq_nx
    have lm : ((s.drop k).take (k + 2 - k)).length ≤ 2 := by rw [List.length_take]; omega
    apply en_set (d := Stk.d (s.take k ++ ((s.drop k).take (k + 2 - k)).reverse ++ s.drop (k + 2)))
    · (law_purse 1 => first | exact hk2 | exact sl_take s k | exact sl_drop s (k + 2) | exact stk_rev _ | exact stk_add (s.take k) _ (by rw [List.length_take, List.length_reverse]; omega) | exact stk_add _ (s.drop (k + 2)) (by rw [List.length_append, List.length_take, List.length_reverse, List.length_drop]; omega))
    · exact rfl
    apply sq_nx
    exact near_end hf hw sf sw hs (ok_app (ok_app (ok_take hs.ok k) (ok_rev (ok_take (ok_drop hs.ok k) _))) (ok_drop hs.ok (k + 2))) (by rw [List.length_append, List.length_append, List.length_take, List.length_reverse, List.length_drop]; omega) y2
end

/-! Qb8: stacks that do the same, pictures: what is drawn. -/
open PySem
section
variable {Φ : Phi} {Γ : Str → Option D} {ρ ρ1 ρ2 : Env} {Q : Out → Env → Prop}
def SpTurnedBack (F : FSem) : Prop := ∀ (ts : List D) (s : Stk) (n : Nat), Tape ts → StW n s → ∃ (t : Stk) (ts' : List D), StW (n + 6) t ∧ Tape ts' ∧ F [.par ts, .val s.d] = some (t.d, [.par ts', .val s.d])
def backs : List Stk := [[.turn 1, .turn 3], [.flip true, .flip true], [.pad 1 0 0 2, .trim 1 0 0 2], [.turn 2, .flip false, .flip true], [.pad 0 0 0 0]]
theorem backs_at (n : Nat) (h : n < 5) : ∃ s, backs[n]? = some s ∧ s.ok ∧ s.length ≤ 3 ∧ weight s ≤ 6 := by
  have : n = 0 ∨ n = 1 ∨ n = 2 ∨ n = 3 ∨ n = 4 := by omega
  rcases this with rfl | rfl | rfl | rfl | rfl
  · refine ⟨_, rfl, fun e he => ?_, by decide, by decide⟩
    simp only [List.mem_cons, List.not_mem_nil, or_false] at he
    rcases he with rfl | rfl <;> exact ⟨by omega, by omega⟩
  · refine ⟨_, rfl, fun e he => ?_, by decide, by decide⟩
    simp only [List.mem_cons, List.not_mem_nil, or_false] at he
    rcases he with rfl | rfl <;> trivial
  · refine ⟨_, rfl, fun e he => ?_, by decide, by decide⟩
    simp only [List.mem_cons, List.not_mem_nil, or_false] at he
    rcases he with rfl | rfl <;> exact ⟨by omega, by omega, by omega, by omega⟩
  · refine ⟨_, rfl, fun e he => ?_, by decide, by decide⟩
    simp only [List.mem_cons, List.not_mem_nil, or_false] at he
    rcases he with rfl | rfl | rfl
    · exact ⟨by omega, by omega⟩
    · trivial
    · trivial
  · refine ⟨_, rfl, fun e he => ?_, by decide, by decide⟩
    simp only [List.mem_cons, List.not_mem_nil, or_false] at he
    rcases he with rfl; exact ⟨by omega, by omega, by omega, by omega⟩
theorem sp_turnedBack {Fd Ff : FSem} (hd : Φ "_law_draw" = some Fd) (hf : Φ "_law_fits" = some Ff) (sd : SpDraw Fd) (sf : SpFits Ff) : SpTurnedBack (runF Φ Γ 2 6 t_law_turned_back) := by
  intro ts s n ht hs
  suffices h : ∃ d a', runF Φ Γ 2 6 t_law_turned_back [.par ts, .val s.d] = some (d, a') ∧ ∃ (t : Stk) (ts' : List D), StW (n + 6) t ∧ Tape ts' ∧ d = t.d ∧ a' = [.par ts', .val s.d] by
    obtain ⟨d, a', e, t, ts', h1, h2, rfl, rfl⟩ := h
    exact ⟨t, ts', h1, h2, e⟩
  refine runF_ex rfl ?_
  unfold t_law_turned_back
  have l6 := hs.len6
  obtain ⟨y, ts1, y1, y2, y3⟩ := sd ts 5 ht (by omega) (by omega)
  obtain ⟨k, ts2, k1, k2, k3⟩ := sd ts1 (s.length + 1) y2 (by omega) (by omega)
  rw [show ((s.length + 1 : Nat) : Int) = (s.length : Int) + 1 by omega] at k3
  obtain ⟨m, m1, m2, m3, m4⟩ := backs_at y y1
  have hlen := len_d s
  apply en_seq
  apply en_set
  · (law_purse 1 => exact y3)
  · exact rfl
  apply sq_nx
  apply en_seq
  apply en_set (d := .list ((backs.take 2).map Stk.d))
  · exact ev_lst (el_cons (ev_tup (el_cons (ev_tup (el_cons ev_kS (el_cons ev_kI el_nil)) (len_dec (n := 2) rfl rfl)) (el_cons (ev_tup (el_cons ev_kS (el_cons ev_kI el_nil)) (len_dec (n := 2) rfl rfl)) el_nil)) (len_dec (n := 2) rfl rfl)) (el_cons (ev_tup (el_cons (ev_tup (el_cons ev_kS (el_cons ev_kS el_nil)) (len_dec (n := 2) rfl rfl)) (el_cons (ev_tup (el_cons ev_kS (el_cons ev_kS el_nil)) (len_dec (n := 2) rfl rfl)) el_nil)) (len_dec (n := 2) rfl rfl)) el_nil)) (len_dec (n := 2) rfl rfl)
  · exact rfl
  apply sq_nx
  apply en_seq
  apply en_set (d := .list ((backs.take 3).map Stk.d))
  · apply ev_bin
    · exact ev_var rfl
    · (law_purse 1 => fail)
    · exact o_addL (by decide)
  · exact rfl
  apply sq_nx
  apply en_seq
  apply en_set (d := .list (backs.map Stk.d))
  · apply ev_bin
    · exact ev_var rfl
    · (law_purse 1 => fail)
    · exact o_addL (by decide)
  · exact rfl
  apply sq_nx
  apply en_seq
  apply en_set
  · (law_purse 1 => first | exact hlen | exact k3)
  · exact rfl
  apply sq_nx
  have im : idxD (.list (backs.map Stk.d)) (.int y) = some m.d := atI_nat' (by rw [List.getElem?_map, m1]; rfl)
  apply en_seq
  apply en_set (d := Stk.d (s.take k ++ m ++ s.drop k))
  · (law_purse 1 => first | exact im | exact sl_take s k | exact sl_drop s k | exact stk_add (s.take k) m (by rw [List.length_take]; omega) | exact stk_add _ (s.drop k) (by rw [List.length_append, List.length_take, List.length_drop]; omega))
  · exact rfl
  apply sq_nx
  have hok : Stk.ok (s.take k ++ m ++ s.drop k) := ok_app (ok_app (ok_take hs.ok k) m2) (ok_drop hs.ok k)
  have hl : (s.take k ++ m ++ s.drop k).length ≤ 1000 := by rw [List.length_append, List.length_append, List.length_take, List.length_drop]; omega
  have hw : weight (s.take k ++ m ++ s.drop k) ≤ n + 6 := by
    rw [weight_app, weight_app]
    have := weight_cut s k
    have := hs.wt
    omega
  generalize s.take k ++ m ++ s.drop k = t at hok hl hw ⊢
  have hc := sf t hl
  cases hb : fitsB t with
  | true =>
    rw [hb] at hc
    apply en_ret
    · apply ev_iteT
      · (law_purse 1 => exact hc)
      · rfl
      · exact ev_var rfl
    · exact ⟨_, rfl, t, ts2, ⟨hok, hb, hw⟩, k2, rfl, rfl⟩
  | false =>
    rw [hb] at hc
    apply en_ret
    · apply ev_iteF
      · (law_purse 1 => exact hc)
      · rfl
      · exact ev_var rfl
    · exact ⟨_, rfl, s, ts2, hs.mono (by omega), k2, rfl, rfl⟩
/-- a picture whose pixels are integers or blank -/
structure PcD (w h : Nat) (p : Pc) : Prop where
  ok : PcOk w h p
  cells : ∀ row ∈ p, Cells row
def SpPicture (F : FSem) : Prop := ∀ (ts : List D) (m : Nat), Tape ts → 0 < m → m ≤ 1000 → ∃ (w h : Nat) (p : Pc) (ts' : List D), PcD w h p ∧ w ≤ m ∧ h ≤ m ∧ Tape ts' ∧ F [.par ts, .val (.int m)] = some (picD p, [.par ts', .val (.int m)])
theorem pixel_at (n : Nat) (h : n < 6) : ∃ d, cell d ∧ idxD (.list [.none, .int 0, .int 1, .int 2, .int 999, .int 5]) (.int n) = some d := by
  have : n = 0 ∨ n = 1 ∨ n = 2 ∨ n = 3 ∨ n = 4 ∨ n = 5 := by omega
  rcases this with rfl | rfl | rfl | rfl | rfl | rfl
  · exact ⟨_, .inl rfl, rfl⟩
  · exact ⟨_, .inr ⟨_, rfl⟩, rfl⟩
  · exact ⟨_, .inr ⟨_, rfl⟩, rfl⟩
  · exact ⟨_, .inr ⟨_, rfl⟩, rfl⟩
  · exact ⟨_, .inr ⟨_, rfl⟩, rfl⟩
  · exact ⟨_, .inr ⟨_, rfl⟩, rfl⟩
theorem sp_picture {Fd : FSem} (hd : Φ "_law_draw" = some Fd) (sd : SpDraw Fd) : SpPicture (runF Φ Γ 2 8 t_law_picture) := by
  intro ts m ht m0 hm
  suffices h : ∃ d a', runF Φ Γ 2 8 t_law_picture [.par ts, .val (.int m)] = some (d, a') ∧ ∃ (w h : Nat) (p : Pc) (ts' : List D), PcD w h p ∧ w ≤ m ∧ h ≤ m ∧ Tape ts' ∧ d = picD p ∧ a' = [.par ts', .val (.int m)] by
    obtain ⟨d, a', e, w, h, p, ts', h1, h2, h3, h4, rfl, rfl⟩ := h
    exact ⟨w, h, p, ts', h1, h2, h3, h4, e⟩
  refine runF_ex rfl ?_
  unfold t_law_picture
  obtain ⟨n1, ts1, n1h, t1, e1⟩ := sd ts m ht m0 (by omega)
  obtain ⟨n2, ts2, n2h, t2, e2⟩ := sd ts1 m t1 m0 (by omega)
  generalize hwe : 1 + n1 = w
  generalize hhe : 1 + n2 = h
  have a1 : opX .Add (.int 1) (.int n1) = some (.int (w : Int)) := by rw [o_addI, ← hwe, Int.natCast_add]; rfl
  have a2 : opX .Add (.int 1) (.int n2) = some (.int (h : Int)) := by rw [o_addI, ← hhe, Int.natCast_add]; rfl
  apply en_seq
  apply en_par
  · (law_purse 1 => first | exact e1 | exact e2 | exact a1 | exact a2)
  · exact rfl
  apply sq_nx
  apply en_seq
  apply en_setO (ds := [])
  · exact ev_lst el_nil (len_dec (n := 0) rfl rfl)
  · exact rfl
  apply sq_nx
  apply en_seq
  refine en_for (ds := rangeD 0 h 1) (fun i ρ => ∃ (p : Pc) (ts : List D) (x3 x6 x7 : Sl), p.length = i ∧ (∀ row ∈ p, row.length = w ∧ Cells row) ∧ Tape ts ∧ vb x3 ∧ (vb x6 ∨ ∃ ds, x6 = .own ds) ∧ vb x7 ∧ ρ = [.par ts, .val (.int m), .own (p.map .tuple), x3, .val (.int w), .val (.int h), x6, x7]) (ei_r1 (j := (h : Int)) (ev_var rfl) (by omega)) ⟨[], ts2, .non, .non, .non, rfl, (fun _ z => nomatch z), t2, .inl rfl, .inl (.inl rfl), .inl rfl, rfl⟩ (fun i d ρ hd hi => ?_) (fun ρ hρ => ?_)
  · obtain ⟨p, ts, x3, x6, x7, hp, hrow, ht, h3, h6, h7, rfl⟩ := hi
    obtain ⟨_, hi⟩ := rng hd
    refine ⟨_, sv_one (setV_vb rfl h3), ?_⟩
    apply en_seq
    apply en_setO (ds := []) (ρ2 := [.par ts, .val (.int m), .own (p.map .tuple), .val d, .val (.int w), .val (.int h), .own [], x7])
    · exact ev_lst el_nil (len_dec (n := 0) rfl rfl)
    · rcases h6 with (rfl | ⟨d, rfl⟩) | ⟨ds, rfl⟩ <;> exact rfl
    apply sq_nx
    apply en_seq
    refine en_for (ds := rangeD 0 w 1) (fun j ρ => ∃ (row : List D) (ts : List D) (x7 : Sl), row.length = j ∧ Cells row ∧ Tape ts ∧ vb x7 ∧ ρ = [.par ts, .val (.int m), .own (p.map .tuple), .val d, .val (.int w), .val (.int h), .own row, x7]) (ei_r1 (j := (w : Int)) (ev_var rfl) (by omega)) ⟨[], ts, x7, rfl, (fun _ z => nomatch z), ht, h7, rfl⟩ (fun j e ρ he hj => ?_) (fun ρ hρ => ?_)
    · obtain ⟨row, ts, x7, hl, hc, ht, h7, rfl⟩ := hj
      obtain ⟨_, hj⟩ := rng he
      obtain ⟨n, ts3, n3, t3, e3⟩ := sd ts 6 ht (by omega) (by omega)
      obtain ⟨c, hc1, hc2⟩ := pixel_at n n3
      refine ⟨_, sv_one (setV_vb rfl h7), ?_⟩
      apply en_app
      · exact rfl
      · (law_purse 1 => first | exact e3 | exact hc2)
      · exact rfl
      · rw [hl, size_eq]; omega
      · exact rfl
      refine ⟨row ++ [c], ts3, _, by rw [List.length_append, hl]; rfl, fun x hx => ?_, t3, vb_val e, rfl⟩
      rw [List.mem_append] at hx
      rcases hx with hx | hx
      · exact hc x hx
      · rw [List.mem_singleton.mp hx]; exact hc1
    · obtain ⟨row, ts, x7, hl, hc, ht, h7, rfl⟩ := hρ
      apply sq_nx
      apply en_app
      · exact rfl
      · exact ev_b1 (ev_own rfl) rfl
      · exact rfl
      · rw [List.length_map, hp, size_eq]; omega
      · exact rfl
      refine ⟨p ++ [row], ts, .val d, .val (.list row), x7, by rw [List.length_append, hp]; rfl, fun r hr => ?_, ht, vb_val _, .inl (vb_val _), h7, ?_⟩
      · rw [List.mem_append] at hr
        rcases hr with hr | hr
        · exact hrow r hr
        · rw [List.mem_singleton.mp hr]
          exact ⟨by rw [hl, range_len], hc⟩
      · rw [List.map_append]; rfl
  · obtain ⟨p, ts, x3, x6, x7, hp, hrow, ht, h3, h6, h7, rfl⟩ := hρ
    rw [range_len] at hp
    apply sq_nx
    apply en_ret
    · exact ev_b1 (ev_own rfl) rfl
    · exact ⟨_, rfl, w, h, p, ts, ⟨⟨by omega, by omega, hp, fun row hr => (hrow row hr).1⟩, fun row hr => (hrow row hr).2⟩, by omega, by omega, ht, rfl, rfl⟩
/-! pictures are compared -/
theorem pic_pl : ∀ {p : Pc}, (∀ row ∈ p, Cells row) → plA (p.map .tuple) = true ∧ PyData.depthAll (p.map .tuple) ≤ 1
  | [], _ => ⟨rfl, Nat.zero_le _⟩
  | row :: p, h => by
    have a := cells_pl (h row List.mem_cons_self)
    have b := pic_pl (p := p) fun y hy => h y (List.mem_cons_of_mem _ hy)
    constructor
    · show (plA row && plA (p.map .tuple)) = true
      rw [a.1, b.1]; rfl
    · show max (PyData.depthAll row + 1) (PyData.depthAll (p.map .tuple)) ≤ 1
      rw [a.2]; omega
def OpC (o : Option Pc) : Prop := ∀ p, o = some p → ∀ row ∈ p, Cells row
theorem oPic_pl {o : Option Pc} (h : OpC o) : plD (oPic o) = true ∧ sh (oPic o) = true := by
  cases o with
  | none => exact ⟨rfl, rfl⟩
  | some p =>
    have := pic_pl (h p rfl)
    refine ⟨this.1, sh_of this.1 ?_⟩
    show PyData.depthAll (p.map .tuple) + 1 ≤ 64
    omega
theorem tup_inj : ∀ {p q : Pc}, p.map PyData.tuple = q.map PyData.tuple → p = q
  | [], [], _ => rfl
  | [], _ :: _, h => by cases h
  | _ :: _, [], h => by cases h
  | a :: p, b :: q, h => by
    obtain ⟨h1, h2⟩ := List.cons.inj h
    rw [tup_inj h2]
    injection h1 with h1
    rw [h1]
theorem oPic_inj {a b : Option Pc} : oPic a = oPic b ↔ a = b := by
  cases a with
  | none => cases b with
    | none => simp
    | some q => simp [oPic, picD]
  | some p => cases b with
    | none => simp [oPic, picD]
    | some q =>
      constructor
      · intro h
        have h : PyData.tuple (p.map .tuple) = .tuple (q.map .tuple) := h
        injection h with h
        rw [tup_inj h]
      · rintro h; rw [h]
theorem pic_eqv {a b : Option Pc} (ha : OpC a) (hb : OpC b) : PyData.eqv (oPic a) (oPic b) = pB (a = b) := by
  apply pB_eq
  rw [← oPic_inj]
  constructor
  · exact eqv_eq _ _ (oPic_pl ha).1 (oPic_pl hb).1
  · intro h; rw [h]; exact eqv_self _ (oPic_pl hb).1
theorem pic_ne {a b : Option Pc} (ha : OpC a) (hb : OpC b) : cmpX .NotEq (oPic a) (oPic b) = some (!pB (a = b)) := by
  rw [c_ne (oPic_pl ha).2 (oPic_pl hb).2, pic_eqv ha hb]
theorem pic_eq {a b : Option Pc} (ha : OpC a) (hb : OpC b) : cmpX .Eq (oPic a) (oPic b) = some (pB (a = b)) := by
  rw [c_eq (oPic_pl ha).2 (oPic_pl hb).2, pic_eqv ha hb]
theorem at2_cell {p : Pc} (h : ∀ row ∈ p, Cells row) (i j : Nat) : cell (at2 p i j) := by
  unfold at2
  cases h1 : p[i]? with
  | none => exact .inl rfl
  | some row =>
    simp only [Option.getD_some]
    cases h2 : row[j]? with
    | none => exact .inl rfl
    | some d => exact h row (List.mem_of_getElem? h1) d (List.mem_of_getElem? h2)
theorem pixD_cell {p : Pc} (h : ∀ row ∈ p, Cells row) (sw : Bool) (c r : D) : cell (pixD p sw c r) := by
  cases c <;> cases r <;> first | exact .inl rfl | skip
  show cell (if sw then _ else _)
  split <;> exact at2_cell h _ _
theorem viewL_cells {p : Pc} (h : ∀ row ∈ p, Cells row) (x : Ln × Ln × Bool) : OpC (viewL p x) := by
  obtain ⟨c, r, sw⟩ := x
  intro q hq
  cases c with
  | none => cases hq
  | some cs =>
    cases r with
    | none => cases hq
    | some rs =>
      cases hq
      intro row hr
      rw [List.mem_map] at hr
      obtain ⟨r, _, rfl⟩ := hr
      intro d hd
      rw [List.mem_map] at hd
      obtain ⟨c, _, rfl⟩ := hd
      exact pixD_cell h sw c r
theorem unlike_cells (w h : Nat) : ∀ row ∈ unlike w h, Cells row := by
  intro row hr
  unfold unlike at hr
  rw [List.mem_map] at hr
  obtain ⟨r, _, rfl⟩ := hr
  intro d hd
  rw [List.mem_map] at hd
  obtain ⟨c, _, rfl⟩ := hd
  exact .inr ⟨_, rfl⟩
end

/-! Qk12a: where a pixel comes from, edit by edit. -/
open PySem
def t_sourceb : S := (.seq (.set 5 (.call "sizes" (.cons (.var 1) (.cons (.var 2) (.cons (.var 0) .nil))))) (.seq (.for_ (.many [6, 7, 8]) (.zip3 (.rev (.var 0)) (.rev (.slice (.var 5) .pN (.pE (.neg (.kI 1))))) (.rev (.slice (.var 5) (.pE (.kI 1)) .pN))) (.ite (.cmp .Eq (.idx (.var 6) (.kI 0)) (.kS "turn")) (.setT (.many [3, 4]) (.call "turn_before" (.cons (.var 3) (.cons (.var 4) (.cons (.var 8) (.cons (.idx (.var 6) (.kI 1)) .nil)))))) (.seq (.par [3, 4] (.cons (.call "place_before" (.cons (.var 3) (.cons (.idx (.var 7) (.kI 0)) (.cons (.var 6) (.cons (.kI 0) .nil))))) (.cons (.call "place_before" (.cons (.var 4) (.cons (.idx (.var 7) (.kI 1)) (.cons (.var 6) (.cons (.kI 1) .nil))))) .nil))) (.ite (.or (.cmp .Is (.var 3) .kN) (.cmp .Is (.var 4) .kN)) (.ret .kN) .skip)))) (.ret (.tup (.cons (.var 3) (.cons (.var 4) .nil))))))
/-- the place of a line of n from which a place p after an edit comes -/
def back1 : Ed → Bool → Nat → Nat → Option Nat
  | .flip dn, a, n, p => some (if dn = a then n - 1 - p else p)
  | .trim l t r b, a, _, p => some (p + pick a l t)
  | .pad l t r b, a, n, p => if pick a l t ≤ p ∧ p - pick a l t < n then some (p - pick a l t) else none
  | .enlarge m, _, _, p => some (p / m)
  | .reduce m, _, _, p => some (p * m)
  | _, _, _, p => some p
theorem back1_lt {e : Ed} {a : Bool} {n p i : Nat} (he : e.ok) (hT : e.isT = false) (hp : p < lenE e a n) (h : back1 e a n p = some i) : i < n := by
  cases e with
  | turn q => cases hT
  | flip dn =>
    have hp : p < n := hp
    have h : some (if dn = a then n - 1 - p else p) = some i := h
    cases h
    split <;> omega
  | trim l t r b =>
    have hp : p < n - (pick a l t + pick a r b) := hp
    have h : some (p + pick a l t) = some i := h
    cases h
    omega
  | pad l t r b =>
    have h : (if pick a l t ≤ p ∧ p - pick a l t < n then some (p - pick a l t) else none) = some i := h
    split at h
    · rename_i q
      cases h
      exact q.2
    · cases h
  | corner w k =>
    have hp : p < min n (pick a w k) := hp
    have h : some p = some i := h
    cases h
    omega
  | enlarge m =>
    have hp : p < n * m := hp
    have h : some (p / m) = some i := h
    cases h
    exact Nat.div_lt_of_lt_mul (by rw [Nat.mul_comm]; exact hp)
  | reduce m =>
    have hp : p < (n + m - 1) / m := hp
    have h : some (p * m) = some i := h
    cases h
    have hm : 0 < m := by rcases he with rfl | rfl <;> omega
    have := (Nat.le_div_iff_mul_le hm).mp (show p + 1 ≤ (n + m - 1) / m from hp)
    rw [Nat.add_mul, Nat.one_mul] at this
    omega
theorem enl_get (m : Nat) (hm : 0 < m) : ∀ (xs : List D) (p : Nat), (xs.flatMap (List.replicate m))[p]? = xs[p / m]?
  | [], p => by simp
  | x :: xs, p => by
    rw [List.flatMap_cons]
    by_cases h : p < m
    · rw [List.getElem?_append_left (by rw [List.length_replicate]; exact h), Nat.div_eq_of_lt h, List.getElem?_replicate, if_pos h]; rfl
    · rw [List.getElem?_append_right (by rw [List.length_replicate]; omega), List.length_replicate, enl_get m hm xs (p - m), show p / m = (p - m) / m + 1 from Nat.div_eq_sub_div hm (by omega)]; rfl
/-- what stands at a place, a blank where nothing does -/
def plcO (xs : List D) : Option Nat → D
  | none => .none
  | some i => (xs[i]?).getD .none
theorem getD_at {xs : List D} {i : Nat} (h : i < xs.length) : xs[i]? = some ((xs[i]?).getD .none) := by rw [List.getElem?_eq_getElem h]; rfl
theorem lineE_get {e : Ed} (a : Bool) {xs : List D} {p : Nat} (he : e.ok) (hT : e.isT = false) (hp : p < lenE e a xs.length) : (lineE e a xs)[p]? = some (plcO xs (back1 e a xs.length p)) := by
  have hlt := fun i => back1_lt (i := i) he hT hp
  cases e with
  | turn q => cases hT
  | flip dn =>
    have hp : p < xs.length := hp
    show (if dn = a then xs.reverse else xs)[p]? = some (plcO xs (some (if dn = a then xs.length - 1 - p else p)))
    by_cases h : dn = a
    · rw [if_pos h, if_pos h, rev_get, if_pos hp]
      exact getD_at (by omega)
    · rw [if_neg h, if_neg h]
      exact getD_at hp
  | trim l t r b =>
    have hp : p < xs.length - (pick a l t + pick a r b) := hp
    show ((xs.drop (pick a l t)).take (xs.length - pick a l t - pick a r b))[p]? = some (plcO xs (some (p + pick a l t)))
    rw [trim_get, if_pos (by omega), Nat.add_comm]
    exact getD_at (by omega)
  | pad l t r b =>
    have hp : p < xs.length + (pick a l t + pick a r b) := hp
    show (List.replicate (pick a l t) PyData.none ++ xs ++ List.replicate (pick a r b) PyData.none)[p]? = some (plcO xs (if pick a l t ≤ p ∧ p - pick a l t < xs.length then some (p - pick a l t) else none))
    rw [pad_get]
    by_cases h1 : p < pick a l t
    · rw [if_pos h1, if_neg (by omega)]; rfl
    · rw [if_neg h1]
      by_cases h2 : p < pick a l t + xs.length
      · rw [if_pos h2, if_pos (by omega)]
        exact getD_at (by omega)
      · rw [if_neg h2, if_pos (by omega), if_neg (by omega)]; rfl
  | corner w k =>
    have hp : p < min xs.length (pick a w k) := hp
    show (xs.take (pick a w k))[p]? = some (plcO xs (some p))
    rw [List.getElem?_take, if_pos (by omega)]
    exact getD_at (by omega)
  | enlarge m =>
    show (xs.flatMap (List.replicate m))[p]? = some (plcO xs (some (p / m)))
    rw [enl_get m (by rcases he with rfl | rfl <;> omega)]
    exact getD_at (hlt _ rfl)
  | reduce m =>
    show (stepL m xs)[p]? = some (plcO xs (some (p * m)))
    rw [stepL_get m (by rcases he with rfl | rfl <;> omega)]
    exact getD_at (hlt _ rfl)
/-- .. of a pixel -/
def fromE (e : Ed) (z : Sz) (c r : Nat) : Option Sz := match e with
  | .turn q => some (if q = 1 then (r, z.2 - 1 - c) else if q = 2 then (z.1 - 1 - c, z.2 - 1 - r) else (z.1 - 1 - r, c))
  | e => (back1 e false z.1 c).bind fun i => (back1 e true z.2 r).map fun j => (i, j)
theorem fromE_line {e : Ed} (hT : e.isT = false) (z : Sz) (c r : Nat) : fromE e z c r = (back1 e false z.1 c).bind fun i => (back1 e true z.2 r).map fun j => (i, j) := by
  cases e <;> first | rfl | cases hT
def Ins (z : Sz) (c r : Nat) : Prop := c < z.1 ∧ r < z.2
theorem fromE_in {e : Ed} {z : Sz} {c r : Nat} {y : Sz} (he : e.ok) (hi : Ins (szStep e z) c r) (h : fromE e z c r = some y) : Ins z y.1 y.2 := by
  by_cases hT : e.isT = true
  · cases e with
    | turn q =>
      obtain ⟨a, b⟩ := z
      have h1 := he.1
      have h2 := he.2
      have hq : q = 1 ∨ q = 2 ∨ q = 3 := by omega
      rcases hq with rfl | rfl | rfl
      · have hi : c < b ∧ r < a := hi
        have h : some (r, b - 1 - c) = some y := h
        cases h
        exact ⟨hi.2, by show b - 1 - c < b; omega⟩
      · have hi : c < a ∧ r < b := hi
        have h : some (a - 1 - c, b - 1 - r) = some y := h
        cases h
        exact ⟨by show a - 1 - c < a; omega, by show b - 1 - r < b; omega⟩
      · have hi : c < b ∧ r < a := hi
        have h : some (a - 1 - r, c) = some y := h
        cases h
        exact ⟨by show a - 1 - r < a; omega, hi.1⟩
    | _ => cases hT
  · have hT : e.isT = false := by simpa using hT
    rw [fromE_line hT] at h
    rw [szStep_line hT] at hi
    obtain ⟨i, h1, h2⟩ := Option.bind_eq_some_iff.mp h
    obtain ⟨j, h3, rfl⟩ := Option.map_eq_some_iff.mp h2
    exact ⟨back1_lt he hT hi.1 h1, back1_lt he hT hi.2 h3⟩
/-- .. behind a stack, told from its last edit on -/
def srcL : List Ed → Sz → Nat → Nat → Option Sz
  | [], _, c, r => some (c, r)
  | e :: rs, z, c, r => (fromE e (szRun rs.reverse z) c r).bind fun p => srcL rs z p.1 p.2
def srcB (s : Stk) (z : Sz) (c r : Nat) : Option Sz := srcL s.reverse z c r
theorem srcB_snoc (s : Stk) (e : Ed) (z : Sz) (c r : Nat) : srcB (s ++ [e]) z c r = (fromE e (szRun s z) c r).bind fun p => srcB s z p.1 p.2 := by
  unfold srcB
  rw [List.reverse_append]
  show (fromE e (szRun s.reverse.reverse z) c r).bind _ = _
  rw [List.reverse_reverse]; rfl
/-- by the lines: what stands there -/
def look (C R : List D) (sw : Bool) (c r : Nat) : Option Sz := match plcO C (some c), plcO R (some r) with
  | .int i, .int j => some (if sw then (j.toNat, i.toNat) else (i.toNat, j.toNat))
  | _, _ => none
theorem look_none (C R : List D) (sw : Bool) (c r : Nat) (h : plcO C (some c) = .none ∨ plcO R (some r) = .none) : look C R sw c r = none := by
  unfold look
  rcases h with h | h
  · rw [h]
  · rw [h]; cases plcO C (some c) <;> rfl
theorem plcO_eq {xs ys : List D} {p : Nat} {o : Option Nat} (h : xs[p]? = some (plcO ys o)) : plcO xs (some p) = plcO ys o := by
  show (xs[p]?).getD .none = _
  rw [h]; rfl
theorem plcO_rev {xs : List D} {p : Nat} (h : p < xs.length) : plcO xs.reverse (some p) = plcO xs (some (xs.length - 1 - p)) := by
  show (xs.reverse[p]?).getD .none = _
  rw [rev_get, if_pos h]; rfl
/-- the lines tell it -/
theorem look_step {e : Ed} (he : e.ok) {C R C' R' : List D} {sw sw' : Bool} (h : stepA e (some C, some R, sw) = (some C', some R', sw')) {c r : Nat} (hi : Ins (szStep e (C.length, R.length)) c r) :
    look C' R' sw' c r = (fromE e (C.length, R.length) c r).bind fun p => look C R sw p.1 p.2 := by
  by_cases hT : e.isT = true
  · cases e with
    | turn q =>
      have h1 := he.1
      have h2 := he.2
      have hq : q = 1 ∨ q = 2 ∨ q = 3 := by omega
      rcases hq with rfl | rfl | rfl
      · have h : (some R.reverse, some C, !sw) = (some C', some R', sw') := h
        cases h
        have hi : c < R.length ∧ r < C.length := hi
        show look R.reverse C (!sw) c r = look C R sw r (R.length - 1 - c)
        unfold look
        rw [plcO_rev hi.1]
        cases plcO R (some (R.length - 1 - c)) <;> cases plcO C (some r) <;> cases sw <;> rfl
      · have h : (some C.reverse, some R.reverse, sw) = (some C', some R', sw') := h
        cases h
        have hi : c < C.length ∧ r < R.length := hi
        show look C.reverse R.reverse sw c r = look C R sw (C.length - 1 - c) (R.length - 1 - r)
        unfold look
        rw [plcO_rev hi.1, plcO_rev hi.2]
      · have h : (some R, some C.reverse, !sw) = (some C', some R', sw') := h
        cases h
        have hi : c < R.length ∧ r < C.length := hi
        show look R C.reverse (!sw) c r = look C R sw (C.length - 1 - r) c
        unfold look
        rw [plcO_rev hi.2]
        cases plcO R (some c) <;> cases plcO C (some (C.length - 1 - r)) <;> cases sw <;> rfl
    | _ => cases hT
  · have hT : e.isT = false := by simpa using hT
    rw [stepA_line hT] at h
    have g1 : newL e false (some C) = some C' := congrArg Prod.fst h
    have g2 : newL e true (some R) = some R' := congrArg (fun x => x.2.1) h
    have g3 : sw = sw' := congrArg (fun x => x.2.2) h
    subst g3
    have k1 : C' = lineE e false C := by
      have g1 : kept (lineE e false C) = some C' := g1
      unfold kept at g1
      split at g1
      · cases g1
      · exact (Option.some.inj g1).symm
    have k2 : R' = lineE e true R := by
      have g2 : kept (lineE e true R) = some R' := g2
      unfold kept at g2
      split at g2
      · cases g2
      · exact (Option.some.inj g2).symm
    subst k1 k2
    rw [szStep_line hT] at hi
    rw [fromE_line hT]
    have q1 := plcO_eq (lineE_get false he hT hi.1)
    have q2 := plcO_eq (lineE_get true he hT hi.2)
    show look _ _ sw c r = ((back1 e false C.length c).bind fun i => (back1 e true R.length r).map fun j => (i, j)).bind _
    cases b1 : back1 e false C.length c with
    | none =>
      rw [b1] at q1
      rw [look_none _ _ _ _ _ (.inl q1)]; rfl
    | some i =>
      cases b2 : back1 e true R.length r with
      | none =>
        rw [b2] at q2
        rw [look_none _ _ _ _ _ (.inr q2)]; rfl
      | some j =>
        rw [b1] at q1
        rw [b2] at q2
        show look _ _ sw c r = look C R sw i j
        unfold look
        rw [q1, q2]
theorem szEnd_len {s : Stk} (hs : s.ok) {w h : Nat} (hw : 0 < w) (hh : 0 < h) {C R : List D} {sw : Bool} (e : linesA w h s = (some C, some R, sw)) : szRun s (w, h) = (C.length, R.length) := by
  have := szEnd_lines hs hw hh
  rw [e] at this
  unfold szEnd at this
  split at this
  · cases this
  · exact Option.some.inj this
theorem src_look {w h : Nat} (hw : 0 < w) (hh : 0 < h) : ∀ (n : Nat) (s : Stk), s.length = n → s.ok → ∀ {C R : List D} {sw : Bool}, linesA w h s = (some C, some R, sw) → ∀ {c r : Nat}, Ins (C.length, R.length) c r → srcB s (w, h) c r = look C R sw c r
  | 0, s, hl, hs, C, R, sw, e, c, r, hi => by
    have : s = [] := List.eq_nil_of_length_eq_zero hl
    subst this
    have e : (idL w, idL h, false) = (some C, some R, sw) := e
    cases e
    have h1 : c < (rangeD 0 w 1).length := hi.1
    have h2 : r < (rangeD 0 h 1).length := hi.2
    rw [range_len] at h1 h2
    show some (c, r) = look (rangeD 0 w 1) (rangeD 0 h 1) false c r
    unfold look plcO
    simp only
    rw [range_get, range_get, if_pos h1, if_pos h2]
    show some (c, r) = some ((c : Int).toNat, (r : Int).toNat)
    simp
  | n + 1, s, hl, hs, C, R, sw, e, c, r, hi => by
    obtain ⟨f, x, rfl⟩ : ∃ f x, s = f ++ [x] := ⟨s.dropLast, s.getLast (by intro q; rw [q] at hl; cases hl), (List.dropLast_concat_getLast _).symm⟩
    have hf : Stk.ok f := fun z hz => hs z (List.mem_append.mpr (.inl hz))
    have hx : x.ok := hs x (List.mem_append.mpr (.inr List.mem_cons_self))
    have hlf : f.length = n := by
      have : (f ++ [x]).length = n + 1 := hl
      rw [List.length_append] at this
      simpa using this
    have e1 : stepA x (linesA w h f) = (some C, some R, sw) := by
      have : linesA w h (f ++ [x]) = stepA x (linesA w h f) := runA_snoc f x _
      rw [← this]; exact e
    have hz := szEnd_len hs hw hh e
    rw [szRun_snoc] at hz
    generalize hL : linesA w h f = L at e1
    obtain ⟨c0, r0, sw0⟩ := L
    have hsome : (∃ C0, c0 = some C0) ∧ ∃ R0, r0 = some R0 := by
      cases c0 with
      | none =>
        exfalso
        cases x with
        | turn q =>
          have h1 := hx.1
          have h2 := hx.2
          have hq : q = 1 ∨ q = 2 ∨ q = 3 := by omega
          rcases hq with rfl | rfl | rfl
          · have e1 : (rv r0, (none : Ln), !sw0) = (some C, some R, sw) := e1
            cases congrArg (fun x => x.2.1) e1
          · have e1 : ((none : Ln), rv r0, sw0) = (some C, some R, sw) := e1
            cases congrArg Prod.fst e1
          · have e1 : (r0, (none : Ln), !sw0) = (some C, some R, sw) := e1
            cases congrArg (fun x => x.2.1) e1
        | _ => cases congrArg Prod.fst e1
      | some C0 =>
        refine ⟨⟨C0, rfl⟩, ?_⟩
        cases r0 with
        | none =>
          exfalso
          cases x with
          | turn q =>
            have h1 := hx.1
            have h2 := hx.2
            have hq : q = 1 ∨ q = 2 ∨ q = 3 := by omega
            rcases hq with rfl | rfl | rfl
            · have e1 : ((none : Ln), some C0, !sw0) = (some C, some R, sw) := e1
              cases e1
            · have e1 : (some C0.reverse, (none : Ln), sw0) = (some C, some R, sw) := e1
              cases e1
            · have e1 : ((none : Ln), some C0.reverse, !sw0) = (some C, some R, sw) := e1
              cases e1
          | _ => cases congrArg (fun x => x.2.1) e1
        | some R0 => exact ⟨R0, rfl⟩
    obtain ⟨⟨C0, rfl⟩, R0, rfl⟩ := hsome
    have hz0 := szEnd_len hf hw hh hL
    rw [hz0] at hz
    have hi' : Ins (szStep x (C0.length, R0.length)) c r := by rw [hz]; exact hi
    rw [srcB_snoc, hz0, look_step hx e1 hi']
    cases hb : fromE x (C0.length, R0.length) c r with
    | none => rfl
    | some y => exact src_look hw hh n f hlf hf hL (fromE_in hx hi' hb)

/-! Qk12b: place_before, _law_back_in, turn_before. -/
open PySem
def oN : Option Nat → D
  | none => .none
  | some i => .int i
def SpPlace (F : FSem) : Prop := ∀ (e : Ed) (a : Bool) (n p : Nat), e.ok → e.isT = false → p < lenE e a n → F [.val (.int p), .val (.int n), .val e.d, .val (.int (ixB a))] = some (oN (back1 e a n p), [.val (.int p), .val (.int n), .val e.d, .val (.int (ixB a))])
section
variable {Φ : Phi} {Γ : Str → Option D}
theorem pad_val {A L : E} {ρ : Env} {p f n : Nat} (hx : ev Φ Γ A ρ = some (.int ((p : Int) - (f : Int)), ρ)) (hL : ev Φ Γ L ρ = some (.int n, ρ)) :
    ev Φ Γ (.ite (.chain .LtE .Lt (.kI 0) A L) A .kN) ρ = some (oN (if f ≤ p ∧ p - f < n then some (p - f) else none), ρ) := by
  have hc := ev_chain (Φ := Φ) (Γ := Γ) (op := .LtE) (op' := .Lt) (a := .kI 0) (b := A) (c := L) (ρ := ρ) ev_kI hx c_le hL c_lt
  by_cases q : f ≤ p ∧ p - f < n
  · rw [if_pos q]
    refine ev_iteT hc ?_ ?_
    · rw [Bool.and_eq_true, decide_eq_true_eq, decide_eq_true_eq]; omega
    · rw [hx, show (p : Int) - (f : Int) = ((p - f : Nat) : Int) by omega]; rfl
  · rw [if_neg q]
    refine ev_iteF hc ?_ ev_kN
    rw [Bool.and_eq_false_iff, decide_eq_false_iff_not, decide_eq_false_iff_not]; omega
theorem pad_x {a : Bool} {p l t r b : Nat} {ρ : Env} (h0 : ρ[0]? = some (.val (.int p))) (h2 : ρ[2]? = some (.val (Ed.pad l t r b).d)) (h3 : ρ[3]? = some (.val (.int (ixB a)))) :
    ev Φ Γ (.bin .Sub (.var 0) (.idx (.var 2) (.bin .Add (.kI 1) (.var 3)))) ρ = some (.int ((p : Int) - ((pick a l t : Nat) : Int)), ρ) := by
  cases a
  · exact ev_bin (ev_var h0) (ev_idx (ev_var h2) (ev_bin ev_kI (ev_var h3) o_addI) rfl) o_subI
  · exact ev_bin (ev_var h0) (ev_idx (ev_var h2) (ev_bin ev_kI (ev_var h3) o_addI) rfl) o_subI
theorem sp_place : SpPlace (runF Φ Γ 4 5 t_place_before) := by
  intro e a n p he hT hp
  refine runF_of rfl ?_
  unfold t_place_before
  apply en_seq
  apply en_set
  · (law_purse 1 => exact ed_idx0 e)
  · exact rfl
  apply sq_nx
  cases e with
  | turn q => cases hT
  | flip d =>
    have hp : p < n := hp
    cases d <;> cases a
    · (law_purse 2 => (law_purse 19 => fail))
      exact ⟨rfl, congrArg PyData.int (by show (n : Int) - 1 - (p : Int) = ((n - 1 - p : Nat) : Int); omega)⟩
    · (law_purse 2 => (law_purse 19 => fail))
      exact ⟨rfl, rfl⟩
    · (law_purse 2 => (law_purse 19 => fail))
      exact ⟨rfl, rfl⟩
    · (law_purse 2 => (law_purse 19 => fail))
      exact ⟨rfl, congrArg PyData.int (by show (n : Int) - 1 - (p : Int) = ((n - 1 - p : Nat) : Int); omega)⟩
  | trim l t r b =>
    cases a
    · (law_purse 2 => (law_purse 19 => fail))
      exact ⟨rfl, rfl⟩
    · (law_purse 2 => (law_purse 19 => fail))
      exact ⟨rfl, rfl⟩
  | pad l t r b =>
    apply en_seq
    apply en_iteF
    · (law_purse 1 => (law_purse 19 => fail))
    · rfl
    apply en_skip
    apply sq_nx
    apply en_seq
    apply en_iteF
    · (law_purse 1 => (law_purse 19 => fail))
    · rfl
    apply en_skip
    apply sq_nx
    apply en_seq
    apply en_iteT
    · (law_purse 1 => (law_purse 19 => fail))
    · rfl
    apply en_ret
    · exact pad_val (p := p) (f := pick a l t) (n := n) (pad_x rfl rfl rfl) (ev_var rfl)
    · exact ⟨rfl, rfl⟩
  | corner w k =>
    cases a
    · (law_purse 2 => (law_purse 19 => fail))
      exact ⟨rfl, rfl⟩
    · (law_purse 2 => (law_purse 19 => fail))
      exact ⟨rfl, rfl⟩
  | enlarge m =>
    have hm : 0 < m ∧ m ≤ 3 := by rcases he with rfl | rfl <;> omega
    (law_purse 2 => (law_purse 19 => fail))
    exact ⟨rfl, congrArg PyData.int (by show (p : Int) / (m : Int) = ((p / m : Nat) : Int); exact (Int.natCast_ediv p m).symm)⟩
  | reduce m =>
    have hm : 0 < m ∧ m ≤ 3 := by rcases he with rfl | rfl <;> omega
    (law_purse 2 => (law_purse 19 => fail))
    exact ⟨rfl, rfl⟩
theorem sp_backIn : SpPlace (runF Φ Γ 4 6 t_law_back_in) := by
  intro e a n p he hT hp
  refine runF_of rfl ?_
  unfold t_law_back_in
  apply en_seq
  apply en_set
  · (law_purse 1 => exact ed_idx0 e)
  · exact rfl
  apply sq_nx
  cases e with
  | turn q => cases hT
  | flip d =>
    have hp : p < n := hp
    cases d <;> cases a
    · (law_purse 2 => (law_purse 19 => fail))
      exact ⟨rfl, congrArg PyData.int (by show (n : Int) - 1 - (p : Int) = ((n - 1 - p : Nat) : Int); omega)⟩
    · (law_purse 2 => (law_purse 19 => fail))
      exact ⟨rfl, rfl⟩
    · (law_purse 2 => (law_purse 19 => fail))
      exact ⟨rfl, rfl⟩
    · (law_purse 2 => (law_purse 19 => fail))
      exact ⟨rfl, congrArg PyData.int (by show (n : Int) - 1 - (p : Int) = ((n - 1 - p : Nat) : Int); omega)⟩
  | trim l t r b =>
    cases a
    · (law_purse 2 => (law_purse 19 => fail))
      exact ⟨rfl, rfl⟩
    · (law_purse 2 => (law_purse 19 => fail))
      exact ⟨rfl, rfl⟩
  | pad l t r b =>
    apply en_seq
    apply en_iteF
    · (law_purse 1 => (law_purse 19 => fail))
    · rfl
    apply en_skip
    apply sq_nx
    apply en_seq
    apply en_iteF
    · (law_purse 1 => (law_purse 19 => fail))
    · rfl
    apply en_skip
    apply sq_nx
    apply en_seq
    apply en_iteT
    · (law_purse 1 => (law_purse 19 => fail))
    · rfl
    apply en_seq
    apply en_set (d := .int ((p : Int) - ((pick a l t : Nat) : Int)))
    · exact pad_x rfl rfl rfl
    · rfl
    apply sq_nx
    apply en_ret
    · exact pad_val (p := p) (f := pick a l t) (n := n) (ev_var rfl) (ev_var rfl)
    · exact ⟨rfl, rfl⟩
  | corner w k =>
    cases a
    · (law_purse 2 => (law_purse 19 => fail))
      exact ⟨rfl, rfl⟩
    · (law_purse 2 => (law_purse 19 => fail))
      exact ⟨rfl, rfl⟩
  | enlarge m =>
    have hm : 0 < m ∧ m ≤ 3 := by rcases he with rfl | rfl <;> omega
    (law_purse 2 => first | (law_purse 19 => fail) | exact intD_int _)
    refine ⟨rfl, congrArg PyData.int ?_⟩
    show ((p : Int) - (p : Int) % (m : Int)) / (m : Int) = ((p / m : Nat) : Int)
    rcases he with rfl | rfl <;> omega
  | reduce m =>
    have hm : 0 < m ∧ m ≤ 3 := by rcases he with rfl | rfl <;> omega
    (law_purse 2 => (law_purse 19 => fail))
    exact ⟨rfl, rfl⟩
def SpTurnB (F : FSem) : Prop := ∀ (q c r : Nat) (z : Sz), 1 ≤ q → q ≤ 3 → Ins (szStep (.turn q) z) c r → F [.val (.int c), .val (.int r), .val (szD (szStep (.turn q) z)), .val (.int q)] = some (oSz (fromE (.turn q) z c r), [.val (.int c), .val (.int r), .val (szD (szStep (.turn q) z)), .val (.int q)])
/-- a quarter back: column, row, and the sides of the picture -/
def quart (x : Int × Int × Int × Int) : Int × Int × Int × Int := (x.2.1, x.2.2.1 - 1 - x.1, x.2.2.2, x.2.2.1)
def quarts (x : Int × Int × Int × Int) : Nat → Int × Int × Int × Int
  | 0 => x
  | n + 1 => quart (quarts x n)
theorem sp_turnB : SpTurnB (runF Φ Γ 4 5 t_turn_before) := by
  intro q c r z h1 h2 hi
  have key : ∀ (a b : Int) (d : D), .tuple [.int (quarts ((c : Int), (r : Int), a, b) q).1, .int (quarts ((c : Int), (r : Int), a, b) q).2.1] = d → runF Φ Γ 4 5 t_turn_before [.val (.int c), .val (.int r), .val (.tuple [.int a, .int b]), .val (.int q)] = some (d, [.val (.int c), .val (.int r), .val (.tuple [.int a, .int b]), .val (.int q)]) := by
    intro a b d hd
    refine runF_of rfl ?_
    unfold t_turn_before
    apply en_seq
    refine en_for (ds := rangeD 0 q 1) (fun i ρ => ∃ x4, vb x4 ∧ ρ = [.val (.int (quarts ((c : Int), (r : Int), a, b) i).1), .val (.int (quarts ((c : Int), (r : Int), a, b) i).2.1), .val (.tuple [.int (quarts ((c : Int), (r : Int), a, b) i).2.2.1, .int (quarts ((c : Int), (r : Int), a, b) i).2.2.2]), .val (.int q), x4]) (ei_r1 (j := (q : Int)) (ev_var rfl) (by omega)) ⟨.non, .inl rfl, rfl⟩ (fun i e ρ he hj => ?_) (fun ρ hρ => ?_)
    · obtain ⟨x4, h4, rfl⟩ := hj
      refine ⟨_, sv_one (setV_vb rfl h4), ?_⟩
      show Ends Φ Γ _ [.val (.int (quarts ((c : Int), (r : Int), a, b) i).1), .val (.int (quarts ((c : Int), (r : Int), a, b) i).2.1), .val (.tuple [.int (quarts ((c : Int), (r : Int), a, b) i).2.2.1, .int (quarts ((c : Int), (r : Int), a, b) i).2.2.2]), .val (.int q), .val e] _
      show Ends Φ Γ _ _ fun o ρ2 => match o with
        | .nx => ∃ x4, vb x4 ∧ ρ2 = [.val (.int (quart (quarts ((c : Int), (r : Int), a, b) i)).1), .val (.int (quart (quarts ((c : Int), (r : Int), a, b) i)).2.1), .val (.tuple [.int (quart (quarts ((c : Int), (r : Int), a, b) i)).2.2.1, .int (quart (quarts ((c : Int), (r : Int), a, b) i)).2.2.2]), .val (.int q), x4]
        | .ret v => _
      generalize quarts ((c : Int), (r : Int), a, b) i = y
      obtain ⟨y1, y2, y3, y4⟩ := y
      apply en_par (ds := [.int y2, .int (y3 - 1 - y1), .tuple [.int y4, .int y3]])
      · exact el_cons (ev_var rfl) (el_cons (ev_bin (ev_bin (ev_idx (ev_var rfl) ev_kI (atI_nat' (xs := [.int y3, .int y4]) (i := 0) rfl)) ev_kI o_subI) (ev_var rfl) o_subI) (el_cons (ev_tup (el_cons (ev_idx (ev_var rfl) ev_kI (atI_nat' (xs := [.int y3, .int y4]) (i := 1) rfl)) (el_cons (ev_idx (ev_var rfl) ev_kI (atI_nat' (xs := [.int y3, .int y4]) (i := 0) rfl)) el_nil)) (len_dec (n := 2) rfl rfl)) el_nil))
      · rfl
      exact ⟨_, vb_val _, rfl⟩
    · obtain ⟨x4, h4, rfl⟩ := hρ
      rw [range_len]
      apply sq_nx
      apply en_ret
      · exact ev_tup (el_cons (ev_var rfl) (el_cons (ev_var rfl) el_nil)) (len_dec (n := 2) rfl rfl)
      · exact ⟨rfl, hd⟩
  obtain ⟨w, h⟩ := z
  have hq : q = 1 ∨ q = 2 ∨ q = 3 := by omega
  rcases hq with rfl | rfl | rfl
  · have hi : c < h ∧ r < w := hi
    refine key h w _ ?_
    show PyData.tuple [.int (r : Int), .int ((h : Int) - 1 - (c : Int))] = .tuple [.int (r : Int), .int ((h - 1 - c : Nat) : Int)]
    rw [show (h : Int) - 1 - (c : Int) = ((h - 1 - c : Nat) : Int) by omega]
  · have hi : c < w ∧ r < h := hi
    refine key w h _ ?_
    show PyData.tuple [.int ((w : Int) - 1 - (c : Int)), .int ((h : Int) - 1 - (r : Int))] = .tuple [.int ((w - 1 - c : Nat) : Int), .int ((h - 1 - r : Nat) : Int)]
    rw [show (h : Int) - 1 - (r : Int) = ((h - 1 - r : Nat) : Int) by omega, show (w : Int) - 1 - (c : Int) = ((w - 1 - c : Nat) : Int) by omega]
  · have hi : c < h ∧ r < w := hi
    refine key h w _ ?_
    show PyData.tuple [.int ((w : Int) - 1 - (r : Int)), .int ((h : Int) - 1 - ((h : Int) - 1 - (c : Int)))] = .tuple [.int ((w - 1 - r : Nat) : Int), .int (c : Int)]
    rw [show (h : Int) - 1 - ((h : Int) - 1 - (c : Int)) = (c : Int) by omega, show (w : Int) - 1 - (r : Int) = ((w - 1 - r : Nat) : Int) by omega]
end

/-! Qk12c: source, _law_from. -/
open PySem
theorem cut_last {α : Type} (xs : List α) (n : Nat) (h : xs.length = n + 1) : cutL xs none (some (-1)) = xs.take n := by
  unfold cutL
  show (xs.drop 0).take ((if (-1 : Int) < 0 then ((-1 : Int) + (xs.length : Int)).toNat else min (-1 : Int).toNat xs.length) - 0) = _
  rw [if_pos (by decide), h, List.drop_zero, Nat.sub_zero]
  congr 1
  omega
theorem cut_tail {α : Type} (xs : List α) (h : 0 < xs.length) : cutL xs (some 1) none = xs.drop 1 := by
  unfold cutL
  show (xs.drop (if (1 : Int) < 0 then ((1 : Int) + (xs.length : Int)).toNat else min (1 : Int).toNat xs.length)).take (xs.length - (if (1 : Int) < 0 then ((1 : Int) + (xs.length : Int)).toNat else min (1 : Int).toNat xs.length)) = _
  rw [if_neg (by decide), show min (1 : Int).toNat xs.length = 1 by show min 1 xs.length = 1; omega]
  rw [List.take_of_length_le (by rw [List.length_drop]; omega)]
def SpSource (F : FSem) : Prop := ∀ (s : Stk) (w h c r : Nat), s.ok → s.length ≤ 1000 → Ins (szRun s (w, h)) c r → F [.val s.d, .val (.int w), .val (.int h), .val (.int c), .val (.int r)] = some (oSz (srcB s (w, h) c r), [.val s.d, .val (.int w), .val (.int h), .val (.int c), .val (.int r)])
theorem szAll_get (s : Stk) (z : Sz) {i : Nat} (hi : i ≤ s.length) : (szAll s z)[i]? = some (szRun (s.take i) z) := by
  unfold szAll
  rw [List.getElem?_map, List.getElem?_range (by omega)]; rfl
theorem szAll_len (s : Stk) (z : Sz) : (szAll s z).length = s.length + 1 := by unfold szAll; rw [List.length_map, List.length_range]
section
variable {Φ : Phi} {Γ : Str → Option D}
theorem ei_zip3 {a b c : E} {x y z : D} {xs ys zs : List D} {ρ ρ1 ρ2 ρ3 : Env} (h1 : ev Φ Γ a ρ = some (x, ρ1)) (h2 : ev Φ Γ b ρ1 = some (y, ρ2)) (h3 : ev Φ Γ c ρ2 = some (z, ρ3)) (q1 : seqD x = some xs) (q2 : seqD y = some ys) (q3 : seqD z = some zs) : evI Φ Γ (.zip3 a b c) ρ = some (zip3D xs ys zs, ρ3) := by
  show vZip3 _ _ _ ρ = _
  unfold vZip3 eB
  rw [h1]; simp only; rw [h2]; simp only; rw [h3]; simp only; rw [q1, q2, q3]; rfl
theorem sz_idx (z : Sz) : idxD (szD z) (.int 0) = some (.int z.1) ∧ idxD (szD z) (.int 1) = some (.int z.2) :=
  ⟨atI_nat' (xs := [.int z.1, .int z.2]) (i := 0) rfl, atI_nat' (xs := [.int z.1, .int z.2]) (i := 1) rfl⟩
/-- one step back, of two lines -/
theorem two_back {a1 a2 : Option Nat} {n1 n2 : Nat} (P : D → D → Prop) (h : ∀ x y, x = oN a1 → y = oN a2 → P x y) : P (oN a1) (oN a2) := h _ _ rfl rfl
theorem sp_source {Fz Ft Fp : FSem} (hz : Φ "sizes" = some Fz) (ht : Φ "turn_before" = some Ft) (hp : Φ "place_before" = some Fp) (sz : SpSizes Fz) (st : SpTurnB Ft) (sp : SpPlace Fp) : SpSource (runF Φ Γ 5 9 t_sourceb) := by
  intro s w h c r hs hl hi
  refine runF_of rfl ?_
  unfold t_sourceb
  have e1 := sz w h s hs hl
  have hL : ((szAll s (w, h)).map szD).length = s.length + 1 := by rw [List.length_map, szAll_len]
  apply en_seq
  apply en_set
  · exact ev_call (ea_cons (ev_var rfl) (ea_cons (ev_var rfl) (ea_cons (ev_var rfl) ea_nil))) hz rfl e1 List.nodup_nil rfl
  · rfl
  apply sq_nx
  show Ends Φ Γ _ [.val s.d, .val (.int w), .val (.int h), .val (.int c), .val (.int r), .val (.list ((szAll s (w, h)).map szD)), .non, .non, .non] _
  apply en_seq
  have g1 : sliceD (.list ((szAll s (w, h)).map szD)) none (some (-1)) = some (.list (((szAll s (w, h)).map szD).take s.length)) := by
    show some (PyData.list (cutL _ _ _)) = _
    rw [cut_last _ _ hL]
  have g2 : sliceD (.list ((szAll s (w, h)).map szD)) (some 1) none = some (.list (((szAll s (w, h)).map szD).drop 1)) := by
    show some (PyData.list (cutL _ _ _)) = _
    rw [cut_tail _ (by omega)]
  have hit := ei_zip3 (Φ := Φ) (Γ := Γ) (ρ := [.val s.d, .val (.int w), .val (.int h), .val (.int c), .val (.int r), .val (.list ((szAll s (w, h)).map szD)), .non, .non, .non]) (ev_rev (ev_var (i := 0) rfl) (stk_rev s)) (ev_rev (ev_slice (ev_var (i := 5) rfl) ep_n (ep_e (ev_neg ev_kI)) g1) rfl) (ev_rev (ev_slice (ev_var (i := 5) rfl) (ep_e ev_kI) ep_n g2) rfl) rfl rfl rfl
  have hlen : (zip3D (s.reverse.map Ed.d) (((szAll s (w, h)).map szD).take s.length).reverse (((szAll s (w, h)).map szD).drop 1).reverse).length = s.length := by
    rw [zip3D_len, List.length_map, List.length_reverse, List.length_reverse, List.length_reverse, List.length_take, List.length_drop, hL]
    omega
  have hat : ∀ i, i < s.length → ∃ e, s[s.length - 1 - i]? = some e ∧ (zip3D (s.reverse.map Ed.d) (((szAll s (w, h)).map szD).take s.length).reverse (((szAll s (w, h)).map szD).drop 1).reverse)[i]? = some (.tuple [e.d, szD (szRun (s.take (s.length - 1 - i)) (w, h)), szD (szRun (s.take (s.length - 1 - i + 1)) (w, h))]) := by
    intro i hi
    refine ⟨s[s.length - 1 - i]'(by omega), List.getElem?_eq_getElem (by omega), zip3D_get _ _ _ _ _ _ _ ?_ ?_ ?_⟩
    · rw [List.getElem?_map, List.getElem?_reverse hi, List.getElem?_eq_getElem (by omega)]; rfl
    · rw [List.getElem?_reverse (by rw [List.length_take, hL]; omega), List.length_take, hL, List.getElem?_take, if_pos (by omega), List.getElem?_map, szAll_get s _ (by omega)]
      rw [show min s.length (s.length + 1) - 1 - i = s.length - 1 - i by omega]; rfl
    · rw [List.getElem?_reverse (by rw [List.length_drop, hL]; omega), List.length_drop, hL, List.getElem?_drop, List.getElem?_map, szAll_get s _ (by omega)]
      rw [show 1 + (s.length + 1 - 1 - 1 - i) = s.length - 1 - i + 1 by omega]; rfl
  generalize zip3D (s.reverse.map Ed.d) (((szAll s (w, h)).map szD).take s.length).reverse (((szAll s (w, h)).map szD).drop 1).reverse = Z at hit hlen hat
  refine en_for (ds := Z) (fun i ρ => ∃ (y : Sz) (x6 x7 x8 : Sl), vb x6 ∧ vb x7 ∧ vb x8 ∧ srcB s (w, h) c r = srcB (s.take (s.length - i)) (w, h) y.1 y.2 ∧ Ins (szRun (s.take (s.length - i)) (w, h)) y.1 y.2 ∧ ρ = [.val s.d, .val (.int w), .val (.int h), .val (.int y.1), .val (.int y.2), .val (.list ((szAll s (w, h)).map szD)), x6, x7, x8]) hit ⟨(c, r), .non, .non, .non, .inl rfl, .inl rfl, .inl rfl, by rw [Nat.sub_zero, List.take_length], by rw [Nat.sub_zero, List.take_length]; exact hi, rfl⟩ (fun i d ρ hd hj => ?_) (fun ρ hρ => ?_)
  · obtain ⟨⟨c, r⟩, x6, x7, x8, h6, h7, h8, hsr, hin, rfl⟩ := hj
    have hi : i < s.length := by rw [← hlen]; exact (List.getElem?_eq_some_iff.mp hd).1
    obtain ⟨e, he, hz2⟩ := hat i hi
    rw [hz2] at hd
    cases hd
    have hok := hs e (List.mem_of_getElem? he)
    have htk : s.take (s.length - i) = s.take (s.length - 1 - i) ++ [e] := by
      rw [show s.length - i = s.length - 1 - i + 1 by omega, List.take_add_one, he]; rfl
    have hnx : s.length - (i + 1) = s.length - 1 - i := by omega
    rw [htk, srcB_snoc] at hsr
    rw [htk, szRun_snoc] at hin
    rw [hnx, show s.take (s.length - 1 - i + 1) = s.take (s.length - 1 - i) ++ [e] by rw [List.take_add_one, he]; rfl, szRun_snoc]
    generalize s.take (s.length - 1 - i) = f at hsr hin ⊢
    generalize szRun f (w, h) = z at hsr hin ⊢
    have hw : ∀ ρ : Env, ρ[6]? = some (.val e.d) → ev Φ Γ (.cmp .Eq (.idx (.var 6) (.kI 0)) (.kS "turn")) ρ = some (.bool e.isT, ρ) := fun ρ h6 => by
      refine ev_cmp (ev_idx (ev_var h6) ev_kI (ed_idx0 e)) ev_kS ?_
      rw [c_eq (wd_sh e) (show sh (.str "turn") = true from wdK_sh 0), wd_turn]
    refine ⟨[.val s.d, .val (.int w), .val (.int h), .val (.int c), .val (.int r), .val (.list ((szAll s (w, h)).map szD)), .val e.d, .val (szD z), .val (szD (szStep e z))], ?_, ?_⟩
    · show (setV 6 _ _).bind _ = _
      rw [setV_vb rfl h6]
      show (setV 7 _ _).bind _ = _
      rw [setV_vb rfl h7]
      show (setV 8 _ _).bind _ = _
      rw [setV_vb rfl h8]; rfl
    by_cases hT : e.isT = true
    · apply en_iteT
      · exact hw _ rfl
      · exact hT
      cases e with
      | turn q =>
        have e2 := st q c r z hok.1 hok.2 hin
        cases hb : fromE (.turn q) z c r with
        | none => cases hb
        | some y =>
          rw [hb] at e2 hsr
          have hin2 := fromE_in hok hin hb
          apply en_setT (ρ2 := [.val s.d, .val (.int w), .val (.int h), .val (.int y.1), .val (.int y.2), .val (.list ((szAll s (w, h)).map szD)), .val (Ed.turn q).d, .val (szD z), .val (szD (szStep (.turn q) z))])
          · exact ev_call (ea_cons (ev_var rfl) (ea_cons (ev_var rfl) (ea_cons (ev_var rfl) (ea_cons (ev_idx (ev_var rfl) ev_kI (atI_nat' (xs := [.str "turn", .int q]) (i := 1) rfl)) ea_nil)))) ht rfl e2 List.nodup_nil rfl
          · rfl
          exact ⟨y, _, _, _, vb_val _, vb_val _, vb_val _, hsr, hin2, rfl⟩
      | _ => cases hT
    · have hT : e.isT = false := by simpa using hT
      apply en_iteF
      · exact hw _ rfl
      · exact hT
      have hin' := hin
      rw [szStep_line hT] at hin'
      have e2 := sp e false z.1 c hok hT hin'.1
      have e3 := sp e true z.2 r hok hT hin'.2
      rw [fromE_line hT] at hsr
      have hfi := fun y => fromE_in (y := y) hok hin
      rw [fromE_line hT] at hfi
      generalize back1 e false z.1 c = b1 at e2 hsr hfi
      generalize back1 e true z.2 r = b2 at e3 hsr hfi
      apply en_seq
      apply en_par (ds := [oN b1, oN b2]) (ρ2 := [.val s.d, .val (.int w), .val (.int h), .val (oN b1), .val (oN b2), .val (.list ((szAll s (w, h)).map szD)), .val e.d, .val (szD z), .val (szD (szStep e z))])
      · exact el_cons (ev_call (ea_cons (ev_var rfl) (ea_cons (ev_idx (ev_var rfl) ev_kI (sz_idx z).1) (ea_cons (ev_var rfl) (ea_cons ev_kI ea_nil)))) hp rfl e2 List.nodup_nil rfl) (el_cons (ev_call (ea_cons (ev_var rfl) (ea_cons (ev_idx (ev_var rfl) ev_kI (sz_idx z).2) (ea_cons (ev_var rfl) (ea_cons ev_kI ea_nil)))) hp rfl e3 List.nodup_nil rfl) el_nil)
      · rfl
      apply sq_nx
      have nn : ∀ o : Option Nat, isNon (oN o) = o.isNone := fun o => by cases o <;> rfl
      have hcond : ∀ ρ : Env, ρ[3]? = some (.val (oN b1)) → ρ[4]? = some (.val (oN b2)) → ev Φ Γ (.or (.cmp .Is (.var 3) .kN) (.cmp .Is (.var 4) .kN)) ρ = some (.bool (isNon (oN b1) || isNon (oN b2)), ρ) := fun ρ h3 h4 => ev_or (ev_cmp (ev_var h3) ev_kN c_is) fun _ => ev_cmp (ev_var h4) ev_kN c_is
      cases b1 with
      | none =>
        apply en_iteT
        · exact hcond _ rfl rfl
        · rfl
        apply en_ret
        · exact ev_kN
        · exact ⟨rfl, by rw [hsr]; rfl⟩
      | some i1 =>
        cases b2 with
        | none =>
          apply en_iteT
          · exact hcond _ rfl rfl
          · rfl
          apply en_ret
          · exact ev_kN
          · exact ⟨rfl, by rw [hsr]; rfl⟩
        | some i2 =>
          apply en_iteF
          · exact hcond _ rfl rfl
          · rfl
          apply en_skip
          exact ⟨(i1, i2), _, _, _, vb_val _, vb_val _, vb_val _, hsr, hfi (i1, i2) rfl, rfl⟩
  · obtain ⟨⟨c', r'⟩, x6, x7, x8, h6, h7, h8, hsr, hin, rfl⟩ := hρ
    rw [hlen, Nat.sub_self, List.take_zero] at hsr
    apply sq_nx
    apply en_ret
    · exact ev_tup (el_cons (ev_var rfl) (el_cons (ev_var rfl) el_nil)) (len_dec (n := 2) rfl rfl)
    · exact ⟨rfl, by rw [hsr]; rfl⟩
end

/-! Qk12d: _law_from. -/
open PySem
theorem ed_lay (e : Ed) : PyData.canLay0 e.d = true ∧ e.d.depth = 1 := by
  cases e with
  | flip b => cases b <;> exact ⟨by decide +kernel, by decide +kernel⟩
  | turn q => exact ⟨by show (PyData.canLay0 (.str "turn") && (true && true)) = true; decide +kernel, rfl⟩
  | trim l t r b => exact ⟨by show (PyData.canLay0 (.str "trim") && (true && (true && (true && (true && true))))) = true; decide +kernel, rfl⟩
  | pad l t r b => exact ⟨by show (PyData.canLay0 (.str "pad") && (true && (true && (true && (true && true))))) = true; decide +kernel, rfl⟩
  | corner w h => exact ⟨by show (PyData.canLay0 (.str "corner") && (true && (true && true))) = true; decide +kernel, rfl⟩
  | enlarge m => exact ⟨by show (PyData.canLay0 (.str "enlarge") && (true && true)) = true; decide +kernel, rfl⟩
  | reduce m => exact ⟨by show (PyData.canLay0 (.str "reduce") && (true && true)) = true; decide +kernel, rfl⟩
theorem eds_lay : ∀ s : Stk, PyData.canLayAll0 (s.map Ed.d) = true ∧ PyData.depthAll (s.map Ed.d) ≤ 1
  | [] => ⟨rfl, by decide⟩
  | e :: s => by
    have ih := eds_lay s
    have he := ed_lay e
    refine ⟨?_, ?_⟩
    · show (PyData.canLay0 e.d && PyData.canLayAll0 (s.map Ed.d)) = true
      rw [he.1, ih.1]; rfl
    · show max e.d.depth (PyData.depthAll (s.map Ed.d)) ≤ 1
      rw [he.2]
      have := ih.2
      omega
theorem sh_stk (s : Stk) : sh s.d = true := by
  have h := eds_lay s
  show (PyData.canLayAll0 (s.map Ed.d) && decide (PyData.depthAll (s.map Ed.d) + 1 ≤ 64)) = true
  rw [h.1, decide_eq_true (by have := h.2; omega)]; rfl
theorem c_nil (s : Stk) : cmpX .Eq s.d (.tuple []) = some (decide (s = [])) := by
  rw [c_eq (sh_stk s) rfl]
  cases s <;> rfl
theorem sl_front (f : Stk) (e : Ed) : sliceD (Stk.d (f ++ [e])) none (some (-1)) = some (Stk.d f) := by
  show some (PyData.tuple (cutL _ _ _)) = _
  rw [cut_last _ f.length (by rw [List.length_map, List.length_append]; rfl)]
  show some (PyData.tuple (((f ++ [e]).map Ed.d).take f.length)) = some (.tuple (f.map Ed.d))
  rw [List.map_append, List.take_append_of_le_length (by rw [List.length_map]; exact Nat.le_refl _), List.take_of_length_le (by rw [List.length_map]; exact Nat.le_refl _)]
theorem ix_last (f : Stk) (e : Ed) : idxD (Stk.d (f ++ [e])) (.int (-1)) = some e.d := by
  show atI ((f ++ [e]).map Ed.d) (-1) = _
  rw [List.map_append]
  exact atI_last _ _
theorem szEnd_front {f : Stk} {e : Ed} {z : Sz} (h : (szEnd (f ++ [e]) z).isSome = true) : szEnd f z = some (szRun f z) := by
  unfold szEnd at h ⊢
  have hs : (szAll f z).any zeroB = false := by
    cases q : (szAll f z).any zeroB with
    | false => rfl
    | true =>
      exfalso
      rw [List.any_eq_true] at q
      obtain ⟨y, hy, h0⟩ := q
      have : (szAll (f ++ [e]) z).any zeroB = true := by
        rw [List.any_eq_true]
        refine ⟨y, ?_, h0⟩
        unfold szAll at hy ⊢
        rw [List.mem_map] at hy ⊢
        obtain ⟨i, hi, rfl⟩ := hy
        rw [List.mem_range] at hi
        refine ⟨i, List.mem_range.mpr (by rw [List.length_append]; omega), ?_⟩
        rw [List.take_append_of_le_length (by omega)]
      rw [this] at h
      cases h
  rw [hs]; rfl
def SpFrom (n : Nat) (F : FSem) : Prop := ∀ (s : Stk) (w h c r : Nat), s.ok → s.length ≤ n → n ≤ 1000 → (szEnd s (w, h)).isSome = true → Ins (szRun s (w, h)) c r → F [.val s.d, .val (.int w), .val (.int h), .val (.int c), .val (.int r)] = some (oSz (srcB s (w, h) c r), [.val s.d, .val (.int w), .val (.int h), .val (.int c), .val (.int r)])
/-- the law's own quarter back -/
def lq (q : Nat) (w h : Int) (x : Int × Int) : Nat → Int × Int
  | 0 => x
  | n + 1 => ((lq q w h x n).2, (if ((q : Int) - (n : Int)) % 2 = 0 then w else h) - 1 - (lq q w h x n).1)
theorem lq_from {q : Nat} {z : Sz} {c r : Nat} (h1 : 1 ≤ q) (h2 : q ≤ 3) (hi : Ins (szStep (.turn q) z) c r) : ∃ y : Sz, fromE (.turn q) z c r = some y ∧ lq q z.1 z.2 (c, r) q = ((y.1 : Int), (y.2 : Int)) := by
  obtain ⟨w, h⟩ := z
  have hq : q = 1 ∨ q = 2 ∨ q = 3 := by omega
  rcases hq with rfl | rfl | rfl
  · have hi : c < h ∧ r < w := hi
    refine ⟨_, rfl, ?_⟩
    show ((r : Int), (h : Int) - 1 - (c : Int)) = ((r : Int), ((h - 1 - c : Nat) : Int))
    rw [show (h : Int) - 1 - (c : Int) = ((h - 1 - c : Nat) : Int) by omega]
  · have hi : c < w ∧ r < h := hi
    refine ⟨_, rfl, ?_⟩
    show ((w : Int) - 1 - (c : Int), (h : Int) - 1 - (r : Int)) = (((w - 1 - c : Nat) : Int), ((h - 1 - r : Nat) : Int))
    rw [show (h : Int) - 1 - (r : Int) = ((h - 1 - r : Nat) : Int) by omega, show (w : Int) - 1 - (c : Int) = ((w - 1 - c : Nat) : Int) by omega]
  · have hi : c < h ∧ r < w := hi
    refine ⟨_, rfl, ?_⟩
    show ((w : Int) - 1 - (r : Int), (h : Int) - 1 - ((h : Int) - 1 - (c : Int))) = (((w - 1 - r : Nat) : Int), (c : Int))
    rw [show (h : Int) - 1 - ((h : Int) - 1 - (c : Int)) = (c : Int) by omega, show (w : Int) - 1 - (r : Int) = ((w - 1 - r : Nat) : Int) by omega]
section
variable {Φ : Phi} {Γ : Str → Option D}
theorem sp_from0 : SpFrom 0 (runF Φ Γ 5 14 t_law_from) := by
  intro s w h c r hs hl _ _ _
  have : s = [] := List.eq_nil_of_length_eq_zero (by omega)
  subst this
  refine runF_of rfl ?_
  unfold t_law_from
  apply en_seq
  apply en_iteT
  · exact ev_cmp (ev_var rfl) (ev_tup el_nil (len_dec (n := 0) rfl rfl)) (c_nil [])
  · rfl
  apply en_ret
  · exact ev_tup (el_cons (ev_var rfl) (el_cons (ev_var rfl) el_nil)) (len_dec (n := 2) rfl rfl)
  · exact ⟨rfl, rfl⟩
theorem sp_from {n : Nat} {F Fz Fb : FSem} (hF : Φ "_law_from" = some F) (hz : Φ "size_after" = some Fz) (hb : Φ "_law_back_in" = some Fb) (sF : SpFrom n F) (sz : SpSizeAfter Fz) (sb : SpPlace Fb) : SpFrom (n + 1) (runF Φ Γ 5 14 t_law_from) := by
  intro s w h c r hs hl hn hsome hin
  refine runF_of rfl ?_
  unfold t_law_from
  apply en_seq
  by_cases hnil : s = []
  · subst hnil
    apply en_iteT
    · exact ev_cmp (ev_var rfl) (ev_tup el_nil (len_dec (n := 0) rfl rfl)) (c_nil [])
    · rfl
    apply en_ret
    · exact ev_tup (el_cons (ev_var rfl) (el_cons (ev_var rfl) el_nil)) (len_dec (n := 2) rfl rfl)
    · exact ⟨rfl, rfl⟩
  · apply en_iteF
    · exact ev_cmp (ev_var rfl) (ev_tup el_nil (len_dec (n := 0) rfl rfl)) (c_nil s)
    · exact decide_eq_false hnil
    apply en_skip
    apply sq_nx
    obtain ⟨f, e, rfl⟩ : ∃ f e, s = f ++ [e] := ⟨s.dropLast, s.getLast hnil, (List.dropLast_concat_getLast _).symm⟩
    have hf : Stk.ok f := fun z hz => hs z (List.mem_append.mpr (.inl hz))
    have he : e.ok := hs e (List.mem_append.mpr (.inr List.mem_cons_self))
    have hlf : f.length ≤ n := by
      have : (f ++ [e]).length ≤ n + 1 := hl
      rw [List.length_append] at this
      have : f.length + 1 ≤ n + 1 := this
      omega
    have e1 := sz w h f hf (by omega)
    have hfr := szEnd_front hsome
    have hsomef : (szEnd f (w, h)).isSome = true := by rw [hfr]; rfl
    rw [hfr] at e1
    rw [szRun_snoc] at hin
    rw [srcB_snoc]
    have sF' := fun c r => sF f w h c r hf hlf (by omega) hsomef
    have g1 := sl_front f e
    have g2 := ix_last f e
    generalize Stk.d (f ++ [e]) = SD at g1 g2
    generalize szRun f (w, h) = z at e1 hin sF'
    apply en_seq
    apply en_par (ds := [Stk.d f, e.d])
    · exact el_cons (ev_slice (ev_var rfl) ep_n (ep_e (ev_neg ev_kI)) g1) (el_cons (ev_idx (ev_var rfl) (ev_neg ev_kI) g2) el_nil)
    · rfl
    apply sq_nx
    apply en_seq
    apply en_setT
    · exact ev_call (ea_cons (ev_var rfl) (ea_cons (ev_var rfl) (ea_cons (ev_var rfl) ea_nil))) hz rfl e1 List.nodup_nil rfl
    · rfl
    apply sq_nx
    show Ends Φ Γ _ [.val SD, .val (.int w), .val (.int h), .val (.int c), .val (.int r), .val (Stk.d f), .val e.d, .val (.int z.1), .val (.int z.2), .non, .non, .non, .non, .non] _
    apply en_seq
    have hw : ∀ ρ : Env, ρ[6]? = some (.val e.d) → ev Φ Γ (.cmp .Eq (.idx (.var 6) (.kI 0)) (.kS "turn")) ρ = some (.bool e.isT, ρ) := fun ρ h6 => by
      refine ev_cmp (ev_idx (ev_var h6) ev_kI (ed_idx0 e)) ev_kS ?_
      rw [c_eq (wd_sh e) (show sh (.str "turn") = true from wdK_sh 0), wd_turn]
    by_cases hT : e.isT = true
    · apply en_iteT
      · exact hw _ rfl
      · exact hT
      cases e with
      | turn q =>
        have q1 := he.1
        have q2 := he.2
        have q1 : 1 ≤ q := q1
        have q2 : q ≤ 3 := q2
        obtain ⟨y, y1, y2⟩ := lq_from q1 q2 hin
        have hin2 := fromE_in he hin y1
        have iq : ∀ ρ : Env, ρ[6]? = some (.val (Ed.turn q).d) → ev Φ Γ (.idx (.var 6) (.kI 1)) ρ = some (.int q, ρ) := fun ρ h6 => ev_idx (ev_var h6) ev_kI (atI_nat' (xs := [.str "turn", .int q]) (i := 1) rfl)
        apply en_seq
        refine en_for (ds := rangeD 0 q 1) (fun i ρ => ∃ x9 x12 x13, vb x9 ∧ vb x12 ∧ vb x13 ∧ ρ = [.val SD, .val (.int w), .val (.int h), .val (.int (lq q z.1 z.2 (c, r) i).1), .val (.int (lq q z.1 z.2 (c, r) i).2), .val (Stk.d f), .val (Ed.turn q).d, .val (.int z.1), .val (.int z.2), x9, .non, .non, x12, x13]) (ei_r1 (j := (q : Int)) (iq _ rfl) (by omega)) ⟨.non, .non, .non, .inl rfl, .inl rfl, .inl rfl, rfl⟩ (fun i d ρ hd hj => ?_) (fun ρ hρ => ?_)
        · obtain ⟨x9, x12, x13, h9, h12, h13, rfl⟩ := hj
          obtain ⟨rfl, hi⟩ := rng hd
          rw [Int.zero_add]
          refine ⟨[.val SD, .val (.int w), .val (.int h), .val (.int (lq q z.1 z.2 (c, r) i).1), .val (.int (lq q z.1 z.2 (c, r) i).2), .val (Stk.d f), .val (Ed.turn q).d, .val (.int z.1), .val (.int z.2), .val (.int i), .non, .non, x12, x13], sv_one (setV_vb rfl h9), ?_⟩
          show Ends Φ Γ _ _ fun o ρ2 => match o with
            | .nx => ∃ x9 x12 x13, vb x9 ∧ vb x12 ∧ vb x13 ∧ ρ2 = [.val SD, .val (.int w), .val (.int h), .val (.int (lq q z.1 z.2 (c, r) i).2), .val (.int ((if ((q : Int) - (i : Int)) % 2 = 0 then (z.1 : Int) else (z.2 : Int)) - 1 - (lq q z.1 z.2 (c, r) i).1)), .val (Stk.d f), .val (Ed.turn q).d, .val (.int z.1), .val (.int z.2), x9, .non, .non, x12, x13]
            | .ret v => _
          generalize lq q z.1 z.2 (c, r) i = x
          obtain ⟨x1, x2⟩ := x
          apply en_seq
          apply en_set (ρ2 := [.val SD, .val (.int w), .val (.int h), .val (.int x1), .val (.int x2), .val (Stk.d f), .val (Ed.turn q).d, .val (.int z.1), .val (.int z.2), .val (.int i), .non, .non, .val (.int ((q : Int) - (i : Int))), x13])
          · exact ev_bin (iq _ rfl) (ev_var rfl) o_subI
          · rcases h12 with rfl | ⟨d, rfl⟩ <;> rfl
          apply sq_nx
          apply en_seq
          have hpar : ∀ ρ : Env, ρ[12]? = some (.val (.int ((q : Int) - (i : Int)))) → ev Φ Γ (.cmp .Eq (.bin .Mod (.b1 .int (.var 12)) (.kI 2)) (.kI 0)) ρ = some (.bool (decide (((q : Int) - (i : Int)) % 2 = 0)), ρ) := fun ρ h12 => by
            refine ev_cmp (ev_bin (ev_b1 (ev_var h12) (intD_int _)) ev_kI (o_mod (by omega))) ev_kI ?_
            rw [c_eq rfl rfl]
            congr 1
          apply en_set (d := .int (if ((q : Int) - (i : Int)) % 2 = 0 then (z.1 : Int) else (z.2 : Int))) (ρ2 := [.val SD, .val (.int w), .val (.int h), .val (.int x1), .val (.int x2), .val (Stk.d f), .val (Ed.turn q).d, .val (.int z.1), .val (.int z.2), .val (.int i), .non, .non, .val (.int ((q : Int) - (i : Int))), .val (.int (if ((q : Int) - (i : Int)) % 2 = 0 then (z.1 : Int) else (z.2 : Int)))])
          · by_cases hm : ((q : Int) - (i : Int)) % 2 = 0
            · rw [if_pos hm]
              exact ev_iteT (hpar _ rfl) (decide_eq_true hm) (ev_var rfl)
            · rw [if_neg hm]
              exact ev_iteF (hpar _ rfl) (decide_eq_false hm) (ev_var rfl)
          · rcases h13 with rfl | ⟨d, rfl⟩ <;> rfl
          apply sq_nx
          apply en_par (ds := [.int x2, .int ((if ((q : Int) - (i : Int)) % 2 = 0 then (z.1 : Int) else (z.2 : Int)) - 1 - x1)])
          · exact el_cons (ev_var rfl) (el_cons (ev_bin (ev_bin (ev_var rfl) ev_kI o_subI) (ev_var rfl) o_subI) el_nil)
          · rfl
          exact ⟨_, _, _, vb_val _, vb_val _, vb_val _, rfl⟩
        · obtain ⟨x9, x12, x13, h9, h12, h13, rfl⟩ := hρ
          rw [range_len, y2]
          apply sq_nx
          rw [y1]
          apply en_ret
          · exact ev_call (ea_cons (ev_var rfl) (ea_cons (ev_var rfl) (ea_cons (ev_var rfl) (ea_cons (ev_var rfl) (ea_cons (ev_var rfl) ea_nil))))) hF rfl (sF' y.1 y.2 hin2) List.nodup_nil rfl
          · exact ⟨rfl, rfl⟩
      | _ => cases hT
    · have hT : e.isT = false := by simpa using hT
      apply en_iteF
      · exact hw _ rfl
      · exact hT
      apply en_skip
      apply sq_nx
      have hin' := hin
      rw [szStep_line hT] at hin'
      have e2 := sb e false z.1 c he hT hin'.1
      have e3 := sb e true z.2 r he hT hin'.2
      rw [fromE_line hT]
      have hfi := fun y => fromE_in (y := y) he hin
      rw [fromE_line hT] at hfi
      generalize back1 e false z.1 c = b1 at e2 hfi
      generalize back1 e true z.2 r = b2 at e3 hfi
      apply en_seq
      apply en_par (ds := [oN b1, oN b2]) (ρ2 := [.val SD, .val (.int w), .val (.int h), .val (.int c), .val (.int r), .val (Stk.d f), .val e.d, .val (.int z.1), .val (.int z.2), .non, .val (oN b1), .val (oN b2), .non, .non])
      · exact el_cons (ev_call (ea_cons (ev_var rfl) (ea_cons (ev_var rfl) (ea_cons (ev_var rfl) (ea_cons ev_kI ea_nil)))) hb rfl e2 List.nodup_nil rfl) (el_cons (ev_call (ea_cons (ev_var rfl) (ea_cons (ev_var rfl) (ea_cons (ev_var rfl) (ea_cons ev_kI ea_nil)))) hb rfl e3 List.nodup_nil rfl) el_nil)
      · rfl
      apply sq_nx
      have hcond : ∀ ρ : Env, ρ[10]? = some (.val (oN b1)) → ρ[11]? = some (.val (oN b2)) → ev Φ Γ (.or (.cmp .Is (.var 10) .kN) (.cmp .Is (.var 11) .kN)) ρ = some (.bool (isNon (oN b1) || isNon (oN b2)), ρ) := fun ρ h3 h4 => ev_or (ev_cmp (ev_var h3) ev_kN c_is) fun _ => ev_cmp (ev_var h4) ev_kN c_is
      apply en_seq
      cases b1 with
      | none =>
        apply en_iteT
        · exact hcond _ rfl rfl
        · rfl
        apply en_ret
        · exact ev_kN
        · exact ⟨rfl, rfl⟩
      | some i1 =>
        cases b2 with
        | none =>
          apply en_iteT
          · exact hcond _ rfl rfl
          · rfl
          apply en_ret
          · exact ev_kN
          · exact ⟨rfl, rfl⟩
        | some i2 =>
          apply en_iteF
          · exact hcond _ rfl rfl
          · rfl
          apply en_skip
          apply sq_nx
          apply en_ret
          · exact ev_call (ea_cons (ev_var rfl) (ea_cons (ev_var rfl) (ea_cons (ev_var rfl) (ea_cons (ev_var rfl) (ea_cons (ev_var rfl) ea_nil))))) hF rfl (sF' i1 i2 (hfi (i1, i2) rfl)) List.nodup_nil rfl
          · exact ⟨rfl, rfl⟩
end

/-! Qk12: the law k12. -/
open PySem
def t_law_k12b : S := (.seq (.setO 1 (.lst (.cons (.scr 0) (.cons (.kI 0) (.cons (.kI 0) .nil))))) (.seq (.for_ (.one 2) (.range1 (.kI 8)) (.seq (.set 3 (.call "_law_stack" (.ref 1 (.cons (.kI 6) .nil)))) (.for_ (.one 4) (.seq (.tup (.cons (.kB false) (.cons (.kB true) .nil)))) (.seq (.set 5 (.ite (.truth (.var 4)) (.bin .Pow (.kI 10) (.kI 15)) (.kI 9))) (.seq (.par [8, 9] (.cons (.bin .Add (.kI 1) (.call "_law_draw" (.ref 1 (.cons (.var 5) .nil)))) (.cons (.bin .Add (.kI 1) (.call "_law_draw" (.ref 1 (.cons (.var 5) .nil)))) .nil))) (.seq (.set 6 (.call "size_after" (.cons (.var 3) (.cons (.var 8) (.cons (.var 9) .nil))))) (.for_ (.one 7) (.range1 (.kI 4)) (.ite (.cmp .IsNot (.var 6) .kN) (.seq (.par [11, 12] (.cons (.call "_law_draw" (.ref 1 (.cons (.idx (.var 6) (.kI 0)) .nil))) (.cons (.call "_law_draw" (.ref 1 (.cons (.idx (.var 6) (.kI 1)) .nil))) .nil))) (.seq (.set 10 (.call "source" (.cons (.var 3) (.cons (.var 8) (.cons (.var 9) (.cons (.var 11) (.cons (.var 12) .nil))))))) (.seq (.ite (.not (.truth (.call "_law_like" (.cons (.var 10) (.cons (.call "_law_from" (.cons (.var 3) (.cons (.var 8) (.cons (.var 9) (.cons (.var 11) (.cons (.var 12) .nil)))))) .nil))))) (.ret (.kB false)) .skip) (.ite (.not (.truth (.var 4))) (.seq (.setT (.many [14, 15, 16]) (.call "_law_lines" (.cons (.var 8) (.cons (.var 9) (.cons (.var 3) .nil))))) (.seq (.set 13 (.ite (.truth (.var 16)) (.tup (.cons (.idx (.var 14) (.var 12)) (.cons (.idx (.var 15) (.var 11)) .nil))) (.tup (.cons (.idx (.var 14) (.var 11)) (.cons (.idx (.var 15) (.var 12)) .nil))))) (.ite (.not (.truth (.call "_law_like" (.cons (.var 10) (.cons (.ite (.cmp .In .kN (.var 13)) .kN (.var 13)) .nil))))) (.ret (.kB false)) .skip))) .skip)))) .skip)))))))) (.ret (.cmp .Eq (.call "source" (.cons (.tup (.cons (.tup (.cons (.kS "turn") (.cons (.kI 1) .nil))) .nil)) (.cons (.kI 3) (.cons (.kI 2) (.cons (.kI 0) (.cons (.kI 0) .nil)))))) (.tup (.cons (.kI 0) (.cons (.kI 1) .nil)))))))
theorem lenE_3 (e : Ed) (a : Bool) (n : Nat) (he : e.ok) : lenE e a n ≤ 3 * n + 6 := by
  cases e with
  | turn q => show n ≤ _; omega
  | flip d => show n ≤ _; omega
  | trim l t r b => show n - _ ≤ _; omega
  | pad l t r b =>
    show n + (pick a l t + pick a r b) ≤ _
    have h1 := he.1
    have h2 := he.2.1
    have h3 := he.2.2.1
    have h4 := he.2.2.2
    cases a
    · show n + (l + r) ≤ _; omega
    · show n + (t + b) ≤ _; omega
  | corner w k => show min n _ ≤ _; omega
  | enlarge k =>
    show n * k ≤ _
    have : n * k ≤ n * 3 := Nat.mul_le_mul_left _ (by rcases he with rfl | rfl <;> omega)
    omega
  | reduce k =>
    show (n + k - 1) / k ≤ _
    have : (n + k - 1) / k ≤ n + k - 1 := Nat.div_le_self _ _
    rcases he with rfl | rfl <;> omega
theorem szRun_le : ∀ (s : Stk) (z : Sz) (m : Nat), s.ok → z.1 ≤ m → z.2 ≤ m → (szRun s z).1 + 3 ≤ 3 ^ s.length * (m + 3) ∧ (szRun s z).2 + 3 ≤ 3 ^ s.length * (m + 3)
  | [], z, m, _, h1, h2 => by
    show z.1 + 3 ≤ 1 * (m + 3) ∧ z.2 + 3 ≤ 1 * (m + 3)
    omega
  | e :: s, z, m, hs, h1, h2 => by
    have he := hs e List.mem_cons_self
    have q : (szStep e z).1 ≤ 3 * m + 6 ∧ (szStep e z).2 ≤ 3 * m + 6 := by
      by_cases hT : e.isT = true
      · cases e with
        | turn q =>
          show (if q = 2 then z else (z.2, z.1)).1 ≤ _ ∧ (if q = 2 then z else (z.2, z.1)).2 ≤ _
          split
          · omega
          · exact ⟨by show z.2 ≤ _; omega, by show z.1 ≤ _; omega⟩
        | _ => cases hT
      · have hT : e.isT = false := by simpa using hT
        rw [szStep_line hT]
        have a1 := lenE_3 e false z.1 he
        have a2 := lenE_3 e true z.2 he
        exact ⟨by show lenE e false z.1 ≤ _; omega, by show lenE e true z.2 ≤ _; omega⟩
    have ih := szRun_le s (szStep e z) (3 * m + 6) (fun z hz => hs z (List.mem_cons_of_mem _ hz)) q.1 q.2
    have hp : 3 ^ (e :: s).length * (m + 3) = 3 ^ s.length * (3 * m + 6 + 3) := by
      rw [List.length_cons, Nat.pow_succ, Nat.mul_assoc]
      congr 1
    rw [hp]
    exact ih
theorem szEnd_run {s : Stk} {z y : Sz} (h : szEnd s z = some y) : y = szRun s z ∧ 0 < y.1 ∧ 0 < y.2 := by
  unfold szEnd at h
  split at h
  · cases h
  · rename_i hn
    cases h
    refine ⟨rfl, ?_⟩
    have hz : zeroB (szRun s z) = false := by
      cases q : zeroB (szRun s z) with
      | false => rfl
      | true =>
        exfalso
        apply hn
        rw [List.any_eq_true]
        refine ⟨szRun s z, ?_, q⟩
        unfold szAll
        rw [List.mem_map]
        exact ⟨s.length, List.mem_range.mpr (by omega), by rw [List.take_length]⟩
    unfold zeroB at hz
    simp only [Bool.or_eq_false_iff, decide_eq_false_iff_not] at hz
    omega
theorem plc_in {n : Nat} {xs : List D} (h : ∀ x ∈ xs, InR n x) {p : Nat} (hp : p < xs.length) : plcO xs (some p) = .none ∨ ∃ k : Nat, plcO xs (some p) = .int k := by
  have h1 := getD_at hp
  rcases h _ (List.mem_of_getElem? h1) with q | ⟨k, q, _⟩
  · exact .inl q
  · exact .inr ⟨k, q⟩
theorem plc_idx {xs : List D} {p : Nat} (hp : p < xs.length) : idxD (.list xs) (.int p) = some (plcO xs (some p)) := atI_nat' (getD_at hp)
/-- two places told together -/
theorem two_told {x y : D} (hx : x = .none ∨ ∃ k : Nat, x = .int k) (hy : y = .none ∨ ∃ k : Nat, y = .int k) : ∃ b : Bool, cmpX .In .none (.tuple [x, y]) = some b ∧
    (b = true → ∀ sw C R c r, plcO C (some c) = (if sw then y else x) → plcO R (some r) = (if sw then x else y) → look C R sw c r = none) ∧
    (b = false → ∃ i j : Nat, x = .int i ∧ y = .int j ∧ ∀ sw C R c r, plcO C (some c) = (if sw then y else x) → plcO R (some r) = (if sw then x else y) → look C R sw c r = some (i, j)) := by
  rcases hx with rfl | ⟨i, rfl⟩ <;> rcases hy with rfl | ⟨j, rfl⟩
  · refine ⟨true, by rw [c_inT rfl rfl]; rfl, fun _ sw C R c r h1 h2 => look_none _ _ _ _ _ ?_, fun h => by cases h⟩
    cases sw <;> exact .inl h1
  · refine ⟨true, by rw [c_inT rfl rfl]; rfl, fun _ sw C R c r h1 h2 => look_none _ _ _ _ _ ?_, fun h => by cases h⟩
    cases sw
    · exact .inl h1
    · exact .inr h2
  · refine ⟨true, by rw [c_inT rfl rfl]; rfl, fun _ sw C R c r h1 h2 => look_none _ _ _ _ _ ?_, fun h => by cases h⟩
    cases sw
    · exact .inr h2
    · exact .inl h1
  · refine ⟨false, by rw [c_inT rfl rfl]; rfl, fun h => (by cases h), fun _ => ⟨i, j, rfl, rfl, fun sw C R c r h1 h2 => ?_⟩⟩
    unfold look
    rw [h1, h2]
    cases sw
    · show some ((i : Int).toNat, (j : Int).toNat) = _
      simp
    · show some ((i : Int).toNat, (j : Int).toNat) = _
      simp
section
variable {Φ : Phi} {Γ : Str → Option D}
theorem k12_small {Fl Fk : FSem} (hl : Φ "_law_lines" = some Fl) (hk : Φ "_law_like" = some Fk) (sl : SpLawLines Fl) (sk : SpLike 1 Fk) {s : Stk} (hs : s.ok) (l6 : s.length ≤ 6) {w h c r : Nat} (w0 : 0 < w) (h0 : 0 < h) (w9 : w ≤ 12) (h9 : h ≤ 12)
    (hsome : (szEnd s (w, h)).isSome = true) (hin : Ins (szRun s (w, h)) c r) {s0 s1 s2 s4 s5 s6 s7 x13 x14 x15 x16 : Sl} {Q : Out → Env → Prop} (hvb : vb x13 ∧ vb x14 ∧ vb x15 ∧ vb x16)
    (hq : ∀ x13 x14 x15 x16, (vb x13 ∧ vb x14 ∧ vb x15 ∧ vb x16) → Q .nx [s0, s1, s2, .val s.d, s4, s5, s6, s7, .val (.int w), .val (.int h), .val (oSz (srcB s (w, h) c r)), .val (.int c), .val (.int r), x13, x14, x15, x16]) :
    Ends Φ Γ (.seq (.setT (.many [14, 15, 16]) (.call "_law_lines" (.cons (.var 8) (.cons (.var 9) (.cons (.var 3) .nil))))) (.seq (.set 13 (.ite (.truth (.var 16)) (.tup (.cons (.idx (.var 14) (.var 12)) (.cons (.idx (.var 15) (.var 11)) .nil))) (.tup (.cons (.idx (.var 14) (.var 11)) (.cons (.idx (.var 15) (.var 12)) .nil))))) (.ite (.not (.truth (.call "_law_like" (.cons (.var 10) (.cons (.ite (.cmp .In .kN (.var 13)) .kN (.var 13)) .nil))))) (.ret (.kB false)) .skip))) [s0, s1, s2, .val s.d, s4, s5, s6, s7, .val (.int w), .val (.int h), .val (oSz (srcB s (w, h) c r)), .val (.int c), .val (.int r), x13, x14, x15, x16] Q := by
  obtain ⟨hx13, hx14, hx15, hx16⟩ := hvb
  have hf : Fit w h s := ⟨w0, h0, 12, w9, h9, by
    have : 3 ^ s.length * (12 + 3) ≤ 3 ^ 6 * (12 + 3) := pow_mono3 l6
    omega⟩
  have e4 := sl w h s hs hf
  have hse := szEnd_lines hs w0 h0
  have hLin := linesA_in (w := w) (h := h) hs
  have c2 := sk _ (lk_sz (srcB s (w, h) c r))
  generalize hL : linesA w h s = L at e4 hse hLin
  obtain ⟨C', R', sw⟩ := L
  have hex : (∃ C, C' = some C) ∧ ∃ R, R' = some R := by
    rw [hse] at hsome
    cases C' with
    | none => cases hsome
    | some C => cases R' with
      | none => cases hsome
      | some R => exact ⟨⟨C, rfl⟩, R, rfl⟩
  obtain ⟨⟨C, rfl⟩, R, rfl⟩ := hex
  have hz := szEnd_len hs w0 h0 hL
  rw [hz] at hin
  have hsrc := src_look w0 h0 s.length s rfl hs hL hin
  have hC : ∀ x ∈ C, InR _ x := hLin.1 C rfl
  have hR : ∀ x ∈ R, InR _ x := hLin.2 R rfl
  have pC := plc_in hC hin.1
  have pR := plc_in hR hin.2
  have iC := plc_idx hin.1
  have iR := plc_idx hin.2
  generalize srcB s (w, h) c r = v at hsrc c2 hq ⊢
  obtain ⟨X, Y, hXY, hpair⟩ : ∃ X Y : D, (∃ b : Bool, cmpX .In .none (.tuple [X, Y]) = some b ∧ (b = true → v = none) ∧ (b = false → ∃ i j : Nat, X = .int i ∧ Y = .int j ∧ v = some (i, j))) ∧
      ∀ ρ : Env, ρ[11]? = some (.val (.int c)) → ρ[12]? = some (.val (.int r)) → ρ[14]? = some (.val (ownL (some C, some R, sw)).1.d) → ρ[15]? = some (.val (ownL (some C, some R, sw)).2.1.d) → ρ[16]? = some (.val (.bool sw)) → ev Φ Γ (.ite (.truth (.var 16)) (.tup (.cons (.idx (.var 14) (.var 12)) (.cons (.idx (.var 15) (.var 11)) .nil))) (.tup (.cons (.idx (.var 14) (.var 11)) (.cons (.idx (.var 15) (.var 12)) .nil)))) ρ = some (.tuple [X, Y], ρ) := by
    cases sw with
    | false =>
      obtain ⟨b, b1, b2, b3⟩ := two_told pC pR
      refine ⟨plcO C (some c), plcO R (some r), ⟨b, b1, fun hb => by rw [hsrc]; exact b2 hb false C R c r rfl rfl, fun hb => ?_⟩, fun ρ h11 h12 h14 h15 h16 => ?_⟩
      · obtain ⟨i, j, x1, x2, x3⟩ := b3 hb
        exact ⟨i, j, x1, x2, by rw [hsrc]; exact x3 false C R c r rfl rfl⟩
      · exact ev_iteF (ev_truth (ev_var h16)) rfl (ev_tup (el_cons (ev_idx (ev_var h14) (ev_var h11) iC) (el_cons (ev_idx (ev_var h15) (ev_var h12) iR) el_nil)) (len_dec (n := 2) rfl rfl))
    | true =>
      obtain ⟨b, b1, b2, b3⟩ := two_told pR pC
      refine ⟨plcO R (some r), plcO C (some c), ⟨b, b1, fun hb => by rw [hsrc]; exact b2 hb true C R c r rfl rfl, fun hb => ?_⟩, fun ρ h11 h12 h14 h15 h16 => ?_⟩
      · obtain ⟨i, j, x1, x2, x3⟩ := b3 hb
        exact ⟨i, j, x1, x2, by rw [hsrc]; exact x3 true C R c r rfl rfl⟩
      · exact ev_iteT (ev_truth (ev_var h16)) rfl (ev_tup (el_cons (ev_idx (ev_var h14) (ev_var h12) iR) (el_cons (ev_idx (ev_var h15) (ev_var h11) iC) el_nil)) (len_dec (n := 2) rfl rfl))
  clear hsrc pC pR iC iR hC hR
  generalize (ownL (some C, some R, sw)).1.d = d14 at e4 hpair
  generalize (ownL (some C, some R, sw)).2.1.d = d15 at e4 hpair
  apply en_seq
  apply en_setT (ρ2 := [s0, s1, s2, .val s.d, s4, s5, s6, s7, .val (.int w), .val (.int h), .val (oSz v), .val (.int c), .val (.int r), x13, .val d14, .val d15, .val (.bool sw)])
  · exact ev_call (ea_cons (ev_var rfl) (ea_cons (ev_var rfl) (ea_cons (ev_var rfl) ea_nil))) hl rfl e4 List.nodup_nil rfl
  · show (setV 14 _ _).bind _ = _
    rw [setV_vb rfl hx14]
    show (setV 15 _ _).bind _ = _
    rw [setV_vb rfl hx15]
    show (setV 16 _ _).bind _ = _
    rw [setV_vb rfl hx16]; rfl
  apply sq_nx
  apply en_seq
  apply en_set (ρ2 := [s0, s1, s2, .val s.d, s4, s5, s6, s7, .val (.int w), .val (.int h), .val (oSz v), .val (.int c), .val (.int r), .val (.tuple [X, Y]), .val d14, .val d15, .val (.bool sw)])
  · exact hpair _ rfl rfl rfl rfl rfl
  · rcases hx13 with rfl | ⟨d, rfl⟩ <;> rfl
  apply sq_nx
  obtain ⟨b, b1, b2, b3⟩ := hXY
  have hlast : ∀ ρ : Env, ρ[13]? = some (.val (.tuple [X, Y])) → ev Φ Γ (.ite (.cmp .In .kN (.var 13)) .kN (.var 13)) ρ = some (oSz v, ρ) := fun ρ h13 => by
    cases b with
    | true =>
      rw [b2 rfl]
      exact ev_iteT (ev_cmp ev_kN (ev_var h13) b1) rfl ev_kN
    | false =>
      obtain ⟨i, j, rfl, rfl, rfl⟩ := b3 rfl
      exact ev_iteF (ev_cmp ev_kN (ev_var h13) b1) rfl (ev_var h13)
  apply en_iteF
  · exact ev_not (ev_truth (ev_call (ea_cons (ev_var rfl) (ea_cons (hlast _ rfl) ea_nil)) hk rfl c2 List.nodup_nil rfl))
  · rfl
  apply en_skip
  exact hq _ _ _ _ ⟨vb_val _, vb_val _, vb_val _, vb_val _⟩
theorem runs_k12 {Fs Fd Fz Fo Ff Fl Fk : FSem} (hs : Φ "_law_stack" = some Fs) (hd : Φ "_law_draw" = some Fd) (hz : Φ "size_after" = some Fz) (ho : Φ "source" = some Fo) (hf : Φ "_law_from" = some Ff) (hl : Φ "_law_lines" = some Fl) (hk : Φ "_law_like" = some Fk)
    (ss : SpStack Fs) (sd : SpDraw Fd) (sz : SpSizeAfter Fz) (so : SpSource Fo) (sf : SpFrom 6 Ff) (sl : SpLawLines Fl) (sk : SpLike 1 Fk) (ns : List Int) (hn : ns.length ≤ 63) : ∃ out, runF Φ Γ 1 17 t_law_k12b [.scr ns] = some (.bool true, out) := by
  suffices h : ∃ d a', runF Φ Γ 1 17 t_law_k12b [.scr ns] = some (d, a') ∧ d = .bool true by
    obtain ⟨d, a', e, rfl⟩ := h
    exact ⟨a', e⟩
  refine runF_ex rfl ?_
  unfold t_law_k12b
  apply en_seq
  apply en_setO (ds := tapeD ns 0 0)
  · exact ev_lst (el_cons (ev_scr rfl) (el_cons ev_kI (el_cons ev_kI el_nil))) (len_dec (n := 3) rfl rfl)
  · exact rfl
  apply sq_nx
  apply en_seq
  apply en_for (ds := rangeD 0 8 1) (fun _ ρ => ∃ (ts : List D) (x2 x3 x4 x5 x6 x7 x8 x9 x10 x11 x12 x13 x14 x15 x16 : Sl), Tape ts ∧ (vb x2 ∧ vb x3 ∧ vb x4 ∧ vb x5 ∧ vb x6 ∧ vb x7 ∧ vb x8 ∧ vb x9 ∧ vb x10 ∧ vb x11 ∧ vb x12 ∧ vb x13 ∧ vb x14 ∧ vb x15 ∧ vb x16) ∧ ρ = [.scr ns, .own ts, x2, x3, x4, x5, x6, x7, x8, x9, x10, x11, x12, x13, x14, x15, x16])
  · exact ei_r1 (j := 8) ev_kI (by omega)
  · exact ⟨tapeD ns 0 0, .non, .non, .non, .non, .non, .non, .non, .non, .non, .non, .non, .non, .non, .non, .non, ⟨ns, 0, 0, rfl⟩, ⟨.inl rfl, .inl rfl, .inl rfl, .inl rfl, .inl rfl, .inl rfl, .inl rfl, .inl rfl, .inl rfl, .inl rfl, .inl rfl, .inl rfl, .inl rfl, .inl rfl, .inl rfl⟩, rfl⟩
  · rintro i d ρ - ⟨ts, x2, x3, x4, x5, x6, x7, x8, x9, x10, x11, x12, x13, x14, x15, x16, hT, ⟨hx2, hx3, hx4, hx5, hx6, hx7, hx8, hx9, hx10, hx11, hx12, hx13, hx14, hx15, hx16⟩, rfl⟩
    refine ⟨[.scr ns, .own ts, .val d, x3, x4, x5, x6, x7, x8, x9, x10, x11, x12, x13, x14, x15, x16], sv_one (setV_vb rfl hx2), ?_⟩
    obtain ⟨s, ts1, hso, ht1, e1⟩ := ss ts 6 hT (by omega)
    have l6 := hso.len6
    apply en_seq
    apply en_set (ρ2 := [.scr ns, .own ts1, .val d, .val s.d, x4, x5, x6, x7, x8, x9, x10, x11, x12, x13, x14, x15, x16])
    · (law_purse 1 => exact e1)
    · rcases hx3 with rfl | ⟨d, rfl⟩ <;> rfl
    apply sq_nx
    refine en_for (ds := [.bool false, .bool true]) (fun _ ρ => ∃ (ts : List D) (x4 x5 x6 x7 x8 x9 x10 x11 x12 x13 x14 x15 x16 : Sl), Tape ts ∧ (vb x4 ∧ vb x5 ∧ vb x6 ∧ vb x7 ∧ vb x8 ∧ vb x9 ∧ vb x10 ∧ vb x11 ∧ vb x12 ∧ vb x13 ∧ vb x14 ∧ vb x15 ∧ vb x16) ∧ ρ = [.scr ns, .own ts, .val d, .val s.d, x4, x5, x6, x7, x8, x9, x10, x11, x12, x13, x14, x15, x16]) (ei_seq (ev_tup (el_cons ev_kB (el_cons ev_kB el_nil)) (len_dec (n := 2) rfl rfl)) rfl) ⟨ts1, x4, x5, x6, x7, x8, x9, x10, x11, x12, x13, x14, x15, x16, ht1, ⟨hx4, hx5, hx6, hx7, hx8, hx9, hx10, hx11, hx12, hx13, hx14, hx15, hx16⟩, rfl⟩ (fun j e ρ he hj => ?_) (fun ρ hρ => ?_)
    · obtain ⟨ts, x4, x5, x6, x7, x8, x9, x10, x11, x12, x13, x14, x15, x16, hT, ⟨hx4, hx5, hx6, hx7, hx8, hx9, hx10, hx11, hx12, hx13, hx14, hx15, hx16⟩, rfl⟩ := hj
      have hb : ∃ b : Bool, e = .bool b := by
        match j, he with
        | 0, he => cases he; exact ⟨_, rfl⟩
        | 1, he => cases he; exact ⟨_, rfl⟩
        | j + 2, he => cases he
      obtain ⟨b, rfl⟩ := hb
      refine ⟨[.scr ns, .own ts, .val d, .val s.d, .val (.bool b), x5, x6, x7, x8, x9, x10, x11, x12, x13, x14, x15, x16], sv_one (setV_vb rfl hx4), ?_⟩
      have hmost : ∀ ρ : Env, ρ[4]? = some (.val (.bool b)) → ev Φ Γ (.ite (.truth (.var 4)) (.bin .Pow (.kI 10) (.kI 15)) (.kI 9)) ρ = some (.int ((if b then 1000000000000000 else 9 : Nat) : Int), ρ) := fun ρ h4 => by
        cases b
        · exact ev_iteF (ev_truth (ev_var h4)) rfl ev_kI
        · exact ev_iteT (ev_truth (ev_var h4)) rfl (ev_bin ev_kI ev_kI o_pow15)
      have hm0 : 0 < (if b then 1000000000000000 else 9 : Nat) ∧ (if b then 1000000000000000 else 9 : Nat) ≤ 1000000000000000 ∧ (b = false → (if b then 1000000000000000 else 9 : Nat) = 9) := by cases b <;> simp
      generalize (if b then 1000000000000000 else 9 : Nat) = m at hmost hm0
      obtain ⟨m0, m1, m2⟩ := hm0
      apply en_seq
      apply en_set (ρ2 := [.scr ns, .own ts, .val d, .val s.d, .val (.bool b), .val (.int m), x6, x7, x8, x9, x10, x11, x12, x13, x14, x15, x16])
      · exact hmost _ rfl
      · rcases hx5 with rfl | ⟨d, rfl⟩ <;> rfl
      apply sq_nx
      obtain ⟨n1, ts2, hn1, ht2, e2⟩ := sd ts m hT m0 (by omega)
      obtain ⟨n2, ts3, hn2, ht3, e3⟩ := sd ts2 m ht2 m0 (by omega)
      generalize hwe : 1 + n1 = w
      generalize hhe : 1 + n2 = h
      have a1 := o_one n1 w hwe
      have a2 := o_one n2 h hhe
      apply en_seq
      apply en_par (ds := [.int w, .int h]) (ρ1 := [.scr ns, .own ts3, .val d, .val s.d, .val (.bool b), .val (.int m), x6, x7, x8, x9, x10, x11, x12, x13, x14, x15, x16]) (ρ2 := [.scr ns, .own ts3, .val d, .val s.d, .val (.bool b), .val (.int m), x6, x7, .val (.int w), .val (.int h), x10, x11, x12, x13, x14, x15, x16])
      · exact el_cons (ev_bin ev_kI (ev_call (ea_ref rfl (ea_cons (ev_var rfl) ea_nil)) hd rfl e2 (nod1 _) rfl) a1) (el_cons (ev_bin ev_kI (ev_call (ea_ref rfl (ea_cons (ev_var rfl) ea_nil)) hd rfl e3 (nod1 _) rfl) a2) el_nil)
      · show (setV 8 _ _).bind _ = _
        rw [setV_vb rfl hx8]
        show (setV 9 _ _).bind _ = _
        rw [setV_vb rfl hx9]; rfl
      apply sq_nx
      have e4 := sz w h s hso.ok (by omega)
      apply en_seq
      apply en_set (ρ2 := [.scr ns, .own ts3, .val d, .val s.d, .val (.bool b), .val (.int m), .val (oSz (szEnd s (w, h))), x7, .val (.int w), .val (.int h), x10, x11, x12, x13, x14, x15, x16])
      · exact ev_call (ea_cons (ev_var rfl) (ea_cons (ev_var rfl) (ea_cons (ev_var rfl) ea_nil))) hz rfl e4 List.nodup_nil rfl
      · rcases hx6 with rfl | ⟨d, rfl⟩ <;> rfl
      apply sq_nx
      refine en_for (ds := rangeD 0 4 1) (fun _ ρ => ∃ (ts : List D) (x7 x10 x11 x12 x13 x14 x15 x16 : Sl), Tape ts ∧ (vb x7 ∧ vb x10 ∧ vb x11 ∧ vb x12 ∧ vb x13 ∧ vb x14 ∧ vb x15 ∧ vb x16) ∧ ρ = [.scr ns, .own ts, .val d, .val s.d, .val (.bool b), .val (.int m), .val (oSz (szEnd s (w, h))), x7, .val (.int w), .val (.int h), x10, x11, x12, x13, x14, x15, x16]) (ei_r1 (j := 4) ev_kI (by omega)) ⟨ts3, x7, x10, x11, x12, x13, x14, x15, x16, ht3, ⟨hx7, hx10, hx11, hx12, hx13, hx14, hx15, hx16⟩, rfl⟩ (fun k e ρ he hk' => ?_) (fun ρ hρ => ?_)
      · obtain ⟨ts, x7, x10, x11, x12, x13, x14, x15, x16, hT, ⟨hx7, hx10, hx11, hx12, hx13, hx14, hx15, hx16⟩, rfl⟩ := hk'
        refine ⟨[.scr ns, .own ts, .val d, .val s.d, .val (.bool b), .val (.int m), .val (oSz (szEnd s (w, h))), .val e, .val (.int w), .val (.int h), x10, x11, x12, x13, x14, x15, x16], sv_one (setV_vb rfl hx7), ?_⟩
        cases hse : szEnd s (w, h) with
        | none =>
          apply en_iteF
          · exact ev_cmp (ev_var rfl) ev_kN c_isn
          · rfl
          apply en_skip
          exact ⟨ts, _, _, _, _, _, _, _, _, hT, ⟨vb_val _, hx10, hx11, hx12, hx13, hx14, hx15, hx16⟩, rfl⟩
        | some z =>
          obtain ⟨zr, z1, z2⟩ := szEnd_run hse
          have hbnd := szRun_le s (w, h) (m + 1) hso.ok (by show w ≤ _; omega) (by show h ≤ _; omega)
          rw [← zr] at hbnd
          have hpw : 3 ^ s.length * (m + 1 + 3) ≤ 3 ^ 6 * (m + 1 + 3) := pow_mono3 l6
          have hb9 : 3 ^ 6 * (m + 1 + 3) < 9223372036854775808 := by omega
          obtain ⟨c, ts4, hc, ht4, e5⟩ := sd ts z.1 hT z1 (by omega)
          obtain ⟨r, ts5, hr, ht5, e6⟩ := sd ts4 z.2 ht4 z2 (by omega)
          have hin : Ins (szRun s (w, h)) c r := by rw [← zr]; exact ⟨hc, hr⟩
          have hsome : (szEnd s (w, h)).isSome = true := by rw [hse]; rfl
          have e7 := so s w h c r hso.ok (by omega) hin
          have e8 := sf s w h c r hso.ok l6 (by omega) hsome hin
          have c2 := sk _ (lk_sz (srcB s (w, h) c r))
          apply en_iteT
          · exact ev_cmp (ev_var rfl) ev_kN c_isn
          · rfl
          apply en_seq
          apply en_par (ds := [.int c, .int r]) (ρ1 := [.scr ns, .own ts5, .val d, .val s.d, .val (.bool b), .val (.int m), .val (oSz (some z)), .val e, .val (.int w), .val (.int h), x10, x11, x12, x13, x14, x15, x16]) (ρ2 := [.scr ns, .own ts5, .val d, .val s.d, .val (.bool b), .val (.int m), .val (oSz (some z)), .val e, .val (.int w), .val (.int h), x10, .val (.int c), .val (.int r), x13, x14, x15, x16])
          · exact el_cons (ev_call (ea_ref rfl (ea_cons (ev_idx (ev_var rfl) ev_kI (sz_idx z).1) ea_nil)) hd rfl e5 (nod1 _) rfl) (el_cons (ev_call (ea_ref rfl (ea_cons (ev_idx (ev_var rfl) ev_kI (sz_idx z).2) ea_nil)) hd rfl e6 (nod1 _) rfl) el_nil)
          · show (setV 11 _ _).bind _ = _
            rw [setV_vb rfl hx11]
            show (setV 12 _ _).bind _ = _
            rw [setV_vb rfl hx12]; rfl
          apply sq_nx
          apply en_seq
          apply en_set (ρ2 := [.scr ns, .own ts5, .val d, .val s.d, .val (.bool b), .val (.int m), .val (oSz (some z)), .val e, .val (.int w), .val (.int h), .val (oSz (srcB s (w, h) c r)), .val (.int c), .val (.int r), x13, x14, x15, x16])
          · exact ev_call (ea_cons (ev_var rfl) (ea_cons (ev_var rfl) (ea_cons (ev_var rfl) (ea_cons (ev_var rfl) (ea_cons (ev_var rfl) ea_nil))))) ho rfl e7 List.nodup_nil rfl
          · rcases hx10 with rfl | ⟨d, rfl⟩ <;> rfl
          apply sq_nx
          apply en_seq
          apply en_iteF
          · exact ev_not (ev_truth (ev_call (ea_cons (ev_var rfl) (ea_cons (ev_call (ea_cons (ev_var rfl) (ea_cons (ev_var rfl) (ea_cons (ev_var rfl) (ea_cons (ev_var rfl) (ea_cons (ev_var rfl) ea_nil))))) hf rfl e8 List.nodup_nil rfl) ea_nil)) hk rfl c2 List.nodup_nil rfl))
          · rfl
          apply en_skip
          apply sq_nx
          cases b with
          | true =>
            apply en_iteF
            · exact ev_not (ev_truth (ev_var rfl))
            · rfl
            apply en_skip
            exact ⟨ts5, _, _, _, _, _, _, _, _, ht5, ⟨vb_val _, vb_val _, vb_val _, vb_val _, hx13, hx14, hx15, hx16⟩, rfl⟩
          | false =>
            have m9 := m2 rfl
            apply en_iteT
            · exact ev_not (ev_truth (ev_var rfl))
            · rfl
            refine k12_small hl hk sl sk hso.ok l6 (by omega) (by omega) (by omega) (by omega) hsome hin ⟨hx13, hx14, hx15, hx16⟩ ?_
            intro x13 x14 x15 x16 hvb
            exact ⟨ts5, _, _, _, _, _, _, _, _, ht5, ⟨vb_val _, vb_val _, vb_val _, vb_val _, hvb⟩, rfl⟩
      · obtain ⟨ts, x7, x10, x11, x12, x13, x14, x15, x16, hT, ⟨hx7, hx10, hx11, hx12, hx13, hx14, hx15, hx16⟩, rfl⟩ := hρ
        exact ⟨ts, _, _, _, _, _, _, _, _, _, _, _, _, _, hT, ⟨vb_val _, vb_val _, vb_val _, hx7, vb_val _, vb_val _, hx10, hx11, hx12, hx13, hx14, hx15, hx16⟩, rfl⟩
    · obtain ⟨ts, x4, x5, x6, x7, x8, x9, x10, x11, x12, x13, x14, x15, x16, hT, ⟨hx4, hx5, hx6, hx7, hx8, hx9, hx10, hx11, hx12, hx13, hx14, hx15, hx16⟩, rfl⟩ := hρ
      exact ⟨ts, _, _, _, _, _, _, _, _, _, _, _, _, _, _, _, hT, ⟨vb_val _, vb_val _, hx4, hx5, hx6, hx7, hx8, hx9, hx10, hx11, hx12, hx13, hx14, hx15, hx16⟩, rfl⟩
  · rintro ρ ⟨ts, x2, x3, x4, x5, x6, x7, x8, x9, x10, x11, x12, x13, x14, x15, x16, hT, ⟨hx2, hx3, hx4, hx5, hx6, hx7, hx8, hx9, hx10, hx11, hx12, hx13, hx14, hx15, hx16⟩, rfl⟩
    apply sq_nx
    have o1 : Ed.ok (.turn 1) := ⟨by omega, by omega⟩
    have c1 := so [.turn 1] 3 2 0 0 (ok_one o1) (by decide) ⟨by decide, by decide⟩
    have c2 : oSz (srcB [.turn 1] (3, 2) 0 0) = .tuple [.int 0, .int 1] := by rfl
    rw [c2] at c1
    apply en_ret
    · (law_purse 1 => first | exact c1 | exact c_eq (a := .tuple [.int 0, .int 1]) (b := .tuple [.int 0, .int 1]) rfl rfl)
    · exact ⟨_, rfl, rfl⟩
end

set_option maxHeartbeats 0
namespace K12
open PySem PySem.Spec PyProof.Rows L2 L2.Px
def top (i : Nat) : Stmt := PySem.Challenge.pw_editstacks_k12_whole_sources.main.body.getD i (.Pass ⟨0, 0, 0, 0⟩)
def r_length_edited : Row := ⟨"length_edited", ["length", "edit", "at"], ["length", "edit", "at", "word", "both"], [], [], [], top 1, t_length_edited⟩
theorem ok_length_edited : RowOk r_length_edited := ⟨⟨rfl, rfl, rfl, by decide +kernel, rfl, by decide +kernel, by decide +kernel⟩, by decide +kernel, fun _ _ _ _ _ _ us hl => match us, hl with | [_, _, _], _ => rfl, by decide +kernel⟩
def r_sizes : Row := ⟨"sizes", ["width", "height", "stack"], ["width", "height", "stack", "found", "edit"], [3], [3], [], top 2, t_sizes⟩
theorem ok_sizes : RowOk r_sizes := ⟨⟨rfl, rfl, rfl, by decide +kernel, rfl, by decide +kernel, by decide +kernel⟩, by decide +kernel, fun _ _ _ _ _ _ us hl => match us, hl with | [_, _, _], _ => rfl, by decide +kernel⟩
def r_size_after : Row := ⟨"size_after", ["stack", "width", "height"], ["stack", "width", "height", "some", "size"], [], [], [], top 3, t_size_after⟩
theorem ok_size_after : RowOk r_size_after := ⟨⟨rfl, rfl, rfl, by decide +kernel, rfl, by decide +kernel, by decide +kernel⟩, by decide +kernel, fun _ _ _ _ _ _ us hl => match us, hl with | [_, _, _], _ => rfl, by decide +kernel⟩
def r_place_before : Row := ⟨"place_before", ["place", "length", "edit", "at"], ["place", "length", "edit", "at", "word"], [], [], [], top 4, t_place_before⟩
theorem ok_place_before : RowOk r_place_before := ⟨⟨rfl, rfl, rfl, by decide +kernel, rfl, by decide +kernel, by decide +kernel⟩, by decide +kernel, fun _ _ _ _ _ _ us hl => match us, hl with | [_, _, _, _], _ => rfl, by decide +kernel⟩
def r_turn_before : Row := ⟨"turn_before", ["column", "row", "size", "quarters"], ["column", "row", "size", "quarters", "turn"], [], [], [], top 5, t_turn_before⟩
theorem ok_turn_before : RowOk r_turn_before := ⟨⟨rfl, rfl, rfl, by decide +kernel, rfl, by decide +kernel, by decide +kernel⟩, by decide +kernel, fun _ _ _ _ _ _ us hl => match us, hl with | [_, _, _, _], _ => rfl, by decide +kernel⟩
def r_source : Row := ⟨"source", ["stack", "width", "height", "column", "row"], ["stack", "width", "height", "column", "row", "some", "edit", "before", "now"], [], [], [], top 6, t_sourceb⟩
theorem ok_source : RowOk r_source := ⟨⟨rfl, rfl, rfl, by decide +kernel, rfl, by decide +kernel, by decide +kernel⟩, by decide +kernel, fun _ _ _ _ _ _ us hl => match us, hl with | [_, _, _, _, _], _ => rfl, by decide +kernel⟩
def r_law_draw : Row := ⟨"_law_draw", ["tape", "many"], ["tape", "many", "prime", "found", "cell"], [0], [0], [], top 8, t_law_draw⟩
theorem ok_law_draw : RowOk r_law_draw := ⟨⟨rfl, rfl, rfl, by decide +kernel, rfl, by decide +kernel, by decide +kernel⟩, by decide +kernel, fun _ _ _ _ _ _ us hl => match us, hl with | [_, _], _ => rfl, by decide +kernel⟩
def r_law_like : Row := ⟨"_law_like", ["one", "two"], ["one", "two", "k"], [], [], [], top 9, t_law_like⟩
theorem ok_law_like : RowOk r_law_like := ⟨⟨rfl, rfl, rfl, by decide +kernel, rfl, by decide +kernel, by decide +kernel⟩, by decide +kernel, fun _ _ _ _ _ _ us hl => match us, hl with | [_, _], _ => rfl, by decide +kernel⟩
def r_law_few : Row := ⟨"_law_few", ["tape"], ["tape"], [0], [0], [], top 10, t_law_few⟩
theorem ok_law_few : RowOk r_law_few := ⟨⟨rfl, rfl, rfl, by decide +kernel, rfl, by decide +kernel, by decide +kernel⟩, by decide +kernel, fun _ _ _ _ _ _ us hl => match us, hl with | [_], _ => rfl, by decide +kernel⟩
def r_law_edit : Row := ⟨"_law_edit", ["tape"], ["tape", "way", "word"], [0], [0], [], top 11, t_law_edit⟩
theorem ok_law_edit : RowOk r_law_edit := ⟨⟨rfl, rfl, rfl, by decide +kernel, rfl, by decide +kernel, by decide +kernel⟩, by decide +kernel, fun _ _ _ _ _ _ us hl => match us, hl with | [_], _ => rfl, by decide +kernel⟩
def r_law_fits : Row := ⟨"_law_fits", ["stack"], ["stack", "words", "edit"], [], [], [], top 12, t_law_fits⟩
theorem ok_law_fits : RowOk r_law_fits := ⟨⟨rfl, rfl, rfl, by decide +kernel, rfl, by decide +kernel, by decide +kernel⟩, by decide +kernel, fun _ _ _ _ _ _ us hl => match us, hl with | [_], _ => rfl, by decide +kernel⟩
def r_law_stack : Row := ⟨"_law_stack", ["tape", "most"], ["tape", "most", "found", "turn", "more"], [0], [0], [], top 13, t_law_stack⟩
theorem ok_law_stack : RowOk r_law_stack := ⟨⟨rfl, rfl, rfl, by decide +kernel, rfl, by decide +kernel, by decide +kernel⟩, by decide +kernel, fun _ _ _ _ _ _ us hl => match us, hl with | [_, _], _ => rfl, by decide +kernel⟩
def r_law_lines : Row := ⟨"_law_lines", ["width", "height", "stack"], ["width", "height", "stack", "edit", "lines", "my_turned", "word", "turn", "at", "line", "place"], [4], [4], [], top 14, t_law_lines⟩
theorem ok_law_lines : RowOk r_law_lines := ⟨⟨rfl, rfl, rfl, by decide +kernel, rfl, by decide +kernel, by decide +kernel⟩, by decide +kernel, fun _ _ _ _ _ _ us hl => match us, hl with | [_, _, _], _ => rfl, by decide +kernel⟩
def r_law_weight : Row := ⟨"_law_weight", ["stack"], ["stack", "found", "edit"], [], [], [], top 15, t_law_weight⟩
theorem ok_law_weight : RowOk r_law_weight := ⟨⟨rfl, rfl, rfl, by decide +kernel, rfl, by decide +kernel, by decide +kernel⟩, by decide +kernel, fun _ _ _ _ _ _ us hl => match us, hl with | [_], _ => rfl, by decide +kernel⟩
def r_law_back_in : Row := ⟨"_law_back_in", ["place", "length", "edit", "at"], ["place", "length", "edit", "at", "word", "found"], [], [], [], top 16, t_law_back_in⟩
theorem ok_law_back_in : RowOk r_law_back_in := ⟨⟨rfl, rfl, rfl, by decide +kernel, rfl, by decide +kernel, by decide +kernel⟩, by decide +kernel, fun _ _ _ _ _ _ us hl => match us, hl with | [_, _, _, _], _ => rfl, by decide +kernel⟩
def r_law_from : Row := ⟨"_law_from", ["stack", "width", "height", "column", "row"], ["stack", "width", "height", "column", "row", "front", "edit", "wide", "high", "turn", "one", "other", "rest", "long"], [], [], [], top 17, t_law_from⟩
theorem ok_law_from : RowOk r_law_from := ⟨⟨rfl, rfl, rfl, by decide +kernel, rfl, by decide +kernel, by decide +kernel⟩, by decide +kernel, fun _ _ _ _ _ _ us hl => match us, hl with | [_, _, _, _, _], _ => rfl, by decide +kernel⟩
def r_law : Row := ⟨"law", ["script"], ["script", "tape", "turn", "stack", "big", "most", "size", "ask", "width", "height", "told", "column", "row", "pair", "columns", "rows", "my_turned"], [1], [1], [0], top 18, t_law_k12b⟩
theorem ok_law : RowOk r_law := ⟨⟨rfl, rfl, rfl, by decide +kernel, rfl, by decide +kernel, by decide +kernel⟩, by decide +kernel, fun _ _ _ _ _ _ us hl => match us, hl with | [_], _ => rfl, by decide +kernel⟩
def rows : List Row := [r_law_from, r_law_from, r_law_from, r_law_from, r_law_from, r_law_from, r_law_from, r_law_back_in, r_law_lines, r_law_stack, r_law_weight, r_law_fits, r_law_edit, r_law_few, r_law_like, r_law_like, r_law_draw, r_source, r_turn_before, r_place_before, r_size_after, r_sizes, r_length_edited]
def rds : List Rd1 := [⟨"_law_from", 5, 14, t_law_from⟩, ⟨"_law_from", 5, 14, t_law_from⟩, ⟨"_law_from", 5, 14, t_law_from⟩, ⟨"_law_from", 5, 14, t_law_from⟩, ⟨"_law_from", 5, 14, t_law_from⟩, ⟨"_law_from", 5, 14, t_law_from⟩, ⟨"_law_from", 5, 14, t_law_from⟩, ⟨"_law_back_in", 4, 6, t_law_back_in⟩, ⟨"_law_lines", 3, 11, t_law_lines⟩, ⟨"_law_stack", 2, 5, t_law_stack⟩, ⟨"_law_weight", 1, 3, t_law_weight⟩, ⟨"_law_fits", 1, 3, t_law_fits⟩, ⟨"_law_edit", 1, 3, t_law_edit⟩, ⟨"_law_few", 1, 1, t_law_few⟩, ⟨"_law_like", 2, 3, t_law_like⟩, ⟨"_law_like", 2, 3, t_law_like⟩, ⟨"_law_draw", 2, 5, t_law_draw⟩, ⟨"source", 5, 9, t_sourceb⟩, ⟨"turn_before", 4, 5, t_turn_before⟩, ⟨"place_before", 4, 5, t_place_before⟩, ⟨"size_after", 3, 5, t_size_after⟩, ⟨"sizes", 3, 5, t_sizes⟩, ⟨"length_edited", 3, 5, t_length_edited⟩]
theorem rds_eq : rows.map Row.rd = rds := rfl
theorem oks : ∀ r ∈ r_law :: rows, RowOk r := by
  intro r h
  simp only [rows, List.mem_cons, List.not_mem_nil, or_false] at h
  rcases h with rfl | rfl | rfl | rfl | rfl | rfl | rfl | rfl | rfl | rfl | rfl | rfl | rfl | rfl | rfl | rfl | rfl | rfl | rfl | rfl | rfl | rfl | rfl | rfl
  · exact ok_law
  · exact ok_law_from
  · exact ok_law_from
  · exact ok_law_from
  · exact ok_law_from
  · exact ok_law_from
  · exact ok_law_from
  · exact ok_law_from
  · exact ok_law_back_in
  · exact ok_law_lines
  · exact ok_law_stack
  · exact ok_law_weight
  · exact ok_law_fits
  · exact ok_law_edit
  · exact ok_law_few
  · exact ok_law_like
  · exact ok_law_like
  · exact ok_law_draw
  · exact ok_source
  · exact ok_turn_before
  · exact ok_place_before
  · exact ok_size_after
  · exact ok_sizes
  · exact ok_length_edited
def fn : List He.DefD := [r_length_edited.d, r_sizes.d, r_size_after.d, r_place_before.d, r_turn_before.d, r_source.d, r_law_draw.d, r_law_like.d, r_law_few.d, r_law_edit.d, r_law_fits.d, r_law_stack.d, r_law_lines.d, r_law_weight.d, r_law_back_in.d, r_law_from.d, r_law.d]
def fa : List He.Fa := [.glo "length_edited", .glo "sizes", .glo "size_after", .glo "place_before", .glo "turn_before", .glo "source", .glo "_law_draw", .glo "_law_like", .glo "_law_few", .glo "_law_edit", .glo "_law_fits", .glo "_law_stack", .glo "_law_lines", .glo "_law_weight", .glo "_law_back_in", .glo "_law_from", .glo "law", .free "len", .free "list", .free "tuple", .free "int", .free "sum", .free "any", .free "all", .free "max", .free "min", .free "isinstance", .free "range", .free "zip", .free "enumerate", .free "sorted", .free "set", .free "str", .free "bool"]
abbrev Rw : PySem.W.OpenRow := PySem.W.OpenLaw.row PySem.Challenge.rw_editstacks_k12_whole_sources
abbrev hk : PySem.W.Hook := He.hookD 4 fa fn
def ob (s : PySem.W.SharedT) : He.AlD := He.obsDG 4 fa fn (HandSHeadRun.getT s)
theorem ob_eq (s : PySem.W.SharedT) : ob s = hk.obs s.abs := He.obsDG_eq (HandSHeadRun.getT_eq s)
def loose : List Str := (["length_edited", "sizes", "size_after", "place_before", "turn_before", "source", "_law_draw", "_law_like", "_law_few", "_law_edit", "_law_fits", "_law_stack", "_law_lines", "_law_weight", "_law_back_in", "_law_from"] : List Str)
theorem run (w : World) : HandSHeadRun.RunEq Rw (PySem.W.view Rw.prog [18]) hk ob 4000 loose w := by
  intro os
  kernel_rfl
theorem in_fn : ∀ r ∈ r_law :: rows, r.d ∈ fn := by
  intro r h
  simp only [rows, List.mem_cons, List.not_mem_nil, or_false] at h
  rcases h with rfl | rfl | rfl | rfl | rfl | rfl | rfl | rfl | rfl | rfl | rfl | rfl | rfl | rfl | rfl | rfl | rfl | rfl | rfl | rfl | rfl | rfl | rfl | rfl <;> simp [fn]
theorem in_fa : ∀ r ∈ r_law :: rows, He.Fa.glo r.x ∈ fa := by
  intro r h
  simp only [rows, List.mem_cons, List.not_mem_nil, or_false] at h
  rcases h with rfl | rfl | rfl | rfl | rfl | rfl | rfl | rfl | rfl | rfl | rfl | rfl | rfl | rfl | rfl | rfl | rfl | rfl | rfl | rfl | rfl | rfl | rfl | rfl <;> simp [fa, r_length_edited, r_sizes, r_size_after, r_place_before, r_turn_before, r_source, r_law_draw, r_law_like, r_law_few, r_law_edit, r_law_fits, r_law_stack, r_law_lines, r_law_weight, r_law_back_in, r_law_from, r_law]
theorem in_bl : ∀ b ∈ bltN, He.Fa.free b ∈ fa := by
  intro b h
  simp only [bltN, List.mem_cons, List.not_mem_nil, or_false] at h
  rcases h with rfl | rfl | rfl | rfl | rfl | rfl | rfl | rfl | rfl | rfl | rfl | rfl | rfl | rfl | rfl | rfl | rfl <;> simp [fa]
def Γ : Str → Option D := fun _ => none
abbrev T0 : List Rd1 := []
abbrev T1 : List Rd1 := ⟨"length_edited", 3, 5, t_length_edited⟩ :: T0
theorem S_length_edited : SpLenE (runF (phi Γ T0) Γ 3 5 t_length_edited) := sp_lenE 
abbrev T2 : List Rd1 := ⟨"sizes", 3, 5, t_sizes⟩ :: T1
theorem S_sizes : SpSizes (runF (phi Γ T1) Γ 3 5 t_sizes) := sp_sizes (by (law_purse 10 => fail) : phi Γ T1 "length_edited" = some (runF (phi Γ T0) Γ 3 5 t_length_edited)) S_length_edited
abbrev T3 : List Rd1 := ⟨"size_after", 3, 5, t_size_after⟩ :: T2
theorem S_size_after : SpSizeAfter (runF (phi Γ T2) Γ 3 5 t_size_after) := sp_sizeAfter (by (law_purse 10 => fail) : phi Γ T2 "sizes" = some (runF (phi Γ T1) Γ 3 5 t_sizes)) S_sizes
abbrev T4 : List Rd1 := ⟨"place_before", 4, 5, t_place_before⟩ :: T3
theorem S_place_before : SpPlace (runF (phi Γ T3) Γ 4 5 t_place_before) := sp_place 
abbrev T5 : List Rd1 := ⟨"turn_before", 4, 5, t_turn_before⟩ :: T4
theorem S_turn_before : SpTurnB (runF (phi Γ T4) Γ 4 5 t_turn_before) := sp_turnB 
abbrev T6 : List Rd1 := ⟨"source", 5, 9, t_sourceb⟩ :: T5
theorem S_source : SpSource (runF (phi Γ T5) Γ 5 9 t_sourceb) := sp_source (by (law_purse 10 => fail) : phi Γ T5 "sizes" = some (runF (phi Γ T1) Γ 3 5 t_sizes)) (by (law_purse 10 => fail) : phi Γ T5 "turn_before" = some (runF (phi Γ T4) Γ 4 5 t_turn_before)) (by (law_purse 10 => fail) : phi Γ T5 "place_before" = some (runF (phi Γ T3) Γ 4 5 t_place_before)) S_sizes S_turn_before S_place_before
abbrev T7 : List Rd1 := ⟨"_law_draw", 2, 5, t_law_draw⟩ :: T6
theorem S_law_draw : SpDraw (runF (phi Γ T6) Γ 2 5 t_law_draw) := sp_draw _ _ 
abbrev T8 : List Rd1 := ⟨"_law_like", 2, 3, t_law_like⟩ :: T7
theorem S_law_like0 : SpLike 0 (runF (phi Γ T7) Γ 2 3 t_law_like) := sp_like0
abbrev T9 : List Rd1 := ⟨"_law_like", 2, 3, t_law_like⟩ :: T8
theorem S_law_like1 : SpLike 1 (runF (phi Γ T8) Γ 2 3 t_law_like) := sp_like (by (law_purse 10 => fail) : phi Γ T8 "_law_like" = some (runF (phi Γ T7) Γ 2 3 t_law_like)) S_law_like0
abbrev T10 : List Rd1 := ⟨"_law_few", 1, 1, t_law_few⟩ :: T9
theorem S_law_few : SpFew (runF (phi Γ T9) Γ 1 1 t_law_few) := sp_few (by (law_purse 10 => fail) : phi Γ T9 "_law_draw" = some (runF (phi Γ T6) Γ 2 5 t_law_draw)) S_law_draw
abbrev T11 : List Rd1 := ⟨"_law_edit", 1, 3, t_law_edit⟩ :: T10
theorem S_law_edit : SpEdit (runF (phi Γ T10) Γ 1 3 t_law_edit) := sp_edit (by (law_purse 10 => fail) : phi Γ T10 "_law_draw" = some (runF (phi Γ T6) Γ 2 5 t_law_draw)) (by (law_purse 10 => fail) : phi Γ T10 "_law_few" = some (runF (phi Γ T9) Γ 1 1 t_law_few)) S_law_draw S_law_few
abbrev T12 : List Rd1 := ⟨"_law_fits", 1, 3, t_law_fits⟩ :: T11
theorem S_law_fits : SpFits (runF (phi Γ T11) Γ 1 3 t_law_fits) := sp_fits 
abbrev T13 : List Rd1 := ⟨"_law_weight", 1, 3, t_law_weight⟩ :: T12
theorem S_law_weight : SpWeight (runF (phi Γ T12) Γ 1 3 t_law_weight) := sp_weight 
abbrev T14 : List Rd1 := ⟨"_law_stack", 2, 5, t_law_stack⟩ :: T13
theorem S_law_stack : SpStack (runF (phi Γ T13) Γ 2 5 t_law_stack) := sp_stack (by (law_purse 10 => fail) : phi Γ T13 "_law_draw" = some (runF (phi Γ T6) Γ 2 5 t_law_draw)) (by (law_purse 10 => fail) : phi Γ T13 "_law_edit" = some (runF (phi Γ T10) Γ 1 3 t_law_edit)) (by (law_purse 10 => fail) : phi Γ T13 "_law_fits" = some (runF (phi Γ T11) Γ 1 3 t_law_fits)) (by (law_purse 10 => fail) : phi Γ T13 "_law_weight" = some (runF (phi Γ T12) Γ 1 3 t_law_weight)) S_law_draw S_law_edit S_law_fits S_law_weight
abbrev T15 : List Rd1 := ⟨"_law_lines", 3, 11, t_law_lines⟩ :: T14
theorem S_law_lines : SpLawLines (runF (phi Γ T14) Γ 3 11 t_law_lines) := sp_lawlines 
abbrev T16 : List Rd1 := ⟨"_law_back_in", 4, 6, t_law_back_in⟩ :: T15
theorem S_law_back_in : SpPlace (runF (phi Γ T15) Γ 4 6 t_law_back_in) := sp_backIn 
abbrev T17 : List Rd1 := ⟨"_law_from", 5, 14, t_law_from⟩ :: T16
theorem S_law_from0 : SpFrom 0 (runF (phi Γ T16) Γ 5 14 t_law_from) := sp_from0
abbrev T18 : List Rd1 := ⟨"_law_from", 5, 14, t_law_from⟩ :: T17
theorem S_law_from1 : SpFrom 1 (runF (phi Γ T17) Γ 5 14 t_law_from) := sp_from (by (law_purse 10 => fail) : phi Γ T17 "_law_from" = some (runF (phi Γ T16) Γ 5 14 t_law_from)) (by (law_purse 10 => fail) : phi Γ T17 "size_after" = some (runF (phi Γ T2) Γ 3 5 t_size_after)) (by (law_purse 10 => fail) : phi Γ T17 "_law_back_in" = some (runF (phi Γ T15) Γ 4 6 t_law_back_in)) S_law_from0 S_size_after S_law_back_in
abbrev T19 : List Rd1 := ⟨"_law_from", 5, 14, t_law_from⟩ :: T18
theorem S_law_from2 : SpFrom 2 (runF (phi Γ T18) Γ 5 14 t_law_from) := sp_from (by (law_purse 10 => fail) : phi Γ T18 "_law_from" = some (runF (phi Γ T17) Γ 5 14 t_law_from)) (by (law_purse 10 => fail) : phi Γ T18 "size_after" = some (runF (phi Γ T2) Γ 3 5 t_size_after)) (by (law_purse 10 => fail) : phi Γ T18 "_law_back_in" = some (runF (phi Γ T15) Γ 4 6 t_law_back_in)) S_law_from1 S_size_after S_law_back_in
abbrev T20 : List Rd1 := ⟨"_law_from", 5, 14, t_law_from⟩ :: T19
theorem S_law_from3 : SpFrom 3 (runF (phi Γ T19) Γ 5 14 t_law_from) := sp_from (by (law_purse 10 => fail) : phi Γ T19 "_law_from" = some (runF (phi Γ T18) Γ 5 14 t_law_from)) (by (law_purse 10 => fail) : phi Γ T19 "size_after" = some (runF (phi Γ T2) Γ 3 5 t_size_after)) (by (law_purse 10 => fail) : phi Γ T19 "_law_back_in" = some (runF (phi Γ T15) Γ 4 6 t_law_back_in)) S_law_from2 S_size_after S_law_back_in
abbrev T21 : List Rd1 := ⟨"_law_from", 5, 14, t_law_from⟩ :: T20
theorem S_law_from4 : SpFrom 4 (runF (phi Γ T20) Γ 5 14 t_law_from) := sp_from (by (law_purse 10 => fail) : phi Γ T20 "_law_from" = some (runF (phi Γ T19) Γ 5 14 t_law_from)) (by (law_purse 10 => fail) : phi Γ T20 "size_after" = some (runF (phi Γ T2) Γ 3 5 t_size_after)) (by (law_purse 10 => fail) : phi Γ T20 "_law_back_in" = some (runF (phi Γ T15) Γ 4 6 t_law_back_in)) S_law_from3 S_size_after S_law_back_in
abbrev T22 : List Rd1 := ⟨"_law_from", 5, 14, t_law_from⟩ :: T21
theorem S_law_from5 : SpFrom 5 (runF (phi Γ T21) Γ 5 14 t_law_from) := sp_from (by (law_purse 10 => fail) : phi Γ T21 "_law_from" = some (runF (phi Γ T20) Γ 5 14 t_law_from)) (by (law_purse 10 => fail) : phi Γ T21 "size_after" = some (runF (phi Γ T2) Γ 3 5 t_size_after)) (by (law_purse 10 => fail) : phi Γ T21 "_law_back_in" = some (runF (phi Γ T15) Γ 4 6 t_law_back_in)) S_law_from4 S_size_after S_law_back_in
abbrev T23 : List Rd1 := ⟨"_law_from", 5, 14, t_law_from⟩ :: T22
theorem S_law_from6 : SpFrom 6 (runF (phi Γ T22) Γ 5 14 t_law_from) := sp_from (by (law_purse 10 => fail) : phi Γ T22 "_law_from" = some (runF (phi Γ T21) Γ 5 14 t_law_from)) (by (law_purse 10 => fail) : phi Γ T22 "size_after" = some (runF (phi Γ T2) Γ 3 5 t_size_after)) (by (law_purse 10 => fail) : phi Γ T22 "_law_back_in" = some (runF (phi Γ T15) Γ 4 6 t_law_back_in)) S_law_from5 S_size_after S_law_back_in
theorem T_eq : rds = T23 := rfl
theorem runs (ns : List Int) (h : ns.length ≤ 63) : ∃ out, runF (phi Γ rds) Γ 1 17 t_law_k12b [.scr ns] = some (.bool true, out) := by
  rw [T_eq]
  exact runs_k12 (by (law_purse 10 => fail) : phi Γ T23 "_law_stack" = some (runF (phi Γ T13) Γ 2 5 t_law_stack)) (by (law_purse 10 => fail) : phi Γ T23 "_law_draw" = some (runF (phi Γ T6) Γ 2 5 t_law_draw)) (by (law_purse 10 => fail) : phi Γ T23 "size_after" = some (runF (phi Γ T2) Γ 3 5 t_size_after)) (by (law_purse 10 => fail) : phi Γ T23 "source" = some (runF (phi Γ T5) Γ 5 9 t_sourceb)) (by (law_purse 10 => fail) : phi Γ T23 "_law_from" = some (runF (phi Γ T22) Γ 5 14 t_law_from)) (by (law_purse 10 => fail) : phi Γ T23 "_law_lines" = some (runF (phi Γ T14) Γ 3 11 t_law_lines)) (by (law_purse 10 => fail) : phi Γ T23 "_law_like" = some (runF (phi Γ T8) Γ 2 3 t_law_like)) S_law_stack S_law_draw S_size_after S_source S_law_from6 S_law_lines S_law_like1 ns h
theorem facts {P : Program} {w : World} {K : PySem.W.Frag} {h : Heap} {mg : Str → Option Value} {f : Addr} (X : K.In h) (G : h.Ns mainGlobals mg) (hfa : mg ("law" : Str) = some (.ref f)) (c : He.SaysD fa fn K) :
    ∃ fd : FuncData, (∀ (s : Shared) (v : Value), BindsTo s fd ⟨[v], []⟩ [("script", v)]) ∧ ∀ base : Heap, K.In base → base.Ns mainGlobals mg → FnOk P w K mg base CX0 24 f fd [("script" : Str)] (spF K (runF (phi Γ rds) Γ 1 17 t_law_k12b)) :=
  law_facts (h := h) (rl := r_law) (rs := rows) hfa (blt_of X G c in_bl) (fun x d h => by cases h) oks (fns_of X G c in_fn in_fa) rfl
end K12

end L2.Px
set_option maxHeartbeats 0
open PySem PySem.W PySem.Calls PyProof.Rows
theorem PySem.Challenge.cw_editstacks_k12_whole_sources_holds : PySem.Challenge.rw_editstacks_k12_whole_sources.Holds := by
  w_on; o_law
  refine HandSHeadRun.head_any (r := OpenLaw.row PySem.Challenge.rw_editstacks_k12_whole_sources) (q := view (OpenLaw.row PySem.Challenge.rw_editstacks_k12_whole_sources).prog [18]) (H := L2.Px.K12.hk) (ob := L2.Px.K12.ob) (M := 4000) (loose := L2.Px.K12.loose) (d := HandSHeadRun.topDef (OpenLaw.row PySem.Challenge.rw_editstacks_k12_whole_sources).prog 18) (kwd := []) L2.Px.K12.ob_eq
    (by kernel_rfl) (fun s => by kernel_rfl) L2.Px.K12.run (by kernel_rfl) (by kernel_rfl) (by kernel_rfl) (by rfl) (by first | assumption | decide +kernel) (by decide +kernel) ⟨rfl, rfl, rfl, rfl, rfl, by decide +kernel⟩ ?hw ?hc
  case hw => w_witness2
  case hc =>
    refine L2.walk_ofE (l := PySem.Challenge.rw_editstacks_k12_whole_sources) (n := 63) (k := 24) (x := "script") (CX := L2.CX0) rfl (by decide) (by kernel_rfl) ⟨rfl, by decide, by decide⟩ ?F (fun _ _ _ _ z => z)
    intro w mg fa h Y G hmg0
    obtain ⟨K, KX, c⟩ := Y
    have hmg : mg ("law" : PySem.Str) = some (.ref fa) := by
      have e : (HandSHeadRun.topDef (OpenLaw.row PySem.Challenge.rw_editstacks_k12_whole_sources).prog 18).name = ("law" : PySem.Str) := by kernel_rfl
      rw [← e]
      exact hmg0
    obtain ⟨fd, hb, hF⟩ := L2.Px.K12.facts (P := (PySem.Challenge.rw_editstacks_k12_whole_sources).prog) (w := w) KX G hmg c
    exact ⟨K, fd, _, KX, hb, fun H a ns hl _ hS => (let ⟨_, q⟩ := L2.Px.K12.runs ns hl; L2.Px.law_sp hS q), hF⟩
