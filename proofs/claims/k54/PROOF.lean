import PyProof.Rows.All
import Wide.All
import OpenK.AllK
import Wide.FinOn
import HandS.TupMul
import HandS.ForMost
import KE.KTupSum
import HandS.TupAny
import HandS.Style
import HandS.Wide
import HandS.SortInts
import HandS.TupSets
import HandS.Keys
import HandS.Zip
import HandS.Property
import HandS.IsInst
import HandS.Star
import HandS.NoneIn
import HandS.DictComp
import HandS.Conv
import HandS.More
import HandS.Small
import HandS.Ends
import PySem.Challenge.RW_runcounts_k54_whole_walks_from_both_ends
set_option Elab.async false
set_option linter.all false
set_option maxRecDepth 100000
set_option maxHeartbeats 4000000
namespace L2
open PySem PySem.Spec PyProof.Rows HT
theorem tuple_mul1 (l : Addr) (items : Array Value) (n : Nat) (sl : Array (Option Value)) (dd : Option Addr) (u : Tok) :
    Meets (Builtin.«tuple.__mul__» ⟨[.ref l, .int 1 u], []⟩) (fun _ R s => s.heap.get? l = some { cls := .type "tuple", dict := dd, data := .seq items n, slots := sl } ∧ R (.ok (.ret (.ref l))) s) :=
  .of_wp fun prog w A R s h => by
    obtain ⟨hp, g, d, tk, os⟩ := s
    obtain ⟨hl, h⟩ := h
    have f1 := AutoSeq1.idx_int
    have c1 : (items.isEmpty || (1 : Int) == 1) = true := by simp
    have c0 : (decide ((1 : Int) < -(2 ^ 63)) || decide ((1 : Int) ≥ 2 ^ 63)) = false := by decide
    wp_walk using wpAny_loadPart' hl
    repeat (first
      | (refine wpAny_ite_false (decide_eq_false (by rw [c0]; exact Bool.false_ne_true)) ?_; wp_walk using wpAny_loadPart' hl)
      | (refine wpAny_ite_true (decide_eq_true c1) ?_; wp_walk using wpAny_loadPart' hl))
    exact ⟨_, rfl, h⟩
theorem tuple_mul0 (l : Addr) (items : Array Value) (n : Nat) (sl : Array (Option Value)) (dd : Option Addr) (x : Int) (u : Tok) (hx : -(2 ^ 63) ≤ x) (hx0 : x ≤ 0) (he : items.isEmpty = false) :
    Meets (Builtin.«tuple.__mul__» ⟨[.ref l, .int x u], []⟩) (fun _ R s => s.heap.get? l = some { cls := .type "tuple", dict := dd, data := .seq items n, slots := sl } ∧
      R (.ok (.ret (Value.ref s.heap.objs.size))) { s with heap := s.heap.push { cls := Value.type "tuple", data := Data.seq #[] }, toks := s.toks }) :=
  .of_wp fun prog w A R s h => by
    obtain ⟨hp, g, d, tk, os⟩ := s
    obtain ⟨hl, h⟩ := h
    have f1 := AutoSeq1.idx_int
    have c1 : (items.isEmpty || x == 1) = false := by
      rw [he, Bool.false_or]
      exact beq_eq_false_iff_ne.mpr (by omega)
    have c2 : (decide (x ≤ 0) || items.isEmpty) = true := by rw [decide_eq_true hx0]; rfl
    have c0 : (decide (x < -(2 ^ 63)) || decide (x ≥ 2 ^ 63)) = false := by
      rw [decide_eq_false (by omega), decide_eq_false (by omega)] <;> rfl
    wp_walk using wpAny_loadPart' hl
    repeat (first
      | (refine wpAny_ite_false (decide_eq_false (by rw [c0]; exact Bool.false_ne_true)) ?_; wp_walk using wpAny_loadPart' hl)
      | (refine wpAny_ite_false (decide_eq_false (by rw [c1]; exact Bool.false_ne_true)) ?_; wp_walk using wpAny_loadPart' hl)
      | (refine wpAny_ite_true (decide_eq_true c2) ?_; wp_walk using wpAny_loadPart' hl))
    exact ⟨_, rfl, h⟩
def rRepA (K : PySem.W.Frag) : R2 := fun x y H Q => ∃ l k xs, x = .ref l ∧ y = .int k ∧ SqT K H l xs ∧ xs ≠ [] ∧ -(2 ^ 63) ≤ k ∧ k ≤ 1000 ∧ xs.length ≤ 1000 ∧ (k = 1 → Q (.ref l) H) ∧ (k ≠ 1 → ∀ p, H p = none → Q (.ref p) (upd H p (.tup (List.replicate k.toNat xs).flatten)))
section
variable {X : Cx}
theorem op_repA : OpR X (binaryOp .Mult) (rRepA X.K) := by
  intro pins s σ H x y v u Q I rx ry h
  obtain ⟨l, k, xs, rfl, rfl, hT, hne, h1, h2, hz, q1, q2⟩ := h
  by_cases k2 : 2 ≤ k
  · exact op_repT pins s σ H _ _ v u Q I rx ry ⟨l, k, xs, rfl, rfl, hT, hne, k2, h2, hz, q2 (by omega)⟩
  cases rx
  obtain ⟨t, rfl⟩ := ry
  obtain ⟨its, r, ⟨⟨cls, dd, data, sl⟩, ho, hc, n, hd⟩, hs⟩ := I.tuple hT
  simp only at hc hd
  subst hc hd
  have hle : its.length = xs.length := r.length.symm
  have hn : its ≠ [] := fun e => hne (by
    rw [e] at hle
    exact List.eq_nil_of_length_eq_zero hle.symm)
  have hi : its.toArray.isEmpty = false := by
    cases its with
    | nil => exact absurd rfl hn
    | cons a b => rfl
  by_cases k1 : k = 1
  · subst k1
    exact wpAny_binaryOp_repeat_ref (T := "tuple") (U := "int") (by decide) ⟨_, ho, rfl⟩ (fun s' => typeIs_int s' 1 t) noFill_tuple_mul F.fills_int_mul F.slot_int_rmul repeat_tuple F.slot_int_index.lookup
      (call_meets F.slot_int_rmul (typeIs_int s 1 t) F.entry_int_rmul (F.args_int_rmul_2 _ _) (int_rmul_tuple 1 t l its.toArray n dd sl)
        ⟨ho, rfl, ⟨_, ho, rfl⟩, call_meets F.slot_tuple_mul ⟨_, ho, rfl⟩ F.entry_tuple_mul (F.args_tuple_mul_2 _ _) (tuple_mul1 l its.toArray n sl dd t) ⟨ho, ⟨.ref l, _, I, rfl, q1 rfl⟩⟩⟩)
  · have k0 : k ≤ 0 := by omega
    refine wpAny_binaryOp_repeat_ref (T := "tuple") (U := "int") (by decide) ⟨_, ho, rfl⟩ (fun s' => typeIs_int s' k t) noFill_tuple_mul F.fills_int_mul F.slot_int_rmul repeat_tuple F.slot_int_index.lookup
      (call_meets F.slot_int_rmul (typeIs_int s k t) F.entry_int_rmul (F.args_int_rmul_2 _ _) (int_rmul_tuple k t l its.toArray n dd sl)
        ⟨ho, rfl, ⟨_, ho, rfl⟩, call_meets F.slot_tuple_mul ⟨_, ho, rfl⟩ F.entry_tuple_mul (F.args_tuple_mul_2 _ _) (tuple_mul0 l its.toArray n sl dd k t h1 k0 hi) ⟨ho, ?_⟩⟩)
    have q := q2 k1
    rw [show k.toNat = 0 by omega] at q
    refine ⟨.ref s.heap.objs.size, _, I.laid (t' := s.toks) (o := .tup []) (fun b ob q => Heap.get?_push_of_some _ q) (Nat.le_refl _) ?_, rfl, q _ (I.hok.fresh (Nat.le_refl _))⟩
    exact ⟨Nat.zero_le _, _, .nil, IsTup.new _ _⟩
end
def rSumT (K : PySem.W.Frag) : List V → Hp → VK → Prop := fun vs H Q => ∃ (a : Addr) (ns : List Int), vs = [V.ref a] ∧ SqT K H a (ns.map V.int) ∧ Q (.int ns.sum) H
theorem cr_sumT {X : Cx} (hc : X.calm = true) : CallR X (.builtin "sum") (rSumT X.K) := by
  intro pins s σ H vs us Q I r h
  obtain ⟨a, ns, rfl, hs, q⟩ := h
  obtain ⟨its, rv, ht, _⟩ := I.tuple hs
  rw [Vals.ref1 r]
  have ht : s.heap.IsTuple a its.toArray := by
    obtain ⟨o, e, c, n, d⟩ := ht
    exact ⟨o, e, c, n, d⟩
  have hi := rv.ints
  obtain ⟨xs, e⟩ := hi.allInts.items
  have hn : numsOf (intItems xs).toList = ns := by rw [← e]; exact hi.numsOf
  rw [nums_intItems] at hn
  rw [e] at ht
  refine PySem.W.ktm_sumG (I.ok.hd hc) ht fun h' tk t' hk => ⟨.int _, H, I.kept hk, ⟨_, rfl⟩, ?_⟩
  rw [preSum_eq, List.take_of_length_le (by simp), hn]
  exact q
end L2
set_option maxHeartbeats 4000000
namespace HT
open PySem PySem.Spec PyProof.Rows
def pickK {α : Type} (xs : List α) (i k : Nat) : List α := (List.range ((xs.length - i + (k - 1)) / k)).filterMap fun m => xs[i + m * k]?
theorem pick_all {α : Type} : ∀ xs : List α, (List.range xs.length).filterMap (fun m => xs[m]?) = xs
  | [] => rfl
  | x :: xs => by
    rw [List.length_cons, List.range_succ_eq_map, List.filterMap_cons, List.filterMap_map]
    show x :: (List.range xs.length).filterMap (fun m => (x :: xs)[m + 1]?) = _
    rw [show (fun m => (x :: xs)[m + 1]?) = fun m => xs[m]? from funext fun m => List.getElem?_cons_succ, pick_all xs]
theorem pickK_whole {α : Type} (xs : List α) : pickK xs 0 1 = xs := by
  unfold pickK
  rw [Nat.div_one]
  simp only [Nat.sub_zero, Nat.sub_self, Nat.add_zero, Nat.zero_add, Nat.mul_one]
  exact pick_all xs
theorem places_k (i n k : Nat) (hk : 1 ≤ k) : Builtin.Slice.slicePlaces (i : Int) (n : Int) (k : Int) = (n - i + (k - 1)) / k := by
  unfold Builtin.Slice.slicePlaces
  have h1 : (k : Int) > 0 := by omega
  simp only [h1, if_true]
  by_cases h : i < n
  · have h2 : (i : Int) < (n : Int) := by omega
    simp only [h2, if_true]
    have e : ((n : Int) - i - 1) / (k : Int) + 1 = (((n - i - 1) / k + 1 : Nat) : Int) := by
      rw [show (n : Int) - i - 1 = ((n - i - 1 : Nat) : Int) by omega]
      rfl
    rw [e, Int.toNat_natCast, show n - i + (k - 1) = (n - i - 1) + k by omega, Nat.add_div_right _ (by omega)]
  · have h2 : ¬ (i : Int) < (n : Int) := by omega
    simp only [h2, if_false]
    rw [show n - i = 0 by omega, Nat.zero_add, Nat.div_eq_of_lt (by omega)]
    rfl
theorem adjust_k (lo : Option Int) (n : Nat) (k : Int) (hk : 1 ≤ k) : Builtin.Slice.sliceAdjust lo none k (n : Int) = (((sIx n 0 lo : Nat) : Int), (n : Int)) := by
  have h := adjust_gen lo none n
  have e : sIx n n none = n := rfl
  rw [e] at h
  have h1 : ¬ (k < 0) := by omega
  have h2 : ¬ ((1 : Int) < 0) := by omega
  unfold Builtin.Slice.sliceAdjust at h ⊢
  simp only [h1, h2, if_false] at h ⊢
  exact h
section
variable {prog : Program} {w : World} {A : Around} {E : Value → Shared → Prop} {s : Shared}
theorem sliceApplied_k {sl : Addr} {vl vk : Value} {lo : Option Int} {n k : Nat} {Q : Int × Int × Nat → Shared → Prop} (hk : 1 ≤ k) (hs : s.heap.IsSliceOf sl vl .none vk) (pl : IsPart vl lo) (pk : IsPart vk (some (k : Int)))
    (h : Q (((sIx n 0 lo : Nat) : Int), (k : Int), (n - sIx n 0 lo + (k - 1)) / k) s) : wpAny (model prog w) A (Builtin.Slice.sliceApplied (.ref sl) (pure (n : Int))) Q E s := by
  obtain ⟨os, hos, hcs, hds⟩ := id hs
  unfold Builtin.Slice.sliceApplied Builtin.Slice.sliceFields
  refine wpAny_bind (wpAny_bind (wpAny_field hos hds (x := vl) rfl (wpAny_bind (wpAny_field hos hds (x := .none) rfl (wpAny_bind (wpAny_field hos hds (x := vk) rfl (wpAny_pure ?_)))))))
  refine wpAny_bind (slicePart_ pk ?_)
  show wpAny _ _ (if ((k : Int) == 0) = true then _ else _) _ _ s
  rw [if_neg (by
    intro q
    have := eq_of_beq q
    omega)]
  refine wpAny_bind (slicePart_ pl (wpAny_bind (slicePart_none (wpAny_bind (wpAny_pure ?_)))))
  show wpAny _ _ (match Builtin.Slice.sliceAdjust lo none (k : Int) (n : Int) with | (lo, hi) => pure (lo, (k : Int), Builtin.Slice.slicePlaces lo hi (k : Int))) _ _ s
  rw [adjust_k lo n k (by omega)]
  show wpAny _ _ (pure (((sIx n 0 lo : Nat) : Int), (k : Int), Builtin.Slice.slicePlaces ((sIx n 0 lo : Nat) : Int) (n : Int) (k : Int))) _ _ s
  rw [places_k _ _ _ hk]
  exact wpAny_pure h
theorem pick_k (xs : Array Value) (i k p : Nat) : ((List.range p).filterMap fun (m : Nat) => xs[((i : Int) + (m : Int) * (k : Int)).toNat]?) = (List.range p).filterMap fun m => xs.toList[i + m * k]? := by
  congr 1
  funext m
  rw [show ((i : Int) + (m : Int) * (k : Int)).toNat = i + m * k by rw [show (i : Int) + (m : Int) * (k : Int) = ((i + m * k : Nat) : Int) by push_cast; rfl, Int.toNat_natCast], Array.getElem?_toList]
theorem pickK_le {α : Type} (xs : List α) (i k : Nat) (hk : 1 ≤ k) : (pickK xs i k).length ≤ xs.length := by
  unfold pickK
  refine Nat.le_trans (List.length_filterMap_le ..) ?_
  rw [List.length_range]
  have h1 : (xs.length - i + (k - 1)) / k ≤ xs.length - i := by
    by_cases h : xs.length - i = 0
    · rw [h, Nat.zero_add, Nat.div_eq_of_lt (by omega)]
      exact Nat.le_refl _
    · rw [show xs.length - i + (k - 1) = (xs.length - i - 1) + k by omega, Nat.add_div_right _ (by omega)]
      have := Nat.div_le_self (xs.length - i - 1) k
      omega
  omega
theorem getItem_tuple_step {t sl : Addr} {items : Array Value} {vl vk : Value} {lo : Option Int} {k : Nat} {Q : Value → Shared → Prop} (hk : 1 ≤ k) (ht : IsTup s.heap t items) (hs : s.heap.IsSliceOf sl vl .none vk) (pl : IsPart vl lo) (pk : IsPart vk (some (k : Int)))
    (h1 : sIx items.size 0 lo = 0 ∧ k = 1 → Q (.ref t) s)
    (h2 : ¬ (sIx items.size 0 lo = 0 ∧ k = 1) → (items.size - sIx items.size 0 lo + (k - 1)) / k ≠ items.size ∨ True → Q (.ref s.heap.objs.size) { s with heap := s.heap.push { cls := .type "tuple", data := .seq (pickK items.toList (sIx items.size 0 lo) k).toArray } })
    (hsz : items.size ≤ sizeLine) : wpAny (model prog w) A (getItem (.ref t) (.ref sl)) Q E s := by
  have htake : sizeOk (.seq (pickK items.toList (sIx items.size 0 lo) k).toArray) := by
    show (pickK items.toList (sIx items.size 0 lo) k).length ≤ sizeLine
    have := pickK_le items.toList (sIx items.size 0 lo) k hk
    have h0 : items.toList.length = items.size := Array.length_toList
    omega
  obtain ⟨os, hos, hcs, hds⟩ := id hs
  have hTs : s.TypeIs (.ref sl) "slice" := ⟨os, hos, hcs⟩
  unfold getItem
  try with_reducible refine wpAny_holding ?_
  first | refine wpAny_bind (wpAny_pure ?_) | skip
  refine wpAny_bind (wpAny_sequenceKey ht.typeIs (by decide) ?_)
  refine wpAny_bind (wpAny_callSpecial?_slot (name := Str.ofString "__getitem__") ht.typeIs PyProof.Rows.slot_tuple_getitem
    (wpAny_call_entry PyProof.Rows.slot_tuple_getitem ht.typeIs entry_tuple_getitem ?_ (args_tuple_getitem _ _)))
  show wpAny _ _ (Builtin.Tuple.tupleItemsOf (.ref t) >>= _) _ _ s
  refine wpAny_bind (tupleItemsOf_ ht ?_)
  refine wpAny_bind (wpAny_typeOf hTs ?_)
  rw [if_pos (by decide)]
  refine wpAny_bind (sliceApplied_k hk hs pl pk ?_)
  show wpAny _ _ (if (((sIx items.size 0 lo : Nat) : Int) == 0 && (k : Int) == 1 && ((items.size - sIx items.size 0 lo + (k - 1)) / k) == items.size) = true then _ else _) _ _ s
  by_cases hw : sIx items.size 0 lo = 0 ∧ k = 1
  · have hyes : (((sIx items.size 0 lo : Nat) : Int) == 0 && (k : Int) == 1 && ((items.size - sIx items.size 0 lo + (k - 1)) / k) == items.size) = true := by
      rw [hw.1, hw.2]
      simp
    rw [if_pos hyes]
    have h := h1 hw
    refine wpAny_bind ?_
    show wpAny _ _ (typeOf (.ref t) >>= fun T => pure (T == .type "tuple")) _ _ s
    refine wpAny_bind (wpAny_typeOf ht.typeIs (wpAny_pure ?_))
    first
      | rw [if_pos (by decide)]
      | simp only [beq_self_eq_true, if_true]
    first
      | exact wpAny_bind (wpAny_rule (wpAny_pure ⟨_, rfl, wpAny_pure h⟩))
      | exact wpAny_bind (wpAny_rule (wpAny_bind (wpAny_pure (wpAny_pure ⟨_, rfl, wpAny_pure h⟩))))
  · have hno : ¬ ((((sIx items.size 0 lo : Nat) : Int) == 0 && (k : Int) == 1 && ((items.size - sIx items.size 0 lo + (k - 1)) / k) == items.size) = true) := by
      intro q
      rw [Bool.and_eq_true, Bool.and_eq_true] at q
      have q1 : ((sIx items.size 0 lo : Nat) : Int) = 0 := eq_of_beq q.1.1
      have q2 : (k : Int) = 1 := eq_of_beq q.1.2
      exact hw ⟨by omega, by omega⟩
    rw [if_neg hno, pick_k]
    have h := h2 hw (.inr trivial)
    unfold pickK at h htake
    rw [Array.length_toList] at h htake
    first
      | exact wpAny_bind (m := Builtin.Tuple.tupleExact _) (wpAny_newObj_type (wpAny_pure ⟨_, rfl, wpAny_pure h⟩) htake)
      | exact wpAny_bind (m := Builtin.Tuple.tupleExact _) (wpAny_newObj_type (wpAny_bind (wpAny_pure (wpAny_pure ⟨_, rfl, wpAny_pure h⟩))) htake)
      | exact wpAny_bind (wpAny_bind (m := Builtin.Tuple.tupleExact _) (wpAny_newObj_type (wpAny_pure (wpAny_pure ⟨_, rfl, wpAny_pure h⟩)) htake))
      | exact wpAny_bind (wpAny_bind (m := Builtin.Tuple.tupleExact _) (wpAny_newObj_type (wpAny_pure ⟨_, rfl, wpAny_pure h⟩) htake))
end
theorem slicePick_k (its : List Value) (lo : Option Int) (k : Nat) (hk : 1 ≤ k) : slicePick its.toArray lo none (some (k : Int)) = (pickK its (sIx its.length 0 lo) k).toArray := by
  have h1 : (sliceBounds lo none (some (k : Int)) its.length) = (((sIx its.length 0 lo : Nat) : Int), (its.length : Int), (k : Int)) := by
    have := L2.slice_bounds lo none its.length
    unfold sliceBounds at this ⊢
    have hk2 : (k : Int) > 0 := by omega
    simp only [Option.getD_some, Option.getD_none, hk2, if_true, show (1 : Int) > 0 by decide] at this ⊢
    exact Prod.ext this.1 (Prod.ext rfl rfl)
  unfold slicePick
  rw [List.size_toArray, h1]
  simp only
  unfold sliceRange pickK
  have hk2 : (k : Int) > 0 := by omega
  simp only [hk2, if_true]
  generalize sIx its.length 0 lo = i
  have e : (if (i : Int) < (its.length : Int) then ((its.length : Int) - i + k - 1) / k else 0).toNat = (its.length - i + (k - 1)) / k := by
    by_cases h : i < its.length
    · rw [if_pos (by omega), show (its.length : Int) - i + k - 1 = ((its.length - i + (k - 1) : Nat) : Int) by omega]
      rfl
    · rw [if_neg (by omega), show its.length - i = 0 by omega, Nat.zero_add, Nat.div_eq_of_lt (by omega)]
      rfl
  rw [e, List.filterMap_map]
  congr 2
  funext m
  show its.toArray[((i : Int) + k * m).toNat]? = _
  rw [show (i : Int) + k * m = ((i + m * k : Nat) : Int) by push_cast; rw [Int.mul_comm], Int.toNat_natCast, List.getElem?_toArray]
end HT
namespace L2
open PySem PySem.Spec PyProof.Rows
theorem Vals.pickK {vs : List V} {us : List Value} (r : Vals vs us) (i k : Nat) : Vals (HT.pickK vs i k) (HT.pickK us i k) := by
  unfold HT.pickK
  rw [r.length]
  generalize List.range ((us.length - i + (k - 1)) / k) = L
  induction L with
  | nil => exact .nil
  | cons m L ih =>
    rw [List.filterMap_cons, List.filterMap_cons]
    cases e : vs[i + m * k]? with
    | none =>
      have : us[i + m * k]? = none := by
        rw [List.getElem?_eq_none_iff] at e ⊢
        rw [← r.length]
        exact e
      rw [this]
      exact ih
    | some v =>
      obtain ⟨u, e2, ru⟩ := r.get e
      rw [e2]
      exact .cons ru ih
def rSlK (K : PySem.W.Frag) : V → Option Int → Nat → Hp → VK → Prop := fun x lo k H Q =>
  (∃ a xs, x = .ref a ∧ SqL K H a xs ∧ ∀ p, H p = none → Q (.ref p) (upd H p (.lst (HT.pickK xs (HT.sIx xs.length 0 lo) k)))) ∨
  ∃ a xs, x = .ref a ∧ SqT K H a xs ∧ (HT.sIx xs.length 0 lo = 0 ∧ k = 1 → Q (.ref a) H) ∧ (¬ (HT.sIx xs.length 0 lo = 0 ∧ k = 1) → ∀ p, H p = none → Q (.ref p) (upd H p (.tup (HT.pickK xs (HT.sIx xs.length 0 lo) k))))
def tSlK (K : PySem.W.Frag) (te : TE) (tl ts : TO) : TE := fun σ H Q => te σ H fun x H1 => tl σ H1 fun l H2 => ts σ H2 fun o H3 => ∃ k : Nat, o = some (k : Int) ∧ 1 ≤ k ∧ rSlK K x l k H3 Q
section
variable {X : Cx}
theorem pe_slK {e st : Expr} {lo : Option Expr} {te : TE} {tl ts : TO} {p2 pos : Pos} (he : PE X e te) (hl : PO X lo tl) (hs : PO X (some st) ts) : PE X (.Subscript e (.Slice lo none (some st) p2) pos) (tSlK X.K te tl ts) := by
  refine ⟨fun pins s σ H Q I h => ?_⟩
  refine Subscript_ (thn (he.run pins s σ H _ I h) fun v s1 ⟨x, H1, I1, r1, q1⟩ => ?_)
  refine wpAny_Slice (thn (hl.run pins s1 σ H1 _ I1 q1) fun vl s2 ⟨l, H2, I2, pl, q2⟩ => ?_)
  refine thn (po_none.run pins s2 σ H2 (fun o H3 => o = none ∧ H3 = H2) I2 ⟨rfl, rfl⟩) fun vu s3 ⟨u, H3, I3, pu, eu, e3⟩ => ?_
  subst eu e3
  refine thn (hs.run pins s3 σ H3 _ I3 q2) fun vk s4 ⟨o, H4, I4, pk, k, eo, hk, q4⟩ => ?_
  subst eo
  cases pu
  have I5 : Inv X pins σ H4 { s4 with heap := s4.heap.push { cls := .type "slice", data := .fields #[vl, .none, vk] } } := I4.kept (t' := s4.toks) fun b ob q => Heap.get?_push_of_some _ q
  rcases q4 with ⟨a, xs, ex, hx, q⟩ | ⟨a, xs, ex, hx, q0, q⟩
  · subst ex
    cases r1
    obtain ⟨its, r, ht, hz⟩ := I5.list hx
    have hlen := r.length
    show wpAny (model X.prog X.w) X.A (subscriptTail e (.Slice lo none (some st) p2) (.ref a) (.ref s4.heap.objs.size)) (EP X pins σ Q) X.xe { s4 with heap := s4.heap.push { cls := .type "slice", data := .fields #[vl, .none, vk] } }
    refine tail_any (ops := [.ref a, .ref s4.heap.objs.size]) ht.isList.typeIs (PySem.slot_list_getitem.lookup) ?_ (by with_unfolding_all rfl)
    refine wpAny_getItem_list_slice ht.isList (Heap.IsSliceOf.new _ vl .none vk) pl .none pk (fun z => by have := Option.some.inj z; omega) ?_ (by rw [List.size_toArray]; omega)
    rw [HT.slicePick_k its l k hk, ← hlen]
    refine ⟨.ref _, _, I5.laid (t' := s4.toks) (o := .lst (HT.pickK xs (HT.sIx xs.length 0 l) k)) (fun b ob q => Heap.get?_push_of_some _ q) (Nat.le_refl _) ?_, rfl, q _ (I5.hok.fresh (Nat.le_refl _))⟩
    exact ⟨Nat.le_trans (HT.pickK_le xs _ k hk) hz, _, 0, Vals.pickK r _ k, Heap.get?_push_size _ rfl⟩
  · subst ex
    cases r1
    obtain ⟨its, r, ht, hz⟩ := I5.tuple hx
    have hlen : its.toArray.size = xs.length := by rw [List.size_toArray]; exact r.length.symm
    show wpAny (model X.prog X.w) X.A (subscriptTail e (.Slice lo none (some st) p2) (.ref a) (.ref s4.heap.objs.size)) (EP X pins σ Q) X.xe { s4 with heap := s4.heap.push { cls := .type "slice", data := .fields #[vl, .none, vk] } }
    refine tail_any (ops := [.ref a, .ref s4.heap.objs.size]) ht.typeIs PyProof.Rows.slot_tuple_getitem.lookup ?_ (by with_unfolding_all rfl)
    refine HT.getItem_tuple_step hk ht (Heap.IsSliceOf.new _ vl .none vk) pl pk (fun hw => ?_) (fun hw _ => ?_) (by rw [hlen]; exact hz)
    · rw [hlen] at hw
      exact ⟨.ref a, _, I5, rfl, q0 hw⟩
    · rw [hlen] at hw ⊢
      refine ⟨.ref _, _, I5.laid (t' := s4.toks) (o := .tup (HT.pickK xs (HT.sIx xs.length 0 l) k)) (fun b ob q => Heap.get?_push_of_some _ q) (Nat.le_refl _) ?_, rfl, q hw _ (I5.hok.fresh (Nat.le_refl _))⟩
      exact ⟨Nat.le_trans (HT.pickK_le xs _ k hk) hz, _, Vals.pickK r _ k, IsTup.new _ _⟩
end
end L2
namespace Mi
open PySem L2
inductive D where
  | non | bl (b : Bool) | int (i : Int) | str (s : Str)
  | tup (xs : List D) | lst (xs : List D)
  | dct (ks : List Key) (ds : List D)
  | ins (c : Nat) (ns : List Str) (ds : List D)
  | scr (ns : List Int)
inductive T where
  | cl (d : D) | ls (ts : List T) | dc (ks : List Key) (ts : List T) | ob (c : Nat) (ns : List Str) (ts : List T)
mutual
def T.d : T → D
  | .cl d => d
  | .ls ts => .lst (T.ds ts)
  | .dc ks ts => .dct ks (T.ds ts)
  | .ob c ns ts => .ins c ns (T.ds ts)
def T.ds : List T → List D
  | [] => []
  | t :: r => T.d t :: T.ds r
end
inductive S where
  | v (d : D) | r (k : Nat)
abbrev Sl := List (Option S)
abbrev Rt := List (Option T)
inductive BOp where | add | sub | mul | fdiv | mod | pow
deriving DecidableEq
inductive COp where | eq | ne | lt | le | gt | ge | isn | notn | ist | notist | mem | nmem
inductive F1 where | len | int | str | repr | tuple | list | sum | max | min | abs | all | any | sorted
inductive F2 where | max | min
inductive Dv where
  | int (i : Int) | tup0 | non
deriving DecidableEq
def Dv.d : Dv → D
  | .int i => .int i
  | .tup0 => .tup []
  | .non => .non
mutual
inductive X0 where
  | int (i : Int) | str (s : Str) | rd (p : P)
  | add (a b : X0) | sub (a b : X0) | neg (a : X0) | len (p : P)
inductive P where
  | var (i : Nat) | ix (p : P) (e : X0) | at (p : P) (f : Str)
end
inductive Tg where
  | var (i : Nat) | tup (ts : List Tg)
inductive Ty where
  | bi (n : Str) | own (c n : Nat)
mutual
inductive E where
  | int (i : Int) | bl (b : Bool) | non | str (s : Str)
  | glb (x : Str)
  | x (e : X0)
  | get (p : P)
  | bin (op : BOp) (a b : E)
  | neg (a : E)
  | cmp (op : COp) (a b : E)
  | emp (neg : Bool) (p : P)
  | inn (neg : Bool) (a : E) (p : P)
  | dn
  | idx (a e : E)
  | popi (i : Nat) (a : E)
  | kls (p : P)
  | chn (o p : COp) (a b d : E)
  | dcc (own : List Nat) (tg : Tg) (it : It) (kx vx : E)
  | and (a b : E) | or (a b : E) | not (a : E)
  | ife (t a b : E)
  | tup (es : Es) | lst (es : Es)
  | ix (a i : E)
  | sl (a : E) (lo hi : Option X0)
  | rev (a : E)
  | sls (a : E) (lo : Option X0) (st : X0)
  | at (a : E) (f : Str)
  | call (f : Nat) (es : Es) (kw : Es) (pm : List Nat)
  | f1 (f : F1) (a : E) | f1p (f : F1) (p : P)
  | f2 (f : F2) (a b : E)
  | lrg1 (tu : Bool) (b : E) | lrg2 (tu : Bool) (a b : E)
  | pop (p : P)
  | lc (own : List Nat) (tg : Tg) (it : It) (cond : E) (elt : E)
  | dct (ks : List Key) (es : Es)
  | isi (t : Ty) (a : E)
  | mk (c f : Nat) (es kw : Es) (pm : List Nat)
  | meth (c : Nat) (m : Str) (f : Nat) (o es kw : Es) (pm : List Nat)
  | prop (c : Nat) (m : Str) (f : Nat) (o : Es)
  | olen (c f : Nat) (o : Es)
  | oeq (c f : Nat) (a b : E)
  | mkS (c f : Nat) (e : E) (pm : List Nat)
  | methS (c : Nat) (m : Str) (f : Nat) (o es : Es)
  | callS (f : Nat) (es : Es)
  | methD (c : Nat) (m : Str) (f : Nat) (o es kw : Es) (dv : List Dv) (pm : List Nat)
  | mkD (c f : Nat) (es kw : Es) (dv : List Dv) (pm : List Nat)
  | oop (c f : Nat) (op : BOp) (a b : E)
  | lc2 (own own1 : List Nat) (tg : Tg) (it : It) (tg1 : Tg) (it1 : It) (elt : E)
inductive Es where
  | nil | cons (e : E) (r : Es) | mut (i : Nat) (r : Es) | star (e : E) (r : Es)
inductive It where
  | rng1 (a : E) | rng2 (a b : E)
  | seq (a : E) | pth (p : P)
  | enum (a : E) | enumP (p : P)
  | zip (a b : E)
end
mutual
inductive St where
  | asg (i : Nat) (e : E)
  | al (i j : Nat)
  | par (i j : Nat) (a b : E)
  | parN (i j : Nat) (a b : E)
  | asgT (tg : Tg) (e : E)
  | setx (p : P) (x : X0) (e : E)
  | app (p : P) (e : E)
  | aug (i : Nat) (op : BOp) (e : E)
  | fld (p : P) (f : Str) (e : E)
  | fld2 (p : P) (f g : Str) (e : E)
  | fldaug (p : P) (f : Str) (op : BOp) (e : E)
  | augx (p : P) (x : X0) (op : BOp) (e : E)
  | ext (i : Nat) (e : E)
  | ex (e : E)
  | ite (c : E) (a b : Ss)
  | fr (tg : Tg) (it : It) (b : Ss)
  | frV (tg : Tg) (i : Nat) (b : Ss)
  | wh (c : E) (b : Ss)
  | ret (e : E) | retN | brk | ct | nop | never
inductive Ss where
  | nil | cons (s : St) (r : Ss)
end
def lookK (ks : List Key) (ds : List α) (k : Key) : Option α := match ks, ds with
  | k' :: ks, d :: ds => if k' = k then some d else lookK ks ds k
  | _, _ => none
def lookN (ns : List Str) (ds : List α) (f : Str) : Option α := match ns, ds with
  | n :: ns, d :: ds => if n = f then some d else lookN ns ds f
  | _, _ => none
def putKs (k : Key) (x : α) : List Key → List α → List Key × List α
  | k' :: ks, d :: ds => if k' = k then (k' :: ks, x :: ds) else let r := putKs k x ks ds; (k' :: r.1, d :: r.2)
  | _, _ => ([k], [x])
def D.key : D → Option Key
  | .int i => some (.inl i)
  | .str s => some (.inr s)
  | _ => none
def ixD : D → D → Option D
  | .lst xs, .int i => atI xs i
  | .tup xs, .int i => atI xs i
  | .scr ns, .int i => (atI ns i).map D.int
  | .dct ks ds, k => k.key.bind (lookK ks ds)
  | .str s, .int i => if s.length ≤ sizeLine then (atI s.cps.toList i).map fun c => .str ⟨#[c]⟩ else none
  | _, _ => none
def atD : D → Str → Option D
  | .ins _ ns ds, f => lookN ns ds f
  | _, _ => none
def ixT : T → D → Option T
  | .cl d, i => (ixD d i).map T.cl
  | .ls ts, .int i => atI ts i
  | .dc ks ts, k => k.key.bind (lookK ks ts)
  | _, _ => none
def atT : T → Str → Option T
  | .cl d, f => (atD d f).map T.cl
  | .ob _ ns ts, f => lookN ns ts f
  | _, _ => none
def setIxT : T → D → T → Option T
  | .ls ts, .int i, t => (ixN ts.length i).map fun j => .ls (ts.set j t)
  | .dc ks ts, k, t => k.key.bind fun k => if (lookK ks ts k).isSome then some (let r := putKs k t ks ts; .dc r.1 r.2) else none
  | _, _, _ => none
def putOne (k : Key) (x : α) : List Key → List α → Option (List Key × List α)
  | k' :: ks, d :: ds => if k' = k then (if (ks.any fun k' => decide (k' = k)) = true then none else some (k' :: ks, x :: ds)) else (putOne k x ks ds).map fun r => (k' :: r.1, d :: r.2)
  | [], [] => some ([k], [x])
  | _, _ => none
def putIxT : T → D → T → Option T
  | .ls ts, .int i, t => (ixN ts.length i).map fun j => .ls (ts.set j t)
  | .dc ks ts, k, t => k.key.bind fun k => if ks.length < sizeLine then (putOne k t ks ts).map fun r => .dc r.1 r.2 else none
  | _, _, _ => none
def D.scal : D → Bool
  | .non => true | .bl _ => true | .int _ => true | .str _ => true | _ => false
def lenD : D → Option Int
  | .lst xs => some xs.length
  | .tup xs => some xs.length
  | .scr ns => some ns.length
  | .dct ks _ => some ks.length
  | .str s => if s.length ≤ sizeLine then some s.length else none
  | _ => none
mutual
def x0 (sl : Sl) (rt : Rt) : X0 → Option D
  | .int i => some (.int i)
  | .str s => some (.str s)
  | .rd p => match pt sl rt p with | some (.cl d) => if d.scal then some d else none | _ => none
  | .add a b => match x0 sl rt a, x0 sl rt b with | some (.int i), some (.int j) => some (.int (i + j)) | _, _ => none
  | .sub a b => match x0 sl rt a, x0 sl rt b with | some (.int i), some (.int j) => some (.int (i - j)) | _, _ => none
  | .neg a => match x0 sl rt a with | some (.int i) => some (.int (-i)) | _ => none
  | .len p => match pt sl rt p with | some t => (lenD t.d).map D.int | _ => none
def pt (sl : Sl) (rt : Rt) : P → Option T
  | .var i => match sl[i]? with
    | some (some (.v d)) => some (.cl d)
    | some (some (.r k)) => match rt[k]? with | some (some t) => some t | _ => none
    | _ => none
  | .ix p e => match pt sl rt p, x0 sl rt e with | some t, some i => ixT t i | _, _ => none
  | .at p f => match pt sl rt p with | some t => atT t f | _ => none
end
def upP (sl : Sl) (rt : Rt) : P → T → Option Rt
  | .var i, t => match sl[i]? with
    | some (some (.r k)) => if k < rt.length then some (rt.set k (some t)) else none
    | _ => none
  | .ix p e, t => match pt sl rt p, x0 sl rt e with
    | some u, some i => (setIxT u i t).bind (upP sl rt p)
    | _, _ => none
  | .at p f, t => match pt sl rt p with
    | some (.ob c ns ts) => if (lookN ns ts f).isSome then upP sl rt p (.ob c ns (setN f t ns ts)) else none
    | _ => none
where setN (f : Str) (t : T) : List Str → List T → List T
  | n :: ns, u :: ts => if n = f then t :: ts else u :: setN f t ns ts
  | _, ts => ts
def P.root : P → Nat
  | .var i => i
  | .ix p _ => p.root
  | .at p _ => p.root
def P.isVar : P → Bool
  | .var _ => true
  | _ => false
mutual
def D.py : D → Option PyData
  | .non => some .none
  | .bl b => some (.bool b)
  | .int i => some (.int i)
  | .str s => some (.str s)
  | .tup xs => (D.pys xs).map .tuple
  | .lst xs => (D.pys xs).map .list
  | .dct _ _ => none
  | .ins _ _ _ => none
  | .scr _ => none
def D.pys : List D → Option (List PyData)
  | [] => some []
  | x :: r => match D.py x, D.pys r with | some a, some b => some (a :: b) | _, _ => none
end
def eqD (a b : D) : Option Bool := match a.py, b.py with
  | some x, some y => if SeqAt.shaped x && SeqAt.shaped y then some (PyData.eqv x y) else none
  | _, _ => none
def mulOk (i j : Int) : Bool := decide (i.natAbs.log2 + j.natAbs.log2 < 1000000)
def cls (xs : List D) : List T := xs.map T.cl
def opB : BOp → D → D → Option T
  | .add, .int i, .int j => some (.cl (.int (i + j)))
  | .add, .str a, .str b => if a.length + b.length ≤ sizeLine then some (.cl (.str (a ++ b))) else none
  | .add, .lst xs, .lst ys => if xs.length + ys.length ≤ sizeLine then some (.ls (cls (xs ++ ys))) else none
  | .add, .tup xs, .tup ys => if xs.length + ys.length ≤ sizeLine then some (.cl (.tup (xs ++ ys))) else none
  | .sub, .int i, .int j => some (.cl (.int (i - j)))
  | .mul, .int i, .int j => if mulOk i j then some (.cl (.int (i * j))) else none
  | .mul, .lst xs, .int k => if xs.length * k.toNat ≤ sizeLine && decide (-(2 ^ 63) ≤ k) && decide (k < 2 ^ 63) then some (.ls (cls (List.replicate k.toNat xs).flatten)) else none
  | .mul, .tup xs, .int k => if !xs.isEmpty && decide (-(2 ^ 63) ≤ k) && decide (k ≤ 1000) && decide (xs.length ≤ 1000) then some (.cl (.tup (List.replicate k.toNat xs).flatten)) else none
  | .fdiv, .int i, .int j => if j = 0 ∨ 9000 ≤ j.natAbs.log2 then none else some (.cl (.int (i.fdiv j)))
  | .mod, .int i, .int j => if j = 0 then none else some (.cl (.int (i.fmod j)))
  | .pow, .int i, .int j => if 0 ≤ j ∧ j ≤ 1000000 ∧ i.natAbs < 2 ^ 64 then some (.cl (.int (i ^ j.toNat))) else none
  | _, _, _ => none
def opC : COp → D → D → Option Bool
  | .eq, a, b => eqD a b
  | .ne, a, b => (eqD a b).map (!·)
  | .lt, .int i, .int j => some (decide (i < j))
  | .le, .int i, .int j => some (decide (i ≤ j))
  | .gt, .int i, .int j => some (decide (j < i))
  | .ge, .int i, .int j => some (decide (j ≤ i))
  | .isn, a, .non => some (match a with | .non => true | _ => false)
  | .notn, a, .non => some (match a with | .non => false | _ => true)
  | .ist, .bl a, .bl true => some a
  | .notist, .bl a, .bl true => some (!a)
  | _, _, _ => none
def intsOf : List D → Option (List Int)
  | [] => some []
  | .int i :: r => (intsOf r).map (i :: ·)
  | _ => none
def inD : D → D → Option Bool
  | .int i, .lst ys => (intsOf ys).map fun ns => ns.any fun n => n == i
  | .int i, .tup ys => (intsOf ys).map fun ns => ns.any fun n => n == i
  | .int i, .dct ks _ => some (ks.any fun k => decide (k = .inl i))
  | _, _ => none
def idxD : D → D → Option Nat
  | .lst ys, .int i => (intsOf ys).bind fun ns => ns.findIdx? fun n => n == i
  | _, _ => none
def keyD : Key → D
  | .inl i => .int i
  | .inr s => .str s
def blsOf : List D → Option (List Bool)
  | [] => some []
  | .bl i :: r => (blsOf r).map (i :: ·)
  | _ => none
def D.items : D → Option (List D)
  | .lst xs => some xs
  | .tup xs => some xs
  | .scr ns => some (ns.map D.int)
  | _ => none
def maxI : Int → List Int → Int
  | m, [] => m
  | m, x :: r => maxI (if x > m then x else m) r
def minI : Int → List Int → Int
  | m, [] => m
  | m, x :: r => minI (if x < m then x else m) r
def insI (x : Int) : List Int → List Int
  | [] => [x]
  | y :: r => if x ≤ y then x :: y :: r else y :: insI x r
def isort : List Int → List Int
  | [] => []
  | x :: r => insI x (isort r)
def pairsOf : List D → Option (List (Int × Int))
  | [] => some []
  | .tup [.int i, .int j] :: r => (pairsOf r).map ((i, j) :: ·)
  | _ => none
abbrev lexP (p q : Int × Int) : Prop := p.1 < q.1 ∨ (p.1 = q.1 ∧ p.2 ≤ q.2)
def insP (x : Int × Int) : List (Int × Int) → List (Int × Int)
  | [] => [x]
  | y :: r => if lexP x y then x :: y :: r else y :: insP x r
def psort : List (Int × Int) → List (Int × Int)
  | [] => []
  | x :: r => insP x (psort r)
def dQ (p : Int × Int) : D := .tup [.int p.1, .int p.2]
def f1D : F1 → D → Option T
  | .len, a => (lenD a).map fun n => .cl (.int n)
  | .int, .int i => some (.cl (.int i))
  | .int, .bl b => some (.cl (.int (if b then 1 else 0)))
  | .str, .int i => if i.natAbs.log2 < 1920 then some (.cl (.str (toString i))) else none
  | .repr, a => match a.py with
    | some x => if x.showable && !x.hasDict && decide (x.shown.length ≤ sizeLine) && decide (x.depth ≤ 40) then some (.cl (.str x.shown)) else none
    | none => none
  | .tuple, .lst xs => some (.cl (.tup xs))
  | .tuple, .tup xs => some (.cl (.tup xs))
  | .list, .lst xs => some (.ls (cls xs))
  | .list, .tup xs => some (.ls (cls xs))
  | .list, .scr ns => some (.ls (cls (ns.map D.int)))
  | .sum, .lst xs => (intsOf xs).map fun ns => .cl (.int ns.sum)
  | .sum, .tup xs => (intsOf xs).map fun ns => .cl (.int ns.sum)
  | .max, .lst xs => (intsOf xs).bind fun | [] => none | m :: r => some (.cl (.int (maxI m r)))
  | .min, .lst xs => (intsOf xs).bind fun | [] => none | m :: r => some (.cl (.int (minI m r)))
  | .abs, .int i => some (.cl (.int (if i < 0 then -i else i)))
  | .all, .lst xs => (blsOf xs).map fun bs => .cl (.bl (bs.all id))
  | .any, .lst xs => (blsOf xs).map fun bs => .cl (.bl (bs.any id))
  | .sorted, .lst xs => match intsOf xs with
    | some ns => some (.ls (cls ((isort ns).map D.int)))
    | none => (pairsOf xs).bind fun ps => if decide (ps.length < 64) && ps.all (fun p => decide (0 ≤ p.1) && decide (0 ≤ p.2)) then some (.ls (cls ((psort ps).map dQ))) else none
  | _, _ => none
def f2D : F2 → D → D → Option D
  | .max, .int i, .int j => some (.int (if j > i then j else i))
  | .min, .int i, .int j => some (.int (if j < i then j else i))
  | _, _, _ => none
def optI : Option D → Option (Option Int)
  | none => some none
  | some (.int i) => some (some i)
  | _ => none
def cut {α : Type} (xs : List α) (lo hi : Option Int) : List α := (xs.drop (HT.sIx xs.length 0 lo)).take (HT.sIx xs.length xs.length hi - HT.sIx xs.length 0 lo)
def slD : D → Option Int → Option Int → Option T
  | .lst xs, lo, hi => some (.ls (cls (cut xs lo hi)))
  | .scr ns, lo, hi => some (.ls (cls ((cut ns lo hi).map D.int)))
  | .tup xs, lo, hi => some (.cl (.tup (cut xs lo hi)))
  | .str s, lo, hi => if s.length ≤ sizeLine then some (.cl (.str (cutS s lo hi))) else none
  | _, _, _ => none
def slkD : D → Option Int → Nat → Option T
  | .lst xs, lo, k => some (.ls (cls (HT.pickK xs (HT.sIx xs.length 0 lo) k)))
  | .tup xs, lo, k => some (.cl (.tup (HT.pickK xs (HT.sIx xs.length 0 lo) k)))
  | _, _, _ => none
def revD : D → Option T
  | .lst xs => some (.ls (cls xs.reverse))
  | _ => none
def T.leaves : List T → Option (List D)
  | [] => some []
  | .cl d :: r => (T.leaves r).map (d :: ·)
  | _ => none
def T.items : T → Option (List D)
  | .cl d => d.items
  | .ls ts => T.leaves ts
  | _ => none
def T.lst : T → Option (List D)
  | .cl (.lst xs) => some xs
  | .ls ts => T.leaves ts
  | _ => none
def enumD : Nat → List D → List D
  | _, [] => []
  | i, d :: r => .tup [.int i, d] :: enumD (i + 1) r
def zipD : List D → List D → List D
  | a :: as, b :: bs => .tup [a, b] :: zipD as bs
  | _, _ => []
def rngD (lo : Int) (n : Nat) : List D := (List.range n).map fun (i : Nat) => .int (lo + (i : Int))
def rgOk (a b : Int) : Bool := decide (-(2 ^ 62) ≤ a) && decide (a < 2 ^ 62) && decide (-(2 ^ 62) ≤ b) && decide (b < 2 ^ 62) && decide ((b - a).toNat ≤ 2 ^ 24)
def inRng (i : Int) : Bool := decide (-(2 ^ 62) ≤ i) && decide (i < 2 ^ 62)
mutual
def bind (sl : Sl) : Tg → D → Option Sl
  | .var i, d => if i < sl.length then some (sl.set i (some (.v d))) else none
  | .tup ts, d => match d with
    | .tup xs => binds sl ts xs
    | .lst xs => binds sl ts xs
    | _ => none
def binds (sl : Sl) : List Tg → List D → Option Sl
  | [], [] => some sl
  | t :: ts, x :: xs => match bind sl t x with
    | some sl' => binds sl' ts xs
    | none => none
  | _, _ => none
end
def wip (sl : Sl) : List Nat → Sl
  | [] => sl
  | v :: vs => (wip sl vs).set v none
def close (rt : Rt) (k : Nat) : Rt := rt.modify k fun o => o.map fun t => .cl t.d
def lcGo (g : D → Option Sl) (c : Sl → Rt → Option (Bool × Rt)) (e : Sl → Rt → Option (T × Rt)) : List D → List T → Rt → Option (List T × Rt)
  | [], acc, rt => some (acc, rt)
  | x :: xs, acc, rt => match g x with
    | none => none
    | some sl => match c sl rt with
      | none => none
      | some (false, rt) => lcGo g c e xs acc rt
      | some (true, rt) => match e sl rt with
        | none => none
        | some (t, rt) => if acc.length < sizeLine then lcGo g c e xs (acc ++ [t]) rt else none
def lc2Go (g : D → Option Sl) (i1 : Sl → Rt → Option (List D × Rt)) (g1 : Sl → D → Option Sl) (e : Sl → Rt → Option (T × Rt)) : List D → List T → Rt → Option (List T × Rt)
  | [], acc, rt => some (acc, rt)
  | x :: xs, acc, rt => match g x with
    | none => none
    | some sl => match i1 sl rt with
      | none => none
      | some (ys, rt) => match lcGo (g1 sl) (fun _ rt => some (true, rt)) e ys acc rt with
        | none => none
        | some (acc, rt) => lc2Go g i1 g1 e xs acc rt
def dcGo (g : D → Option Sl) (e f : Sl → Rt → Option (T × Rt)) : List D → List (Int × Int) → Rt → Option (List (Int × Int) × Rt)
  | [], acc, rt => some (acc, rt)
  | x :: xs, acc, rt => match g x with
    | none => none
    | some sl => match e sl rt with
      | some (.cl (.int i), rt) => match f sl rt with
        | some (.cl (.int j), rt) => if acc.length < sizeLine ∧ (acc.all fun p => decide (p.1 ≠ i)) = true then dcGo g e f xs (acc ++ [(i, j)]) rt else none
        | _ => none
      | _ => none
def dcT (acc : List (Int × Int)) : T := .dc (acc.map fun p => .inl p.1) (acc.map fun p => .cl (.int p.2))
abbrev Fs := Nat → List T → Option (T × List T)
def argsOf (rt : Rt) : List (D ⊕ Nat) → Option (List T)
  | [] => some []
  | .inl d :: r => (argsOf rt r).map (.cl d :: ·)
  | .inr k :: r => match rt[k]? with
    | some (some t) => (argsOf rt r).map (t :: ·)
    | _ => none
def backOf (rt : Rt) : List (D ⊕ Nat) → List T → Rt
  | .inr k :: r, t :: ts => backOf (rt.set k (some t)) r ts
  | .inl _ :: r, _ :: ts => backOf rt r ts
  | _, _ => rt
def clr (rt : Rt) : List (D ⊕ Nat) → Rt
  | [] => rt
  | .inl _ :: r => clr rt r
  | .inr k :: r => clr (rt.set k none) r
def mutsOf : List (D ⊕ Nat) → List Nat
  | [] => []
  | .inl _ :: r => mutsOf r
  | .inr k :: r => k :: mutsOf r
def perm (xs : List α) : List Nat → Option (List α)
  | [] => some []
  | i :: r => match xs[i]?, perm xs r with | some x, some ys => some (x :: ys) | _, _ => none
def callGo (F : Fs) (f : Nat) (pm : List Nat) (xs : List (D ⊕ Nat)) (rt : Rt) : Option (T × Rt) := match perm xs pm with
  | none => none
  | some xs => if (mutsOf xs).Nodup then match argsOf rt xs with
      | none => none
      | some ts => match F f ts with
        | none => none
        | some (r, ts') => if ts'.length = ts.length then some (r, backOf (clr rt xs) xs ts') else none
    else none
def clsOf (rt : Rt) : D ⊕ Nat → Option (Nat × List Str)
  | .inl (.ins c ns _) => some (c, ns)
  | .inr k => match rt[k]? with
    | some (some (.ob c ns _)) => some (c, ns)
    | some (some (.cl (.ins c ns _))) => some (c, ns)
    | _ => none
  | _ => none
def recv (c : Nat) (m : Str) (rt : Rt) (x : D ⊕ Nat) : Bool := match clsOf rt x with
  | some (c', ns) => c' == c && !ns.contains m
  | none => false
def isC (c : Nat) (rt : Rt) (x : D ⊕ Nat) : Bool := match clsOf rt x with
  | some (c', _) => c' == c
  | none => false
def allD : List (D ⊕ Nat) → Option (List D)
  | [] => some []
  | .inl d :: r => (allD r).map (d :: ·)
  | .inr _ :: _ => none
def mkGo (F : Fs) (c f : Nat) (pm : List Nat) (xs : List (D ⊕ Nat)) : Option T := match allD xs with
  | none => none
  | some ds => match perm (.ob c [] [] :: ds.map T.cl) pm with
    | none => none
    | some us => if pm.head? = some 0 ∧ 0 ∉ pm.tail then match F f us with
        | some (.cl .non, t :: ts) => if ts.length + 1 = us.length then some t else none
        | _ => none
      else none
def tyD : D → Str ⊕ Nat
  | .non => .inl "NoneType" | .bl _ => .inl "bool" | .int _ => .inl "int" | .str _ => .inl "str" | .tup _ => .inl "tuple" | .lst _ => .inl "list" | .scr _ => .inl "list" | .dct _ _ => .inl "dict" | .ins c _ _ => .inr c
def isiD : Ty → D → Option Bool
  | .bi n, d => match tyD d with
    | .inl m => some (m == n || (m == ("bool" : Str) && n == ("int" : Str)))
    | .inr _ => none
  | .own c n, d => match tyD d with
    | .inl _ => some false
    | .inr c' => if c' < n then some (c' == c) else none
def putN (f : Str) (t : T) : List Str → List T → List Str × List T
  | n :: ns, u :: ts => if n = f then (n :: ns, t :: ts) else let r := putN f t ns ts; (n :: r.1, u :: r.2)
  | _, _ => ([f], [t])
def tstOf : Option (T × Rt) → Option (Bool × Rt)
  | some (.cl (.bl b), rt) => some (b, rt)
  | _ => none
structure Cfg where
  F : Fs
  np : Nat
  g : List (Str × D)
mutual
def ev (c : Cfg) (mv : Bool) (sl : Sl) : E → Rt → Option (T × Rt)
  | .int i, rt => some (.cl (.int i), rt)
  | .bl b, rt => some (.cl (.bl b), rt)
  | .non, rt => some (.cl .non, rt)
  | .str s, rt => some (.cl (.str s), rt)
  | .glb x, rt => match c.g.lookup x with
    | some d => some (.cl d, rt)
    | none => none
  | .x e, rt => match x0 sl rt e with
    | some d => some (.cl d, rt)
    | none => none
  | .get p, rt => match pt sl rt p with
    | some (.cl d) => some (.cl d, rt)
    | some t => match sl[p.root]? with
      | some (some (.r k)) => if mv && p.isVar && decide (c.np ≤ k) then some (t, rt.set k none) else some (.cl t.d, close rt k)
      | _ => none
    | none => none
  | .bin op a b, rt => match ev c false sl a rt with
    | none => none
    | some (x, rt) => match ev c false sl b rt with
      | none => none
      | some (y, rt) => (opB op x.d y.d).map fun t => (t, rt)
  | .neg a, rt => match ev c false sl a rt with
    | some (.cl (.int i), rt) => some (.cl (.int (-i)), rt)
    | _ => none
  | .cmp op a b, rt => match ev c false sl a rt with
    | none => none
    | some (x, rt) => match ev c false sl b rt with
      | none => none
      | some (y, rt) => (opC op x.d y.d).map fun t => (.cl (.bl t), rt)
  | .emp n p, rt => match pt sl rt p with
    | some t => (eqD t.d (.lst [])).map fun b => (.cl (.bl (if n then !b else b)), rt)
    | none => none
  | .dn, rt => some (.dc [] [], rt)
  | .dcc own tg it kx vx, rt => match evI c sl it rt with
    | none => none
    | some (xs, rt) => match dcGo (fun x => bind (wip sl own) tg x) (fun sl rt => ev c false sl kx rt) (fun sl rt => ev c false sl vx rt) xs [] rt with
      | some (acc, rt) => some (dcT acc, rt)
      | none => none
  | .kls p, rt => match pt sl rt p with
    | some (.dc ks _) => some (.ls (cls (ks.map keyD)), rt)
    | some (.cl (.dct ks _)) => some (.ls (cls (ks.map keyD)), rt)
    | _ => none
  | .popi i a, rt => match pt sl rt (.var i) with
    | some (.ls _) => match ev c false sl a rt with
      | some (.cl (.int j), rt) => match pt sl rt (.var i) with
        | some (.ls ts) => match T.leaves ts with
          | some ds => if decide (-(2 ^ 63) ≤ j) && decide (j < 2 ^ 63) then match ixN ds.length j with
              | some n => match ds[n]? with
                | some d => (upP sl rt (.var i) (.ls (cls (ds.eraseIdx n)))).map fun rt => (.cl d, rt)
                | none => none
              | none => none
            else none
          | none => none
        | _ => none
      | _ => none
    | _ => none
  | .chn o p a b d, rt => match ev c false sl a rt with
    | none => none
    | some (x, rt) => match ev c false sl b rt with
      | none => none
      | some (y, rt) => match opC o x.d y.d with
        | some true => match ev c false sl d rt with
          | none => none
          | some (z, rt) => (opC p y.d z.d).map fun t => (.cl (.bl t), rt)
        | some false => some (.cl (.bl false), rt)
        | none => none
  | .idx a e, rt => match ev c false sl a rt with
    | none => none
    | some (x, rt) => match ev c false sl e rt with
      | none => none
      | some (y, rt) => (idxD x.d y.d).map fun n => (.cl (.int ((n : Nat) : Int)), rt)
  | .inn n a p, rt => match ev c false sl a rt with
    | none => none
    | some (x, rt) => match pt sl rt p with
      | none => none
      | some t => (inD x.d t.d).map fun b => (.cl (.bl (if n then !b else b)), rt)
  | .and a b, rt => match ev c false sl a rt with
    | some (.cl (.bl true), rt) => ev c false sl b rt
    | some (.cl (.bl false), rt) => some (.cl (.bl false), rt)
    | _ => none
  | .or a b, rt => match ev c false sl a rt with
    | some (.cl (.bl true), rt) => some (.cl (.bl true), rt)
    | some (.cl (.bl false), rt) => ev c false sl b rt
    | _ => none
  | .not a, rt => match ev c false sl a rt with
    | some (.cl (.bl b), rt) => some (.cl (.bl (!b)), rt)
    | _ => none
  | .ife t a b, rt => match ev c false sl t rt with
    | some (.cl (.bl true), rt) => ev c mv sl a rt
    | some (.cl (.bl false), rt) => ev c mv sl b rt
    | _ => none
  | .tup es, rt => match evs c false sl es rt with
    | some (ts, rt) => if ts.length ≤ sizeLine then some (.cl (.tup (T.ds ts)), rt) else none
    | none => none
  | .lst es, rt => match evs c mv sl es rt with
    | some (ts, rt) => if ts.length ≤ sizeLine then some (.ls ts, rt) else none
    | none => none
  | .ix a i, rt => match ev c false sl a rt with
    | none => none
    | some (x, rt) => match ev c false sl i rt with
      | none => none
      | some (y, rt) => (ixD x.d y.d).map fun d => (.cl d, rt)
  | .sl a lo hi, rt => match ev c false sl a rt with
    | none => none
    | some (x, rt) => match (match lo with | none => some none | some e => (x0 sl rt e).bind fun d => optI (some d)), (match hi with | none => some none | some e => (x0 sl rt e).bind fun d => optI (some d)) with
      | some l, some h => (slD x.d l h).map fun t => (t, rt)
      | _, _ => none
  | .sls a lo st, rt => match ev c false sl a rt with
    | none => none
    | some (x, rt) => match (match lo with | none => some none | some e => (x0 sl rt e).bind fun d => optI (some d)), x0 sl rt st with
      | some l, some (.int k) => if 1 ≤ k then (slkD x.d l k.toNat).map fun t => (t, rt) else none
      | _, _ => none
  | .rev a, rt => match ev c false sl a rt with
    | none => none
    | some (x, rt) => (revD x.d).map fun t => (t, rt)
  | .at a f, rt => match ev c false sl a rt with
    | none => none
    | some (x, rt) => (atD x.d f).map fun d => (.cl d, rt)
  | .call f es kw pm, rt => match evA c sl es rt with
    | none => none
    | some (as, rt) => match evA c sl kw rt with
      | none => none
      | some (bs, rt) => callGo c.F f pm (as ++ bs) rt
  | .f1 f a, rt => match ev c false sl a rt with
    | none => none
    | some (x, rt) => (f1D f x.d).map fun t => (t, rt)
  | .f1p f p, rt => match pt sl rt p with
    | none => none
    | some x => match x.items with
      | none => none
      | some _ => (f1D f x.d).map fun t => (t, rt)
  | .f2 f a b, rt => match ev c false sl a rt with
    | none => none
    | some (x, rt) => match ev c false sl b rt with
      | none => none
      | some (y, rt) => (f2D f x.d y.d).map fun d => (.cl d, rt)
  | .lrg1 tu b, rt => match ev c false sl b rt with
    | some (.cl (.int n), rt) => if rgOk 0 n then some (if tu then .cl (.tup (rngD 0 n.toNat)) else .ls (cls (rngD 0 n.toNat)), rt) else none
    | _ => none
  | .lrg2 tu a b, rt => match ev c false sl a rt with
    | some (.cl (.int m), rt) => match ev c false sl b rt with
      | some (.cl (.int n), rt) => if rgOk m n then some (if tu then .cl (.tup (rngD m (n - m).toNat)) else .ls (cls (rngD m (n - m).toNat)), rt) else none
      | _ => none
    | _ => none
  | .pop p, rt => match pt sl rt p with
    | some (.ls ts) => match ts.getLast? with
      | some t => (upP sl rt p (.ls ts.dropLast)).map fun rt => (t, rt)
      | none => none
    | _ => none
  | .lc own tg it cond elt, rt => match evI c sl it rt with
    | none => none
    | some (xs, rt) => match lcGo (fun x => bind (wip sl own) tg x) (fun sl rt => tstOf (ev c false sl cond rt)) (fun sl rt => ev c false sl elt rt) xs [] rt with
      | some (ts, rt) => some (.ls ts, rt)
      | none => none
  | .dct ks es, rt => match evs c mv sl es rt with
    | some (ts, rt) => if ts.length = ks.length ∧ ks.Nodup ∧ ks.length ≤ 15 ∧ ks ≠ [] then some (.dc ks ts, rt) else none
    | none => none
  | .isi t a, rt => match ev c false sl a rt with
    | none => none
    | some (x, rt) => (isiD t x.d).map fun b => (.cl (.bl b), rt)
  | .mk cc f es kw pm, rt => match evA c sl es rt with
    | none => none
    | some (as, rt) => match evA c sl kw rt with
      | none => none
      | some (bs, rt) => (mkGo c.F cc f pm (as ++ bs)).map fun t => (t, rt)
  | .mkS cc f e pm, rt => match ev c false sl e rt with
    | none => none
    | some (x, rt) => match x.d.items with
      | none => none
      | some ds => if ds.length + 1 = pm.length then (mkGo c.F cc f pm (ds.map .inl)).map fun t => (t, rt) else none
  | .meth cc m f o es kw pm, rt => match evA c sl o rt with
    | some ([x], rt) => if recv cc m rt x then match evA c sl es rt with
        | none => none
        | some (as, rt) => match evA c sl kw rt with
          | none => none
          | some (bs, rt) => callGo c.F f pm (x :: (as ++ bs)) rt
      else none
    | _ => none
  | .methS cc m f o es, rt => match evA c sl o rt with
    | some ([x], rt) => if recv cc m rt x then match evA c sl es rt with
        | none => none
        | some (as, rt) => match allD as with
          | some ds => if ds.length ≤ 1000 then callGo c.F f [0, 1] [x, .inl (.tup ds)] rt else none
          | none => none
      else none
    | _ => none
  | .callS f es, rt => match evA c sl es rt with
    | none => none
    | some (as, rt) => match allD as with
      | some ds => if ds.length ≤ 1000 then callGo c.F f [0] [.inl (.tup ds)] rt else none
      | none => none
  | .oop cc f _ a b, rt => match ev c false sl a rt with
    | none => none
    | some (x, rt) => match ev c false sl b rt with
      | none => none
      | some (y, rt) => if isC cc rt (.inl x.d) && isC cc rt (.inl y.d) then match callGo c.F f [0, 1] [.inl x.d, .inl y.d] rt with
          | some (.ob c' ns ts, rt) => some (.ob c' ns ts, rt)
          | _ => none
        else none
  | .lc2 own own1 tg it tg1 it1 elt, rt => match evI c sl it rt with
    | none => none
    | some (xs, rt) => match lc2Go (fun x => bind (wip sl own) tg x) (fun sl rt => evI c sl it1 rt) (fun sl x => bind (wip sl own1) tg1 x) (fun sl rt => ev c false sl elt rt) xs [] rt with
      | some (ts, rt) => some (.ls ts, rt)
      | none => none
  | .methD cc m f o es kw dv pm, rt => match evA c sl o rt with
    | some ([x], rt) => if recv cc m rt x then match evA c sl es rt with
        | none => none
        | some (as, rt) => match evA c sl kw rt with
          | none => none
          | some (bs, rt) => callGo c.F f pm (x :: ((as ++ bs) ++ dv.map fun d => .inl d.d)) rt
      else none
    | _ => none
  | .mkD cc f es kw dv pm, rt => match evA c sl es rt with
    | none => none
    | some (as, rt) => match evA c sl kw rt with
      | none => none
      | some (bs, rt) => (mkGo c.F cc f pm ((as ++ bs) ++ dv.map fun d => .inl d.d)).map fun t => (t, rt)
  | .prop cc _ f o, rt => match evA c sl o rt with
    | some ([x], rt) => if isC cc rt x then callGo c.F f [0] [x] rt else none
    | _ => none
  | .olen cc f o, rt => match evA c sl o rt with
    | some ([x], rt) => if isC cc rt x then match callGo c.F f [0] [x] rt with
        | some (.cl (.int n), rt) => if 0 ≤ n ∧ n < 2 ^ 63 then some (.cl (.int n), rt) else none
        | _ => none
      else none
    | _ => none
  | .oeq cc f a b, rt => match ev c false sl a rt with
    | none => none
    | some (x, rt) => match ev c false sl b rt with
      | none => none
      | some (y, rt) => if isC cc rt (.inl x.d) && isC cc rt (.inl y.d) then match callGo c.F f [0, 1] [.inl x.d, .inl y.d] rt with
          | some (.cl (.bl v), rt) => some (.cl (.bl v), rt)
          | _ => none
        else none
def evs (c : Cfg) (mv : Bool) (sl : Sl) : Es → Rt → Option (List T × Rt)
  | .nil, rt => some ([], rt)
  | .cons e r, rt => match ev c mv sl e rt with
    | none => none
    | some (t, rt) => match evs c mv sl r rt with
      | none => none
      | some (ts, rt) => some (t :: ts, rt)
  | .mut _ _, _ => none
  | .star e r, rt => match ev c false sl e rt with
    | none => none
    | some (x, rt) => match x.d.items with
      | none => none
      | some ds => match evs c mv sl r rt with
        | none => none
        | some (ts, rt) => some (cls ds ++ ts, rt)
def evA (c : Cfg) (sl : Sl) : Es → Rt → Option (List (D ⊕ Nat) × Rt)
  | .nil, rt => some ([], rt)
  | .cons e r, rt => match ev c false sl e rt with
    | none => none
    | some (t, rt) => match evA c sl r rt with
      | none => none
      | some (ts, rt) => some (.inl t.d :: ts, rt)
  | .mut i r, rt => match sl[i]? with
    | some (some (.r k)) => match evA c sl r rt with
      | none => none
      | some (ts, rt) => some (.inr k :: ts, rt)
    | some (some (.v d)) => match evA c sl r rt with
      | none => none
      | some (ts, rt) => some (.inl d :: ts, rt)
    | _ => none
  | .star _ _, _ => none
def evI (c : Cfg) (sl : Sl) : It → Rt → Option (List D × Rt)
  | .rng1 a, rt => match ev c false sl a rt with
    | some (.cl (.int n), rt) => if inRng n then some (rngD 0 n.toNat, rt) else none
    | _ => none
  | .rng2 a b, rt => match ev c false sl a rt with
    | some (.cl (.int m), rt) => match ev c false sl b rt with
      | some (.cl (.int n), rt) => if inRng m && inRng n then some (rngD m (n - m).toNat, rt) else none
      | _ => none
    | _ => none
  | .seq a, rt => match ev c false sl a rt with
    | none => none
    | some (x, rt) => x.d.items.map fun xs => (xs, rt)
  | .pth p, rt => match pt sl rt p with
    | none => none
    | some t => t.items.map fun xs => (xs, rt)
  | .enum a, rt => match ev c false sl a rt with
    | none => none
    | some (x, rt) => match x.d with
      | .lst xs => some (enumD 0 xs, rt)
      | .tup xs => some (enumD 0 xs, rt)
      | _ => none
  | .enumP p, rt => match pt sl rt p with
    | none => none
    | some t => match t.lst with
      | some xs => some (enumD 0 xs, rt)
      | none => none
  | .zip a b, rt => match ev c false sl a rt with
    | none => none
    | some (x, rt) => match ev c false sl b rt with
      | none => none
      | some (y, rt) => match x.d, y.d with
        | .lst xs, .lst ys => some (zipD xs ys, rt)
        | .tup xs, .tup ys => some (zipD xs ys, rt)
        | _, _ => none
end
inductive Fl where
  | nx | rt (t : T) | bk | ct
def usedBy (sl : Sl) (i k : Nat) : Nat → Bool
  | 0 => false
  | n + 1 => usedBy sl i k n || (n != i && (match sl[n]? with | some (some (.r k')) => k' == k | _ => false))
def store (c : Cfg) (i : Nat) (t : T) (sl : Sl) (rt : Rt) : Option (Sl × Rt) :=
  if i < sl.length then match t with
    | .cl d => some (sl.set i (some (.v d)), rt)
    | t => if usedBy sl i (c.np + i) sl.length then none
      else if c.np + i < rt.length then some (sl.set i (some (.r (c.np + i))), rt.set (c.np + i) (some t)) else none
  else none
abbrev R3 := Option (Fl × Sl × Rt)
def forGo (g : Sl → D → Option Sl) (b : Sl → Rt → R3) : List D → Sl → Rt → R3
  | [], sl, rt => some (.nx, sl, rt)
  | x :: xs, sl, rt => match g sl x with
    | none => none
    | some sl => match b sl rt with
      | some (.nx, sl, rt) => forGo g b xs sl rt
      | some (.ct, sl, rt) => forGo g b xs sl rt
      | some (.bk, sl, rt) => some (.nx, sl, rt)
      | some (.rt t, sl, rt) => some (.rt t, sl, rt)
      | none => none
def forGoV (g : Sl → D → Option Sl) (b : Sl → Rt → R3) (i k n : Nat) : Nat → Nat → Sl → Rt → R3
  | 0, _, sl, rt => match rt[k]? with
    | some (some t) => match t.lst with
      | some xs => if xs.length = n then some (.nx, sl, rt) else none
      | none => none
    | _ => none
  | m + 1, j, sl, rt => match rt[k]? with
    | some (some t) => match t.lst with
      | some xs => if xs.length = n then match xs[j]? with
          | none => none
          | some x => match g sl x with
            | none => none
            | some sl => match b sl rt with
              | some (.nx, sl, rt) => forGoV g b i k n m (j + 1) sl rt
              | some (.ct, sl, rt) => forGoV g b i k n m (j + 1) sl rt
              | some (.bk, sl, rt) => some (.nx, sl, rt)
              | some (.rt t, sl, rt) => some (.rt t, sl, rt)
              | none => none
        else none
      | none => none
    | _ => none
def whGo (c : Sl → Rt → Option (Bool × Rt)) (b : Sl → Rt → R3) : Nat → Sl → Rt → R3
  | 0, _, _ => none
  | n + 1, sl, rt => match c sl rt with
    | none => none
    | some (false, rt) => some (.nx, sl, rt)
    | some (true, rt) => match b sl rt with
      | some (.nx, sl, rt) => whGo c b n sl rt
      | some (.ct, sl, rt) => whGo c b n sl rt
      | some (.bk, sl, rt) => some (.nx, sl, rt)
      | some (.rt t, sl, rt) => some (.rt t, sl, rt)
      | none => none
def whMax : Nat := 1000000000
def evq (sl : Sl) (rt : Rt) : E → Option D
  | .int i => some (.int i)
  | .bl b => some (.bl b)
  | .non => some .non
  | .str s => some (.str s)
  | .get p => match pt sl rt p with
    | some (.cl d) => some d
    | _ => none
  | .bin op a b => match evq sl rt a, evq sl rt b with
    | some x, some y => match opB op x y with | some (.cl d) => some d | _ => none
    | _, _ => none
  | .neg a => match evq sl rt a with
    | some (.int i) => some (.int (-i))
    | _ => none
  | .x e => x0 sl rt e
  | .tup (.cons a (.cons b .nil)) => match evq sl rt a, evq sl rt b with
    | some x, some y => some (.tup [x, y])
    | _, _ => none
  | _ => none
def Tg.slots : Tg → List Nat
  | .var i => [i]
  | .tup ts => slotss ts
where slotss : List Tg → List Nat
  | [] => []
  | t :: r => Tg.slots t ++ slotss r
mutual
def St.stores : St → List Nat
  | .asg i _ => [i]
  | .par i j _ _ => [j, i]
  | .parN i j _ _ => [i, j]
  | .aug i _ _ => [i]
  | .ite _ a b => a.stores ++ b.stores
  | .fr _ _ b => b.stores
  | .frV _ _ b => b.stores
  | .wh _ b => b.stores
  | _ => []
def Ss.stores : Ss → List Nat
  | .nil => []
  | .cons s r => s.stores ++ r.stores
end
mutual
def ex (c : Cfg) : St → Sl → Rt → R3
  | .asg i e, sl, rt => match ev c false sl e rt with
    | none => none
    | some (t, rt) => (store c i t sl rt).map fun p => (.nx, p)
  | .al i j, sl, rt => match sl[j]? with
    | some (some s) => if i < sl.length then some (.nx, sl.set i (some s), rt) else none
    | _ => none
  | .par i j a b, sl, rt => match ev c false sl a rt with
    | none => none
    | some (x, rt) => match ev c false sl b rt with
      | none => none
      | some (y, rt) => match store c j y sl rt with
        | none => none
        | some (sl, rt) => (store c i x sl rt).map fun p => (.nx, p)
  | .parN i j a b, sl, rt => match ev c false sl a rt with
    | none => none
    | some (x, rt) => match ev c false sl b rt with
      | none => none
      | some (y, rt) => match store c i x sl rt with
        | none => none
        | some (sl, rt) => (store c j y sl rt).map fun p => (.nx, p)
  | .asgT tg e, sl, rt => match ev c false sl e rt with
    | none => none
    | some (t, rt) => (bind sl tg t.d).map fun sl => (.nx, sl, rt)
  | .setx p x e, sl, rt => match ev c false sl e rt with
    | none => none
    | some (t, rt) => match pt sl rt p, x0 sl rt x with
      | some u, some i => match putIxT u i t with
        | none => none
        | some u => (upP sl rt p u).map fun rt => (.nx, sl, rt)
      | _, _ => none
  | .app p e, sl, rt => match pt sl rt p with
    | some (.ls _) => match (if p.isVar then ev c false sl e rt else (evq sl rt e).map fun d => (.cl d, rt)) with
      | none => none
      | some (t, rt) => match pt sl rt p with
        | some (.ls ts) => if ts.length < sizeLine then (upP sl rt p (.ls (ts ++ [t]))).map fun rt => (.nx, sl, rt) else none
        | _ => none
    | _ => none
  | .aug i op e, sl, rt => match sl[i]? with
    | some (some (.v (.int a))) => match ev c false sl e rt with
      | some (.cl (.int b), rt) => match op with
        | .add => (store c i (.cl (.int (a + b))) sl rt).map fun p => (.nx, p)
        | .sub => (store c i (.cl (.int (a - b))) sl rt).map fun p => (.nx, p)
        | _ => none
      | _ => none
    | _ => none
  | .fld p f e, sl, rt => match ev c false sl e rt with
    | none => none
    | some (t, rt) => match pt sl rt p with
      | some (.ob cc ns ts) => if ns.length < 1000 then (upP sl rt p (.ob cc (putN f t ns ts).1 (putN f t ns ts).2)).map fun rt => (.nx, sl, rt) else none
      | _ => none
  | .fld2 p f g e, sl, rt => match ev c false sl e rt with
    | none => none
    | some (t, rt) => match t.d with
      | .tup [x, y] => match pt sl rt p with
        | some (.ob cc ns ts) => if ns.length < 1000 then match upP sl rt p (.ob cc (putN f (.cl x) ns ts).1 (putN f (.cl x) ns ts).2) with
            | some rt => match pt sl rt p with
              | some (.ob cc ns ts) => if ns.length < 1000 then (upP sl rt p (.ob cc (putN g (.cl y) ns ts).1 (putN g (.cl y) ns ts).2)).map fun rt => (.nx, sl, rt) else none
              | _ => none
            | none => none
          else none
        | _ => none
      | _ => none
  | .fldaug p f op e, sl, rt => match pt sl rt p with
    | some (.ob cc ns ts) => match lookN ns ts f, evq sl rt e with
      | some (.cl (.int a)), some (.int b) => if ns.length < 1000 then match op with
          | .add => (upP sl rt p (.ob cc ns (upP.setN f (.cl (.int (a + b))) ns ts))).map fun rt => (.nx, sl, rt)
          | .sub => (upP sl rt p (.ob cc ns (upP.setN f (.cl (.int (a - b))) ns ts))).map fun rt => (.nx, sl, rt)
          | _ => none
        else none
      | _, _ => none
    | _ => none
  | .augx p x op e, sl, rt => match pt sl rt p, x0 sl rt x, evq sl rt e with
    | some (.ls ts), some (.int i), some (.int b) => match ixT (.ls ts) (.int i) with
      | some (.cl (.int a)) => match op with
        | .add => match setIxT (.ls ts) (.int i) (.cl (.int (a + b))) with
          | some u => (upP sl rt p u).map fun rt => (.nx, sl, rt)
          | none => none
        | .sub => match setIxT (.ls ts) (.int i) (.cl (.int (a - b))) with
          | some u => (upP sl rt p u).map fun rt => (.nx, sl, rt)
          | none => none
        | _ => none
      | _ => none
    | _, _, _ => none
  | .ext i e, sl, rt => match pt sl rt (.var i) with
    | some (.ls _) => match ev c false sl e rt with
      | none => none
      | some (x, rt) => match x.d with
        | .lst ds => match pt sl rt (.var i) with
          | some (.ls ts) => if ts.length + ds.length ≤ sizeLine then (upP sl rt (.var i) (.ls (ts ++ cls ds))).map fun rt => (.nx, sl, rt) else none
          | _ => none
        | _ => none
    | _ => none
  | .ex e, sl, rt => match ev c false sl e rt with
    | none => none
    | some (_, rt) => some (.nx, sl, rt)
  | .ite e a b, sl, rt => match tstOf (ev c false sl e rt) with
    | none => none
    | some (true, rt) => exs c a sl rt
    | some (false, rt) => exs c b sl rt
  | .fr tg it b, sl, rt => match evI c sl it rt with
    | none => none
    | some (xs, rt) => forGo (fun sl x => bind sl tg x) (fun sl rt => exs c b sl rt) xs sl rt
  | .frV tg i b, sl, rt => match sl[i]? with
    | some (some (.r k)) => if b.stores.all (fun j => k != c.np + j) then match rt[k]? with
      | some (some t) => match t.lst with
        | some xs => forGoV (fun sl x => bind sl tg x) (fun sl rt => exs c b sl rt) i k xs.length xs.length 0 sl rt
        | none => none
      | _ => none
      else none
    | _ => none
  | .wh e b, sl, rt => whGo (fun sl rt => tstOf (ev c false sl e rt)) (fun sl rt => exs c b sl rt) whMax sl rt
  | .ret e, sl, rt => match ev c true sl e rt with
    | none => none
    | some (t, rt) => some (.rt t, sl, rt)
  | .retN, sl, rt => some (.rt (.cl .non), sl, rt)
  | .brk, sl, rt => some (.bk, sl, rt)
  | .ct, sl, rt => some (.ct, sl, rt)
  | .nop, sl, rt => some (.nx, sl, rt)
  | .never, _, _ => none
def exs (c : Cfg) : Ss → Sl → Rt → R3
  | .nil, sl, rt => some (.nx, sl, rt)
  | .cons s r, sl, rt => match ex c s sl rt with
    | some (.nx, sl, rt) => exs c r sl rt
    | o => o
end
structure Fn where
  np : Nat
  ns : Nat
  body : Ss
def startSl (np ns : Nat) : Sl := (List.range np).map (fun k => some (.r k)) ++ List.replicate (ns - np) none
def startRt (ns : Nat) (as : List T) : Rt := as.map some ++ List.replicate ns none
def somes : List (Option T) → Option (List T)
  | [] => some []
  | some t :: r => (somes r).map (t :: ·)
  | none :: _ => none
def runFn (g : List (Str × D)) (F : Fs) (f : Fn) (as : List T) : Option (T × List T) :=
  if as.length = f.np then match exs ⟨F, f.np, g⟩ f.body (startSl f.np f.ns) (startRt f.ns as) with
    | some (.rt t, _, rt) => (somes (rt.take f.np)).map fun as => (t, as)
    | some (.nx, _, rt) => (somes (rt.take f.np)).map fun as => (.cl .non, as)
    | _ => none
  else none
def sem (g : List (Str × D)) (G : List Fn) : Nat → Fs
  | 0 => fun _ _ => none
  | k + 1 => fun f as => match G[f]? with
    | none => none
    | some fn => runFn g (sem g G k) fn as
end Mi
namespace Mi
open PySem PySem.Spec PyProof.Rows L2
section
variable (K : PySem.W.Frag) (C : Nat → Addr)
mutual
/-- v stands for the data d, all of it in h -/
inductive Rep (h : Hp) : V → D → Prop
  | non : Rep h .non .non
  | bl (b : Bool) : Rep h (.bl b) (.bl b)
  | int (i : Int) : Rep h (.int i) (.int i)
  | str (x : Str) : Rep h (.str x) (.str x)
  | tup {a : Addr} {xs : List V} {ds : List D} : SqT K h a xs → Reps h xs ds → Rep h (.ref a) (.tup ds)
  | lst {a : Addr} {xs : List V} {ds : List D} : h a = some (.lst xs) → Reps h xs ds → Rep h (.ref a) (.lst ds)
  | scr {a : Addr} {ns : List Int} : SqL K h a (ns.map V.int) → Rep h (.ref a) (.scr ns)
  | dct {a : Addr} {kvs : List (Key × V)} {ks : List Key} {ds : List D} : Rd h a (.dK kvs) → kvs.map (·.1) = ks → Reps h (kvs.map (·.2)) ds → Rep h (.ref a) (.dct ks ds)
  | ins {a dx : Addr} {c : Nat} {fs : List (Str × V)} {ns : List Str} {ds : List D} : h a = some (.ins (C c) dx fs) → fs.map (·.1) = ns → Reps h (fs.map (·.2)) ds → Rep h (.ref a) (.ins c ns ds)
inductive Reps (h : Hp) : List V → List D → Prop
  | nil : Reps h [] []
  | cons {v : V} {vs : List V} {d : D} {ds : List D} : Rep h v d → Reps h vs ds → Reps h (v :: vs) (d :: ds)
end
mutual
/-- v stands for the tree t; what may change of it stands at F, in H alone; its leaves in h -/
inductive Own (h H : Hp) : V → T → List Addr → Prop
  | cl {v : V} {d : D} : Rep K C h v d → Own h H v (.cl d) []
  | ls {a : Addr} {xs : List V} {ts : List T} {F : List Addr} : H a = some (.lst xs) → h a = none → Owns h H xs ts F → a ∉ F → Own h H (.ref a) (.ls ts) (a :: F)
  | dc {a : Addr} {kvs : List (Key × V)} {ks : List Key} {ts : List T} {F : List Addr} : H a = some (.dK kvs) → h a = none → kvs.map (·.1) = ks → Owns h H (kvs.map (·.2)) ts F → a ∉ F → Own h H (.ref a) (.dc ks ts) (a :: F)
  | ob {a dx : Addr} {c : Nat} {fs : List (Str × V)} {ns : List Str} {ts : List T} {F : List Addr} : H a = some (.ins (C c) dx fs) → h a = none → fs.map (·.1) = ns → Owns h H (fs.map (·.2)) ts F → a ∉ F →
      Own h H (.ref a) (.ob c ns ts) (a :: F)
inductive Owns (h H : Hp) : List V → List T → List Addr → Prop
  | nil : Owns h H [] [] []
  | cons {v : V} {vs : List V} {t : T} {ts : List T} {F G : List Addr} : Own h H v t F → Owns h H vs ts G → (∀ a, a ∈ F → a ∉ G) → Owns h H (v :: vs) (t :: ts) (F ++ G)
end
inductive OwnR (h H : Hp) : List V → Rt → List Addr → Prop
  | nil : OwnR h H [] [] []
  | no {v : V} {vs : List V} {ts : Rt} {G : List Addr} : OwnR h H vs ts G → OwnR h H (v :: vs) (none :: ts) G
  | cons {v : V} {vs : List V} {t : T} {ts : Rt} {F G : List Addr} : Own K C h H v t F → OwnR h H vs ts G → (∀ a, a ∈ F → a ∉ G) → OwnR h H (v :: vs) (some t :: ts) (F ++ G)
end
section
variable {K : PySem.W.Frag} {C : Nat → Addr} {h h' H H' : Hp}
theorem sqT_same {a : Addr} {xs : List V} (e : Same H H') (x : SqT K H a xs) : SqT K H' a xs := by
  rcases x with (x | ⟨o, x⟩) | x
  · exact .inl (.inl (e _ _ x))
  · exact .inl (.inr ⟨o, e _ _ x⟩)
  · exact .inr x
theorem rd_same {a : Addr} {u : HO} (e : Same H H') (x : Rd H a u) : Rd H' a u := by
  rcases x with x | ⟨o, x⟩
  · exact .inl (e _ _ x)
  · exact .inr ⟨o, e _ _ x⟩
mutual
theorem Rep.mono (e : Same h h') : ∀ {v : V} {d : D}, Rep K C h v d → Rep K C h' v d
  | _, _, .non => .non
  | _, _, .bl b => .bl b
  | _, _, .int i => .int i
  | _, _, .str x => .str x
  | _, _, .tup q r => .tup (sqT_same e q) (Reps.mono e r)
  | _, _, .lst q r => .lst (e _ _ q) (Reps.mono e r)
  | _, _, .scr q => .scr (e.seq q)
  | _, _, .dct q k r => .dct (rd_same e q) k (Reps.mono e r)
  | _, _, .ins q k r => .ins (e _ _ q) k (Reps.mono e r)
theorem Reps.mono (e : Same h h') : ∀ {vs : List V} {ds : List D}, Reps K C h vs ds → Reps K C h' vs ds
  | _, _, .nil => .nil
  | _, _, .cons a r => .cons (Rep.mono e a) (Reps.mono e r)
end
theorem Reps.length : ∀ {vs : List V} {ds : List D}, Reps K C h vs ds → vs.length = ds.length
  | _, _, .nil => rfl
  | _, _, .cons _ r => congrArg (· + 1) (Reps.length r)
theorem Reps.get : ∀ {vs : List V} {ds : List D} {i : Nat} {d : D}, Reps K C h vs ds → ds[i]? = some d → ∃ v, vs[i]? = some v ∧ Rep K C h v d
  | _, _, 0, _, .cons a r, e => ⟨_, rfl, by cases e; exact a⟩
  | _, _, i + 1, _, .cons a r, e => by
    obtain ⟨v, h1, h2⟩ := Reps.get (i := i) r (by simpa using e)
    exact ⟨v, by simpa using h1, h2⟩
theorem Reps.append : ∀ {vs ws : List V} {ds es : List D}, Reps K C h vs ds → Reps K C h ws es → Reps K C h (vs ++ ws) (ds ++ es)
  | _, _, _, _, .nil, q => q
  | _, _, _, _, .cons a r, q => .cons a (Reps.append r q)
theorem Reps.take : ∀ {vs : List V} {ds : List D} (n : Nat), Reps K C h vs ds → Reps K C h (vs.take n) (ds.take n)
  | _, _, 0, _ => .nil
  | _, _, _ + 1, .nil => .nil
  | _, _, n + 1, .cons a r => .cons a (Reps.take n r)
theorem Reps.drop : ∀ {vs : List V} {ds : List D} (n : Nat), Reps K C h vs ds → Reps K C h (vs.drop n) (ds.drop n)
  | _, _, 0, q => q
  | _, _, _ + 1, .nil => .nil
  | _, _, n + 1, .cons a r => Reps.drop n r
theorem Reps.reverse : ∀ {vs : List V} {ds : List D}, Reps K C h vs ds → Reps K C h vs.reverse ds.reverse
  | _, _, .nil => .nil
  | _, _, .cons a r => by
    rw [List.reverse_cons, List.reverse_cons]
    exact (Reps.reverse r).append (.cons a .nil)
mutual
theorem Own.at {v : V} {t : T} {F : List Addr} : Own K C h H v t F → ∀ a, a ∈ F → h a = none ∧ ∃ o, H a = some o
  | .cl _ => fun a z => absurd z (by simp)
  | .ls q n r _ => fun a z => by
    rcases List.mem_cons.mp z with rfl | z
    · exact ⟨n, _, q⟩
    · exact Owns.at r a z
  | .dc q n _ r _ => fun a z => by
    rcases List.mem_cons.mp z with rfl | z
    · exact ⟨n, _, q⟩
    · exact Owns.at r a z
  | .ob q n _ r _ => fun a z => by
    rcases List.mem_cons.mp z with rfl | z
    · exact ⟨n, _, q⟩
    · exact Owns.at r a z
theorem Owns.at {vs : List V} {ts : List T} {F : List Addr} : Owns K C h H vs ts F → ∀ a, a ∈ F → h a = none ∧ ∃ o, H a = some o
  | .nil => fun a z => absurd z (by simp)
  | .cons p r _ => fun a z => by
    rcases List.mem_append.mp z with z | z
    · exact Own.at p a z
    · exact Owns.at r a z
end
theorem OwnR.at {vs : List V} {ts : Rt} {F : List Addr} : OwnR K C h H vs ts F → ∀ a, a ∈ F → h a = none ∧ ∃ o, H a = some o
  | .nil => fun a z => absurd z (by simp)
  | .no r => OwnR.at r
  | .cons p r _ => fun a z => by
    rcases List.mem_append.mp z with z | z
    · exact Own.at p a z
    · exact OwnR.at r a z
theorem OwnR.length {vs : List V} {ts : Rt} {F : List Addr} : OwnR K C h H vs ts F → vs.length = ts.length
  | .nil => rfl
  | .no r => congrArg (· + 1) (OwnR.length r)
  | .cons _ r _ => congrArg (· + 1) (OwnR.length r)
mutual
/-- what lies at F stands as it stood -/
theorem Own.stay (e : Same h h') : ∀ {v : V} {t : T} {F : List Addr}, Own K C h H v t F → (∀ a, a ∈ F → H' a = H a ∧ h' a = none) → Own K C h' H' v t F
  | _, _, _, .cl q, _ => .cl (q.mono e)
  | _, _, _, .ls q n r o, k => .ls ((k _ List.mem_cons_self).1.trans q) (k _ List.mem_cons_self).2 (Owns.stay e r fun a z => k a (List.mem_cons_of_mem _ z)) o
  | _, _, _, .dc q n i r o, k => .dc ((k _ List.mem_cons_self).1.trans q) (k _ List.mem_cons_self).2 i (Owns.stay e r fun a z => k a (List.mem_cons_of_mem _ z)) o
  | _, _, _, .ob q n i r o, k => .ob ((k _ List.mem_cons_self).1.trans q) (k _ List.mem_cons_self).2 i (Owns.stay e r fun a z => k a (List.mem_cons_of_mem _ z)) o
theorem Owns.stay (e : Same h h') : ∀ {vs : List V} {ts : List T} {F : List Addr}, Owns K C h H vs ts F → (∀ a, a ∈ F → H' a = H a ∧ h' a = none) → Owns K C h' H' vs ts F
  | _, _, _, .nil, _ => .nil
  | _, _, _, .cons p r dj, k => .cons (Own.stay e p fun a z => k a (List.mem_append_left _ z)) (Owns.stay e r fun a z => k a (List.mem_append_right _ z)) dj
end
theorem OwnR.stay (e : Same h h') : ∀ {vs : List V} {ts : Rt} {F : List Addr}, OwnR K C h H vs ts F → (∀ a, a ∈ F → H' a = H a ∧ h' a = none) → OwnR K C h' H' vs ts F
  | _, _, _, .nil, _ => .nil
  | _, _, _, .no r, k => .no (OwnR.stay e r k)
  | _, _, _, .cons p r dj, k => .cons (Own.stay e p fun a z => k a (List.mem_append_left _ z)) (OwnR.stay e r fun a z => k a (List.mem_append_right _ z)) dj
def ov (h H : Hp) (F : List Addr) : Hp := fun a => if a ∈ F then H a else h a
theorem ov_in {F : List Addr} {a : Addr} (z : a ∈ F) : ov h H F a = H a := if_pos z
theorem ov_out {F : List Addr} {a : Addr} (z : a ∉ F) : ov h H F a = h a := if_neg z
theorem ov_same {F : List Addr} (k : ∀ a, a ∈ F → h a = none) : Same h (ov h H F) := fun a o e => by
  by_cases z : a ∈ F
  · rw [k a z] at e; cases e
  · rw [ov_out z]; exact e
theorem ov_sub {F : List Addr} (k : Same h H) : Same (ov h H F) H := fun a o e => by
  by_cases z : a ∈ F
  · rw [ov_in z] at e; exact e
  · rw [ov_out z] at e; exact k a o e
mutual
/-- an owned tree as data of a larger heap -/
theorem Own.rep {g : Hp} (e : Same h g) : ∀ {v : V} {t : T} {F : List Addr}, Own K C h H v t F → (∀ a, a ∈ F → g a = H a) → Rep K C g v t.d
  | _, _, _, .cl q, _ => q.mono e
  | _, _, _, .ls q n r o, k => .lst ((k _ List.mem_cons_self).trans q) (Owns.rep e r fun a z => k a (List.mem_cons_of_mem _ z))
  | _, _, _, .dc q n i r o, k => .dct (.inl ((k _ List.mem_cons_self).trans q)) i (Owns.rep e r fun a z => k a (List.mem_cons_of_mem _ z))
  | _, _, _, .ob q n i r o, k => .ins ((k _ List.mem_cons_self).trans q) i (Owns.rep e r fun a z => k a (List.mem_cons_of_mem _ z))
theorem Owns.rep {g : Hp} (e : Same h g) : ∀ {vs : List V} {ts : List T} {F : List Addr}, Owns K C h H vs ts F → (∀ a, a ∈ F → g a = H a) → Reps K C g vs (T.ds ts)
  | _, _, _, .nil, _ => .nil
  | _, _, _, .cons p r dj, k => .cons (Own.rep e p fun a z => k a (List.mem_append_left _ z)) (Owns.rep e r fun a z => k a (List.mem_append_right _ z))
end
theorem Owns.length : ∀ {vs : List V} {ts : List T} {F : List Addr}, Owns K C h H vs ts F → vs.length = ts.length
  | _, _, _, .nil => rfl
  | _, _, _, .cons _ r _ => congrArg (· + 1) (Owns.length r)
theorem Owns.ofCls : ∀ {vs : List V} {ds : List D}, Reps K C h vs ds → Owns K C h H vs (cls ds) []
  | _, _, .nil => .nil
  | _, _, .cons a r => .cons (F := []) (G := []) (.cl a) (Owns.ofCls r) fun _ z => absurd z (by simp)
mutual
theorem Own.uniq {g : Hp} : ∀ {v : V} {t : T} {F G : List Addr}, Own K C h H v t F → Own K C g H v t G → F = G
  | _, _, _, _, .cl _, .cl _ => rfl
  | _, _, _, _, .ls q _ r _, .ls q' _ r' _ => by
    rw [q] at q'
    cases q'
    rw [Owns.uniq r r']
  | _, _, _, _, .dc q _ _ r _, .dc q' _ _ r' _ => by
    rw [q] at q'
    cases q'
    rw [Owns.uniq r r']
  | _, _, _, _, .ob q _ _ r _, .ob q' _ _ r' _ => by
    rw [q] at q'
    cases q'
    rw [Owns.uniq r r']
theorem Owns.uniq {g : Hp} : ∀ {vs : List V} {ts : List T} {F G : List Addr}, Owns K C h H vs ts F → Owns K C g H vs ts G → F = G
  | _, _, _, _, .nil, .nil => rfl
  | _, _, _, _, .cons p r _, .cons p' r' _ => by rw [Own.uniq p p', Owns.uniq r r']
end
theorem OwnR.uniq {g : Hp} : ∀ {vs : List V} {ts : Rt} {F G : List Addr}, OwnR K C h H vs ts F → OwnR K C g H vs ts G → F = G
  | _, _, _, _, .nil, .nil => rfl
  | _, _, _, _, .no r, .no r' => OwnR.uniq r r'
  | _, _, _, _, .cons p r _, .cons p' r' _ => by rw [Own.uniq p p', OwnR.uniq r r']
structure Stp (F : List Addr) (h H : Hp) (F' : List Addr) (h' H' : Hp) : Prop where
  keep : ∀ a o, H a = some o → a ∉ F → H' a = some o
  up : Same h h'
  new : ∀ a o, h a = none → h' a = some o → a ∈ F ∨ H a = none
  fp : ∀ a, a ∈ F' → a ∈ F ∨ H a = none
theorem Stp.refl {F : List Addr} : Stp F h H F h H := by
  refine ⟨fun _ _ e _ => e, fun _ _ e => e, fun a o n e => ?_, fun _ z => .inl z⟩
  rw [n] at e
  cases e
theorem Stp.trans {F F1 F2 : List Addr} {h1 h2 H1 H2 : Hp} (x : Stp F h H F1 h1 H1) (y : Stp F1 h1 H1 F2 h2 H2) : Stp F h H F2 h2 H2 := by
  have back : ∀ a, H1 a = none → a ∈ F ∨ H a = none := fun a n => by
    by_cases z : a ∈ F
    · exact .inl z
    · right
      cases q : H a with
      | none => rfl
      | some o => rw [x.keep a o q z] at n; cases n
  refine ⟨fun a o e z => ?_, fun a o e => y.up a o (x.up a o e), fun a o n e => ?_, fun a z => ?_⟩
  · refine y.keep a o (x.keep a o e z) fun z1 => ?_
    rcases x.fp a z1 with z2 | z2
    · exact z z2
    · rw [z2] at e; cases e
  · cases q : h1 a with
    | some u => exact x.new a u n q
    | none =>
      rcases y.new a o q e with z | z
      · exact x.fp a z
      · exact back a z
  · rcases y.fp a z with z | z
    · exact x.fp a z
    · exact back a z
theorem Stp.own {F F' G : List Addr} {v : V} {t : T} (x : Stp F h H F' h' H') (o : Own K C h H v t G) (dj : ∀ a, a ∈ G → a ∉ F) : Own K C h' H' v t G ∧ ∀ a, a ∈ G → a ∉ F' := by
  refine ⟨o.stay x.up fun a z => ?_, fun a z z' => ?_⟩
  · obtain ⟨n, u, e⟩ := o.at a z
    refine ⟨(x.keep a u e (dj a z)).trans e.symm, ?_⟩
    cases q : h' a with
    | none => rfl
    | some w =>
      rcases x.new a w n q with y | y
      · exact absurd y (dj a z)
      · rw [y] at e; cases e
  · obtain ⟨n, u, e⟩ := o.at a z
    rcases x.fp a z' with y | y
    · exact dj a z y
    · rw [y] at e; cases e
theorem Stp.owns {F F' G : List Addr} {vs : List V} {ts : List T} (x : Stp F h H F' h' H') (o : Owns K C h H vs ts G) (dj : ∀ a, a ∈ G → a ∉ F) : Owns K C h' H' vs ts G ∧ ∀ a, a ∈ G → a ∉ F' := by
  refine ⟨o.stay x.up fun a z => ?_, fun a z z' => ?_⟩
  · obtain ⟨n, u, e⟩ := o.at a z
    refine ⟨(x.keep a u e (dj a z)).trans e.symm, ?_⟩
    cases q : h' a with
    | none => rfl
    | some w =>
      rcases x.new a w n q with y | y
      · exact absurd y (dj a z)
      · rw [y] at e; cases e
  · obtain ⟨n, u, e⟩ := o.at a z
    rcases x.fp a z' with y | y
    · exact dj a z y
    · rw [y] at e; cases e
def SRep (K : PySem.W.Frag) (C : Nat → Addr) (h : Hp) (vs : List V) (v : V) : S → Prop
  | .v d => Rep K C h v d
  | .r k => vs[k]? = some v
structure Rel (K : PySem.W.Frag) (C : Nat → Addr) (σ : L2.St) (H h : Hp) (sl : Sl) (rt : Rt) (vs : List V) (F : List Addr) : Prop where
  sub : Same h H
  own : OwnR K C h H vs rt F
  slt : ∀ (i : Nat) (s : S), sl[i]? = some (some s) → ∃ v, σ[i]? = some (some v) ∧ SRep K C h vs v s
  len : σ.length = sl.length
theorem SRep.mono {vs : List V} {v : V} {s : S} (e : Same h h') (x : SRep K C h vs v s) : SRep K C h' vs v s := by
  cases s with
  | v d => exact Rep.mono e x
  | r k => exact x
structure Grew (h H h' H' : Hp) : Prop where
  big : Same H H'
  sml : Same h h'
  sub : Same h' H'
  new : ∀ a o, h a = none → h' a = some o → H a = none
theorem Grew.refl (e : Same h H) : Grew h H h H := by
  refine ⟨fun _ _ e => e, fun _ _ e => e, e, fun a o n q => ?_⟩
  rw [n] at q
  cases q
theorem Grew.trans {h1 H1 h2 H2 : Hp} (x : Grew h H h1 H1) (y : Grew h1 H1 h2 H2) : Grew h H h2 H2 := by
  refine ⟨fun a o e => y.big a o (x.big a o e), fun a o e => y.sml a o (x.sml a o e), y.sub, fun a o n e => ?_⟩
  cases q : h1 a with
  | some u => exact x.new a u n q
  | none => exact L2.Same.free x.big (y.new a o q e)
theorem Grew.stp {F : List Addr} (g : Grew h H h' H') : Stp F h H F h' H' := ⟨fun a o e _ => g.big a o e, g.sml, fun a o n e => .inr (g.new a o n e), fun _ z => .inl z⟩
theorem Grew.rel {σ : L2.St} {sl : Sl} {rt : Rt} {vs : List V} {F : List Addr} (g : Grew h H h' H') (r : Rel K C σ H h sl rt vs F) : Rel K C σ H' h' sl rt vs F := by
  refine ⟨g.sub, r.own.stay g.sml fun a z => ?_, fun i s e => ?_, r.len⟩
  · obtain ⟨n, o, e⟩ := r.own.at a z
    refine ⟨(g.big a o e).trans e.symm, ?_⟩
    cases q : h' a with
    | none => rfl
    | some u => rw [g.new a u n q] at e; cases e
  · obtain ⟨v, e1, e2⟩ := r.slt i s e
    exact ⟨v, e1, e2.mono g.sml⟩
theorem Rel.shut {σ : L2.St} {sl : Sl} {rt : Rt} {vs : List V} {F G : List Addr} {v : V} {t : T} (r : Rel K C σ H h sl rt vs F) (o : Own K C h H v t G) (dj : ∀ a, a ∈ G → a ∉ F) :
    Rel K C σ H (ov h H G) sl rt vs F ∧ Rep K C (ov h H G) v t.d := by
  have e1 : Same h (ov h H G) := ov_same fun a z => (o.at a z).1
  refine ⟨⟨ov_sub r.sub, r.own.stay e1 fun a z => ⟨rfl, ?_⟩, fun i s e => ?_, r.len⟩, o.rep e1 fun a z => ov_in z⟩
  · rw [ov_out fun z' => dj a z' z]
    exact (r.own.at a z).1
  · obtain ⟨w, e2, e3⟩ := r.slt i s e
    exact ⟨w, e2, e3.mono e1⟩
theorem Stp.shut {F F' G : List Addr} {v : V} {t : T} (x : Stp F h H F' h' H') (o : Own K C h' H' v t G) (fr : ∀ a, a ∈ G → a ∈ F ∨ H a = none) : Stp F h H F' (ov h' H' G) H' := by
  refine ⟨x.keep, fun a u e => ov_same (fun b z => (o.at b z).1) a u (x.up a u e), fun a u n e => ?_, x.fp⟩
  by_cases z : a ∈ G
  · exact fr a z
  · rw [ov_out z] at e
    exact x.new a u n e
theorem Rel.shuts {σ : L2.St} {sl : Sl} {rt : Rt} {vs : List V} {F G : List Addr} {ws : List V} {ts : List T} (r : Rel K C σ H h sl rt vs F) (o : Owns K C h H ws ts G) (dj : ∀ a, a ∈ G → a ∉ F) :
    Rel K C σ H (ov h H G) sl rt vs F ∧ Reps K C (ov h H G) ws (T.ds ts) := by
  have e1 : Same h (ov h H G) := ov_same fun a z => (o.at a z).1
  refine ⟨⟨ov_sub r.sub, r.own.stay e1 fun a z => ⟨rfl, ?_⟩, fun i s e => ?_, r.len⟩, o.rep e1 fun a z => ov_in z⟩
  · rw [ov_out fun z' => dj a z' z]
    exact (r.own.at a z).1
  · obtain ⟨w, e2, e3⟩ := r.slt i s e
    exact ⟨w, e2, e3.mono e1⟩
theorem Stp.shuts {F F' G : List Addr} {vs : List V} {ts : List T} (x : Stp F h H F' h' H') (o : Owns K C h' H' vs ts G) (fr : ∀ a, a ∈ G → a ∈ F ∨ H a = none) : Stp F h H F' (ov h' H' G) H' := by
  refine ⟨x.keep, fun a u e => ov_same (fun b z => (o.at b z).1) a u (x.up a u e), fun a u n e => ?_, x.fp⟩
  by_cases z : a ∈ G
  · exact fr a z
  · rw [ov_out z] at e
    exact x.new a u n e
end
end Mi
namespace Mi
open PySem PySem.Spec PyProof.Rows L2
section
variable {K : PySem.W.Frag} {C : Nat → Addr} {h H : Hp} {Q : VK}
def Made (K : PySem.W.Frag) (C : Nat → Addr) (h H : Hp) (Q : VK) (t : T) : Prop := ∀ w h' H' G, Grew h H h' H' → Own K C h' H' w t G → (∀ a, a ∈ G → H a = none) → Q w H'
theorem Made.same {v : V} {d : D} (e : Same h H) (m : Made K C h H Q (.cl d)) (r : Rep K C h v d) : Q v H := m v h H [] (Grew.refl e) (.cl r) fun a z => absurd z (by simp)
theorem upd_grew {p : Addr} {o : HO} (e : Same h H) (n : H p = none) : Grew h H (upd h p o) (upd H p o) := by
  have hn : h p = none := e.free n
  refine ⟨fun a u q => by rw [upd_ne (ne_of_none q n)]; exact q, fun a u q => by rw [upd_ne (ne_of_none q hn)]; exact q, fun a u q => ?_, fun a u z q => ?_⟩
  · by_cases x : a = p
    · subst x
      rw [upd_same] at q ⊢
      exact q
    · rw [upd_ne x] at q ⊢
      exact e a u q
  · by_cases x : a = p
    · subst x; exact n
    · rw [upd_ne x] at q
      rw [z] at q; cases q
theorem upd_grew0 {p : Addr} {o : HO} (e : Same h H) (n : H p = none) : Grew h H h (upd H p o) := by
  refine ⟨fun a u q => by rw [upd_ne (ne_of_none q n)]; exact q, fun a u q => q, fun a u q => ?_, fun a u z q => ?_⟩
  · rw [upd_ne (ne_of_none (e a u q) n)]; exact e a u q
  · rw [z] at q; cases q
theorem Made.tup {p : Addr} {vs : List V} {ds : List D} (e : Same h H) (m : Made K C h H Q (.cl (.tup ds))) (r : Reps K C h vs ds) (n : H p = none) : Q (.ref p) (upd H p (.tup vs)) := by
  have g : Grew h H (upd h p (.tup vs)) (upd H p (.tup vs)) := upd_grew e n
  exact m (.ref p) _ _ [] g (.cl (.tup (SqT.of upd_same) (r.mono g.sml))) fun a z => absurd z (by simp)
theorem Made.lst {p : Addr} {vs : List V} {ts : List T} {F : List Addr} (e : Same h H) (m : Made K C h H Q (.ls ts)) (r : Owns K C h H vs ts F) (hF : F = []) (n : H p = none) : Q (.ref p) (upd H p (.lst vs)) := by
  subst hF
  have g : Grew h H h (upd H p (.lst vs)) := upd_grew0 e n
  exact m (.ref p) _ _ [p] g (.ls upd_same (e.free n) (r.stay g.sml fun a z => absurd z (by simp)) (by simp)) fun a z => by
    rw [List.mem_singleton.mp z]; exact n
theorem Made.lstD {p : Addr} {vs : List V} {ds : List D} (e : Same h H) (m : Made K C h H Q (.ls (cls ds))) (r : Reps K C h vs ds) (n : H p = none) : Q (.ref p) (upd H p (.lst vs)) :=
  Made.lst e m (Owns.ofCls r) rfl n
theorem Reps.flatRep (n : Nat) {vs : List V} {ds : List D} (r : Reps K C h vs ds) : Reps K C h (List.replicate n vs).flatten (List.replicate n ds).flatten := by
  induction n with
  | zero => exact .nil
  | succ n ih =>
    rw [List.replicate_succ, List.replicate_succ, List.flatten_cons, List.flatten_cons]
    exact r.append ih
mutual
theorem Rep.dp (e : Same h H) : ∀ {v : V} {d : D} {p : PyData}, Rep K C h v d → d.py = some p → Dp K H v p
  | _, _, _, .non, q => by cases q; exact .non
  | _, _, _, .bl b, q => by cases q; exact .bl b
  | _, _, _, .int i, q => by cases q; exact .int i
  | _, _, _, .str x, q => by cases q; exact .str x
  | _, _, _, .tup (ds := ds) s r, q => by
    unfold D.py at q
    cases z : D.pys ds with
    | none => rw [z] at q; cases q
    | some ps =>
      rw [z] at q
      cases q
      exact .tup (sqT_same e s) (Reps.dp e r z)
  | _, _, _, .lst (ds := ds) s r, q => by
    unfold D.py at q
    cases z : D.pys ds with
    | none => rw [z] at q; cases q
    | some ps =>
      rw [z] at q
      cases q
      exact .lst (SqL.of (e _ _ s)) (Reps.dp e r z)
  | _, _, _, .dct _ _ _, q => by unfold D.py at q; cases q
  | _, _, _, .ins _ _ _, q => by unfold D.py at q; cases q
  | _, _, _, .scr _, q => by unfold D.py at q; cases q
theorem Reps.dp (e : Same h H) : ∀ {vs : List V} {ds : List D} {ps : List PyData}, Reps K C h vs ds → D.pys ds = some ps → DpAll K H vs ps
  | _, _, _, .nil, q => by unfold D.pys at q; cases q; exact .nil
  | _, _, _, .cons (d := d) (ds := ds) a r, q => by
    unfold D.pys at q
    split at q
    · rename_i x y e1 e2
      cases q
      exact .cons (Rep.dp e a e1) (Reps.dp e r e2)
    · cases q
end
def BOp.py : BOp → Operator
  | .add => .Add | .sub => .Sub | .mul => .Mult | .fdiv => .FloorDiv | .mod => .Mod | .pow => .Pow
def COp.py : COp → CmpOp
  | .eq => .Eq | .ne => .NotEq | .lt => .Lt | .le => .LtE | .gt => .Gt | .ge => .GtE | .isn => .Is | .notn => .IsNot | .ist => .Is | .notist => .IsNot | .mem => .In | .nmem => .NotIn
def rB (K : PySem.W.Frag) (C : Nat → Addr) (op : BOp) : R2 := fun u v H Q => ∃ h x y t, Same h H ∧ Rep K C h u x ∧ Rep K C h v y ∧ opB op x y = some t ∧ Made K C h H Q t
def rC (K : PySem.W.Frag) (C : Nat → Addr) (op : COp) : R2 := fun u v H Q => ∃ h x y b, Same h H ∧ Rep K C h u x ∧ Rep K C h v y ∧ opC op x y = some b ∧ Q (.bl b) H
end
section
variable {X : Cx} {C : Nat → Addr}
theorem op_fdivA : OpR X (binaryOp .FloorDiv) (rI (fun _ j => j ≠ 0 ∧ j.natAbs.log2 < 9000) fun i j => .int (i.fdiv j)) := opI fun _ _ _ _ _ _ _ hc q => floordiv_int hc.1 q (.inl (PyProof.noPylong_of_log2 hc.2))
theorem rep_int {K : PySem.W.Frag} {h : Hp} {v : V} {i : Int} (r : Rep K C h v (.int i)) : v = .int i := by cases r; rfl
theorem mulOk_ok {i j : Int} (h : mulOk i j = true) : CMulW i j := by
  unfold mulOk at h
  have h' := of_decide_eq_true h
  exact h'
theorem opB_ok (op : BOp) : OpR X (binaryOp op.py) (rB X.K C op) := by
  intro pins s σ H a b v u Q I ra rb hh
  obtain ⟨h, x, y, t, hs, r1, r2, e, md⟩ := hh
  unfold opB at e
  split at e
  · -- int + int
    cases e; cases r1; cases r2
    exact op_add pins s σ H _ _ v u Q I ra rb ⟨_, _, rfl, rfl, md.same hs (.int _)⟩
  · split at e
    · rename_i hz
      cases e; cases r1; cases r2
      exact op_add_str pins s σ H _ _ v u Q I ra rb ⟨_, _, rfl, rfl, hz, md.same hs (.str _)⟩
    · cases e
  · split at e
    · rename_i hz
      cases e
      cases r1 with
      | lst q1 s1 =>
        cases r2 with
        | lst q2 s2 => exact op_cat pins s σ H _ _ v u Q I ra rb ⟨_, _, _, _, rfl, rfl, hs _ _ q1, hs _ _ q2, by rw [s1.length, s2.length]; exact hz, fun p n => Made.lstD hs md (s1.append s2) n⟩
    · cases e
  · split at e
    · rename_i hz
      cases e
      cases r1 with
      | tup q1 s1 =>
        cases r2 with
        | tup q2 s2 =>
          refine op_catA pins s σ H _ _ v u Q I ra rb ⟨_, _, _, _, rfl, rfl, sqT_same hs q1, sqT_same hs q2, by rw [s1.length, s2.length]; exact hz, fun z => ?_, fun _ z => ?_, fun _ _ p n => Made.tup hs md (s1.append s2) n⟩
          · subst z
            cases s1
            exact md.same hs (.tup q2 s2)
          · subst z
            cases s2
            rw [List.append_nil] at md
            exact md.same hs (.tup q1 s1)
    · cases e
  · cases e; cases r1; cases r2
    exact op_sub pins s σ H _ _ v u Q I ra rb ⟨_, _, rfl, rfl, md.same hs (.int _)⟩
  · split at e
    · rename_i hz
      cases e; cases r1; cases r2
      exact op_mulW pins s σ H _ _ v u Q I ra rb ⟨_, _, rfl, rfl, mulOk_ok hz, md.same hs (.int _)⟩
    · cases e
  · split at e
    · rename_i hz
      cases e; cases r2
      simp only [Bool.and_eq_true, decide_eq_true_eq] at hz
      cases r1 with
      | lst q1 s1 =>
        exact op_rep pins s σ H _ _ v u Q I ra rb ⟨_, _, _, rfl, rfl, hs _ _ q1, hz.1.2, hz.2, by rw [s1.length]; exact hz.1.1, fun p n => Made.lstD hs md (s1.flatRep _) n⟩
    · cases e
  · split at e
    · rename_i hz
      cases e; cases r2
      simp only [Bool.and_eq_true, decide_eq_true_eq, Bool.not_eq_true', List.isEmpty_eq_false_iff] at hz
      cases r1 with
      | tup q1 s1 =>
        refine op_repA pins s σ H _ _ v u Q I ra rb ⟨_, _, _, rfl, rfl, sqT_same hs q1, fun z => hz.1.1.1 ?_, hz.1.1.2, hz.1.2, by rw [s1.length]; exact hz.2, fun z => ?_, fun _ p n => Made.tup hs md (s1.flatRep _) n⟩
        · subst z
          cases s1
          rfl
        · subst z
          rw [show List.replicate (1 : Int).toNat _ = [_] from rfl, List.flatten_singleton] at md
          exact md.same hs (.tup q1 s1)
    · cases e
  · split at e
    · cases e
    · rename_i hz
      cases e; cases r1; cases r2
      exact op_fdivA pins s σ H _ _ v u Q I ra rb ⟨_, _, rfl, rfl, ⟨fun z => hz (.inl z), Nat.not_le.mp fun z => hz (.inr z)⟩, md.same hs (.int _)⟩
  · split at e
    · cases e
    · rename_i hz
      cases e; cases r1; cases r2
      exact op_modN pins s σ H _ _ v u Q I ra rb ⟨_, _, rfl, rfl, hz, md.same hs (.int _)⟩
  · split at e
    · rename_i hz
      cases e; cases r1; cases r2
      exact op_pow pins s σ H _ _ v u Q I ra rb ⟨_, _, rfl, rfl, hz, md.same hs (.int _)⟩
    · cases e
  · cases e
theorem eqD_ok {K : PySem.W.Frag} {h H : Hp} {x y : D} {u v : V} {b : Bool} (hs : Same h H) (r1 : Rep K C h u x) (r2 : Rep K C h v y) (z : eqD x y = some b) :
    ∃ d e, Dp K H u d ∧ Dp K H v e ∧ SeqAt.shaped d = true ∧ SeqAt.shaped e = true ∧ PyData.eqv d e = b := by
  unfold eqD at z
  split at z
  · rename_i p1 p2 e1 e2
    split at z
    · rename_i hz
      cases z
      rw [Bool.and_eq_true] at hz
      exact ⟨p1, p2, r1.dp hs e1, r2.dp hs e2, hz.1, hz.2, rfl⟩
    · cases z
  · cases z
theorem opC_ok (hu : X.A.units + 64 < cLine) (op : COp) : OpR X (compareOp op.py) (rC X.K C op) := by
  intro pins s σ H a b v u Q I ra rb hh
  obtain ⟨h, x, y, t, hs, r1, r2, e, q⟩ := hh
  unfold opC at e
  split at e
  · obtain ⟨d, e', d1, d2, s1, s2, ev⟩ := eqD_ok hs r1 r2 e
    exact op_eqD hu pins s σ H _ _ v u Q I ra rb ⟨d, e', d1, d2, s1, s2, by rw [ev]; exact q⟩
  · obtain ⟨b', z, rfl⟩ := Option.map_eq_some_iff.mp e
    obtain ⟨d, e', d1, d2, s1, s2, ev⟩ := eqD_ok hs r1 r2 z
    exact op_neD hu pins s σ H _ _ v u Q I ra rb ⟨d, e', d1, d2, s1, s2, by rw [ev]; exact q⟩
  · cases e; cases r1; cases r2; exact op_lt pins s σ H _ _ v u Q I ra rb ⟨_, _, rfl, rfl, q⟩
  · cases e; cases r1; cases r2; exact op_le pins s σ H _ _ v u Q I ra rb ⟨_, _, rfl, rfl, q⟩
  · cases e; cases r1; cases r2; exact op_gt pins s σ H _ _ v u Q I ra rb ⟨_, _, rfl, rfl, q⟩
  · cases e; cases r1; cases r2; exact op_ge pins s σ H _ _ v u Q I ra rb ⟨_, _, rfl, rfl, q⟩
  · cases e; cases r2
    refine op_isN pins s σ H _ _ v u Q I ra rb ⟨rfl, ?_⟩
    cases r1 <;> exact q
  · cases e; cases r2
    refine op_notN pins s σ H _ _ v u Q I ra rb ⟨rfl, ?_⟩
    cases r1 <;> exact q
  · cases e; cases r2; cases r1
    refine op_isBl pins s σ H _ _ v u Q I ra rb ⟨_, _, rfl, rfl, ?_⟩
    cases t <;> exact q
  · rename_i k
    cases e; cases r2; cases r1
    refine op_notBl pins s σ H _ _ v u Q I ra rb ⟨_, _, rfl, rfl, ?_⟩
    cases k <;> exact q
  · cases e
end
end Mi
namespace Mi
open PySem PySem.Spec PyProof.Rows L2
theorem insI_perm (x : Int) : ∀ r, (insI x r).Perm (x :: r)
  | [] => .refl _
  | y :: r => by
    unfold insI
    split
    · exact .refl _
    · exact ((insI_perm x r).cons y).trans (.swap x y r)
theorem isort_perm : ∀ r, (isort r).Perm r
  | [] => .refl _
  | x :: r => (insI_perm x (isort r)).trans ((isort_perm r).cons x)
theorem insI_pw (x : Int) : ∀ r : List Int, r.Pairwise (· ≤ ·) → (insI x r).Pairwise (· ≤ ·)
  | [], _ => List.pairwise_singleton ..
  | y :: r, h => by
    obtain ⟨h1, h2⟩ := List.pairwise_cons.mp h
    unfold insI
    split
    · rename_i hx
      refine List.pairwise_cons.mpr ⟨fun z m => ?_, h⟩
      rcases List.mem_cons.mp m with rfl | m
      · exact hx
      · exact Int.le_trans hx (h1 z m)
    · rename_i hx
      refine List.pairwise_cons.mpr ⟨fun z m => ?_, insI_pw x r h2⟩
      rcases List.mem_cons.mp ((insI_perm x r).mem_iff.mp m) with rfl | m
      · omega
      · exact h1 z m
theorem isort_pw : ∀ r, (isort r).Pairwise (· ≤ ·)
  | [] => .nil
  | x :: r => insI_pw x _ (isort_pw r)
theorem isort_eq {a b : List Int} (p : a.Perm b) (h : a.Pairwise (· ≤ ·)) : a = isort b :=
  List.Perm.eq_of_pairwise (le := fun x y : Int => x ≤ y) (fun x y _ _ h1 h2 => Int.le_antisymm h1 h2) h (isort_pw b) (p.trans (isort_perm b).symm)
theorem insP_perm (x : Int × Int) : ∀ r, (insP x r).Perm (x :: r)
  | [] => .refl _
  | y :: r => by
    unfold insP
    split
    · exact .refl _
    · exact ((insP_perm x r).cons y).trans (.swap x y r)
theorem psort_perm : ∀ r, (psort r).Perm r
  | [] => .refl _
  | x :: r => (insP_perm x (psort r)).trans ((psort_perm r).cons x)
theorem lexP_trans {p q r : Int × Int} (h1 : lexP p q) (h2 : lexP q r) : lexP p r := by
  omega
theorem lexP_tot {p q : Int × Int} (h : ¬ lexP p q) : lexP q p := by
  omega
theorem lexP_anti {p q : Int × Int} (h1 : lexP p q) (h2 : lexP q p) : p = q := by
  exact Prod.ext (by omega) (by omega)
theorem insP_pw (x : Int × Int) : ∀ r : List (Int × Int), r.Pairwise lexP → (insP x r).Pairwise lexP
  | [], _ => List.pairwise_singleton ..
  | y :: r, h => by
    obtain ⟨h1, h2⟩ := List.pairwise_cons.mp h
    unfold insP
    split
    · rename_i hx
      refine List.pairwise_cons.mpr ⟨fun z m => ?_, h⟩
      rcases List.mem_cons.mp m with rfl | m
      · exact hx
      · exact lexP_trans hx (h1 z m)
    · rename_i hx
      refine List.pairwise_cons.mpr ⟨fun z m => ?_, insP_pw x r h2⟩
      rcases List.mem_cons.mp ((insP_perm x r).mem_iff.mp m) with rfl | m
      · exact lexP_tot hx
      · exact h1 z m
theorem psort_pw : ∀ r, (psort r).Pairwise lexP
  | [] => .nil
  | x :: r => insP_pw x _ (psort_pw r)
theorem psort_eq {a b : List (Int × Int)} (p : a.Perm b) (h : a.Pairwise lexP) : a = psort b :=
  List.Perm.eq_of_pairwise (le := lexP) (fun x y _ _ h1 h2 => lexP_anti h1 h2) h (psort_pw b) (p.trans (psort_perm b).symm)
inductive Lie (K : PySem.W.Frag) (C : Nat → Addr) (h H : Hp) : V → D → Prop
  | rep {v : V} {d : D} : Rep K C h v d → Lie K C h H v d
  | top {a : Addr} {vs : List V} {ds : List D} : H a = some (.lst vs) → Reps K C h vs ds → Lie K C h H (.ref a) (.lst ds)
section
variable {K : PySem.W.Frag} {C : Nat → Addr} {h H : Hp} {Q : VK}
theorem Lie.lst {v : V} {ds : List D} (e : Same h H) (l : Lie K C h H v (.lst ds)) : ∃ a vs, v = .ref a ∧ H a = some (.lst vs) ∧ Reps K C h vs ds := by
  cases l with
  | rep r => cases r with | lst q s => exact ⟨_, _, rfl, e _ _ q, s⟩
  | top q s => exact ⟨_, _, rfl, q, s⟩
theorem Lie.tup {v : V} {ds : List D} (e : Same h H) (l : Lie K C h H v (.tup ds)) : ∃ a vs, v = .ref a ∧ SqT K H a vs ∧ Reps K C h vs ds := by
  cases l with
  | rep r => cases r with | tup q s => exact ⟨_, _, rfl, sqT_same e q, s⟩
theorem Lie.scr {v : V} {ns : List Int} (e : Same h H) (l : Lie K C h H v (.scr ns)) : ∃ a, v = .ref a ∧ SqL K H a (ns.map V.int) := by
  cases l with
  | rep r => cases r with | scr q => exact ⟨_, rfl, e.seq q⟩
theorem reps_ints : ∀ (ns : List Int), Reps K C h (ns.map V.int) (ns.map D.int)
  | [] => .nil
  | n :: ns => .cons (.int n) (reps_ints ns)
theorem pairs_back : ∀ {ds : List D} {ps : List (Int × Int)}, pairsOf ds = some ps → ds = ps.map dQ
  | [], ps, e => by
    cases e
    rfl
  | d :: ds, ps, e => by
    unfold pairsOf at e
    split at e
    · rename_i e1
      cases e1
    · rename_i i j r e1
      cases e1
      obtain ⟨qs, e2, rfl⟩ := Option.map_eq_some_iff.mp e
      rw [pairs_back e2]
      rfl
    · cases e
theorem pairs_len {ds : List D} {ps : List (Int × Int)} (e : pairsOf ds = some ps) : ds.length = ps.length := by rw [pairs_back e, List.length_map]
theorem bound_pairs : ∀ ps : List (Int × Int), ∃ B : Int, ∀ p ∈ ps, p.1 < B ∧ p.2 < B
  | [] => ⟨0, fun p m => by cases m⟩
  | q :: ps => by
    obtain ⟨B, h⟩ := bound_pairs ps
    refine ⟨max B (max (q.1 + 1) (q.2 + 1)), fun p m => ?_⟩
    rcases List.mem_cons.mp m with rfl | m
    · omega
    · have := h p m
      omega
theorem bd_pair {B a b : Int} (h : 0 ≤ a ∧ 0 ≤ b) (l : a < B ∧ b < B) : TS.Bd B [a, b] := fun m q => by
  simp only [List.mem_cons, List.not_mem_nil, or_false] at q
  rcases q with rfl | rfl <;> omega
theorem reps_perm {xs ys : List V} (p : xs.Perm ys) : ∀ {ds : List D}, Reps K C h xs ds → ∃ es, ds.Perm es ∧ Reps K C h ys es := by
  induction p with
  | nil => exact fun {ds} r => ⟨ds, .refl _, r⟩
  | cons x _ ih =>
    intro ds r
    cases r with
    | cons a r =>
      obtain ⟨es, p1, r1⟩ := ih r
      exact ⟨_, p1.cons _, .cons a r1⟩
  | swap x y l =>
    intro ds r
    cases r with
    | cons a r =>
      cases r with
      | cons b r => exact ⟨_, .swap _ _ _, .cons b (.cons a r)⟩
  | trans _ _ ih1 ih2 =>
    intro ds r
    obtain ⟨es, p1, r1⟩ := ih1 r
    obtain ⟨fs, p2, r2⟩ := ih2 r1
    exact ⟨fs, p1.trans p2, r2⟩
theorem pairs_perm {ds es : List D} (p : ds.Perm es) : ∀ {ps : List (Int × Int)}, ds = ps.map dQ → ∃ qs : List (Int × Int), es = qs.map dQ ∧ ps.Perm qs := by
  induction p with
  | nil => exact fun {ps} e => ⟨ps, e, .refl _⟩
  | cons x _ ih =>
    intro ps e
    cases ps with
    | nil => cases e
    | cons q ps =>
      rw [List.map_cons] at e
      obtain ⟨e1, e2⟩ := List.cons.inj e
      obtain ⟨qs, e3, p3⟩ := ih e2
      exact ⟨q :: qs, by rw [e1, e3]; rfl, p3.cons q⟩
  | swap x y l =>
    intro ps e
    cases ps with
    | nil => cases e
    | cons q ps =>
      cases ps with
      | nil => cases e
      | cons r ps =>
        rw [List.map_cons, List.map_cons] at e
        obtain ⟨e1, e2⟩ := List.cons.inj e
        obtain ⟨e2, e3⟩ := List.cons.inj e2
        exact ⟨r :: q :: ps, by rw [e1, e2, e3]; rfl, .swap _ _ _⟩
  | trans _ _ ih1 ih2 =>
    intro ps e
    obtain ⟨qs, e1, p1⟩ := ih1 e
    obtain ⟨rs, e2, p2⟩ := ih2 e1
    exact ⟨rs, e2, p1.trans p2⟩
theorem rep_pair {x : V} {q : Int × Int} (r : Rep K C h x (dQ q)) : ∃ t, x = .ref t ∧ SqT K h t ([q.1, q.2].map V.int) := by
  cases r with
  | tup s r =>
    cases r with
    | cons a r =>
      cases r with
      | cons b r =>
        cases r
        cases a
        cases b
        exact ⟨_, rfl, s⟩
theorem reps_pair {vs : List V} {x : V} (m : x ∈ vs) : ∀ {ps : List (Int × Int)}, Reps K C h vs (ps.map dQ) → ∃ q ∈ ps, ∃ t, x = .ref t ∧ SqT K h t ([q.1, q.2].map V.int) := by
  induction vs with
  | nil => cases m
  | cons v vs ih =>
    intro ps r
    cases ps with
    | nil => cases r
    | cons q ps =>
      rw [List.map_cons] at r
      cases r with
      | cons a r =>
        rcases List.mem_cons.mp m with rfl | m
        · exact ⟨q, List.mem_cons_self, rep_pair a⟩
        · obtain ⟨q', h1, h2⟩ := ih m r
          exact ⟨q', List.mem_cons_of_mem _ h1, h2⟩
theorem pair_reps : ∀ {vs : List V} {ps : List (Int × Int)} {q : Int × Int}, Reps K C h vs (ps.map dQ) → q ∈ ps → ∃ x ∈ vs, ∃ t, x = .ref t ∧ SqT K h t ([q.1, q.2].map V.int)
  | _, [], q, r, m => by cases m
  | _, p :: ps, q, r, m => by
    rw [List.map_cons] at r
    cases r with
    | cons a r =>
      rcases List.mem_cons.mp m with rfl | m
      · exact ⟨_, List.mem_cons_self, rep_pair a⟩
      · obtain ⟨x, h1, h2⟩ := pair_reps r m
        exact ⟨x, List.mem_cons_of_mem _ h1, h2⟩
theorem pairs_pw {H : Hp} {B : Int} (hs : Same h H) : ∀ {ys : List V} {qs : List (Int × Int)}, Reps K C h ys (qs.map dQ) → (∀ q ∈ qs, TS.Bd B [q.1, q.2]) → ys.Pairwise (fun x y => ∀ n m, TupI K H x n → TupI K H y m → TS.code B n ≤ TS.code B m) → qs.Pairwise lexP
  | _, [], _, _, _ => .nil
  | _, q :: qs, r, hb, p => by
    rw [List.map_cons] at r
    cases r with
    | cons a r =>
      obtain ⟨p1, p2⟩ := List.pairwise_cons.mp p
      refine List.pairwise_cons.mpr ⟨fun q' m => ?_, pairs_pw hs r (fun q m => hb q (List.mem_cons_of_mem _ m)) p2⟩
      obtain ⟨t, e, ht⟩ := rep_pair a
      obtain ⟨x, hx, t', e', ht'⟩ := pair_reps r m
      exact code_lex (hb q List.mem_cons_self) (hb q' (List.mem_cons_of_mem _ m)) (p1 x hx [q.1, q.2] [q'.1, q'.2] ⟨t, e, sqT_same hs ht⟩ ⟨t', e', sqT_same hs ht'⟩)
theorem intsOf_ok : ∀ {vs : List V} {ds : List D} {ns : List Int}, Reps K C h vs ds → intsOf ds = some ns → vs = ns.map V.int
  | _, _, ns, .nil, e => by
    unfold intsOf at e
    cases e
    rfl
  | _, _, ns, .cons (d := d) (ds := ds) a r, e => by
    cases a with
    | int i =>
      unfold intsOf at e
      obtain ⟨ms, h1, rfl⟩ := Option.map_eq_some_iff.mp e
      rw [List.map_cons, intsOf_ok r h1]
    | _ => cases e
theorem blsOf_ok : ∀ {vs : List V} {ds : List D} {ns : List Bool}, Reps K C h vs ds → blsOf ds = some ns → vs = ns.map V.bl
  | _, _, ns, .nil, e => by
    unfold blsOf at e
    cases e
    rfl
  | _, _, ns, .cons (d := d) (ds := ds) a r, e => by
    cases a with
    | bl i =>
      unfold blsOf at e
      obtain ⟨ms, h1, rfl⟩ := Option.map_eq_some_iff.mp e
      rw [List.map_cons, blsOf_ok r h1]
    | _ => cases e
theorem maxI_ge : ∀ (r : List Int) (m : Int), m ≤ maxI m r ∧ ∀ y ∈ r, y ≤ maxI m r
  | [], m => ⟨Int.le_refl _, fun y z => absurd z (by simp)⟩
  | x :: r, m => by
    obtain ⟨h1, h2⟩ := maxI_ge r (if x > m then x else m)
    unfold maxI
    have h3 : m ≤ (if x > m then x else m) ∧ x ≤ (if x > m then x else m) := by split <;> omega
    exact ⟨Int.le_trans h3.1 h1, fun y z => (List.mem_cons.mp z).elim (fun e => by rw [e]; exact Int.le_trans h3.2 h1) (h2 y)⟩
theorem maxI_mem : ∀ (r : List Int) (m : Int), maxI m r ∈ m :: r
  | [], m => List.mem_singleton.mpr rfl
  | x :: r, m => by
    unfold maxI
    have q := maxI_mem r (if x > m then x else m)
    rcases List.mem_cons.mp q with z | z
    · rw [z]
      split <;> simp
    · exact List.mem_cons_of_mem _ (List.mem_cons_of_mem _ z)
theorem minI_le : ∀ (r : List Int) (m : Int), minI m r ≤ m ∧ ∀ y ∈ r, minI m r ≤ y
  | [], m => ⟨Int.le_refl _, fun y z => absurd z (by simp)⟩
  | x :: r, m => by
    obtain ⟨h1, h2⟩ := minI_le r (if x < m then x else m)
    unfold minI
    have h3 : (if x < m then x else m) ≤ m ∧ (if x < m then x else m) ≤ x := by split <;> omega
    exact ⟨Int.le_trans h1 h3.1, fun y z => (List.mem_cons.mp z).elim (fun e => by rw [e]; exact Int.le_trans h1 h3.2) (h2 y)⟩
theorem minI_mem : ∀ (r : List Int) (m : Int), minI m r ∈ m :: r
  | [], m => List.mem_singleton.mpr rfl
  | x :: r, m => by
    unfold minI
    have q := minI_mem r (if x < m then x else m)
    rcases List.mem_cons.mp q with z | z
    · rw [z]
      split <;> simp
    · exact List.mem_cons_of_mem _ (List.mem_cons_of_mem _ z)
def F1.val : F1 → Value
  | .len => .builtin "len" | .int => .type "int" | .str => .type "str" | .repr => .builtin "repr" | .tuple => .type "tuple" | .list => .type "list" | .sum => .builtin "sum"
  | .max => .builtin "max" | .min => .builtin "min" | .abs => .builtin "abs" | .all => .builtin "all" | .any => .builtin "any" | .sorted => .builtin "sorted"
def rF (K : PySem.W.Frag) (C : Nat → Addr) (f : F1) : List V → Hp → VK → Prop := fun us H Q => ∃ h u x t, us = [u] ∧ Same h H ∧ Lie K C h H u x ∧ f1D f x = some t ∧ Made K C h H Q t
def F2.val : F2 → Value
  | .max => .builtin "max" | .min => .builtin "min"
def rF2 (K : PySem.W.Frag) (C : Nat → Addr) (f : F2) : List V → Hp → VK → Prop := fun us H Q => ∃ h u x v y t, us = [u, v] ∧ Same h H ∧ Rep K C h u x ∧ Rep K C h v y ∧ f2D f x y = some t ∧ Made K C h H Q (.cl t)
theorem lenD_ok {u : V} {x : D} {n : Int} (e : Same h H) (l : Lie K C h H u x) (q : lenD x = some n) : (∃ m : Nat, n = m ∧ LenV K u H m) ∨ ∃ a kvs, u = .ref a ∧ n = ((kvs.length : Nat) : Int) ∧ Rd H a (.dK kvs) := by
  cases x with
  | lst ds =>
    obtain ⟨a, vs, rfl, q1, s⟩ := l.lst e
    cases q
    exact .inl ⟨_, rfl, .inl ⟨vs, SqL.of q1, s.length.symm⟩⟩
  | tup ds =>
    obtain ⟨a, vs, rfl, q1, s⟩ := l.tup e
    cases q
    exact .inl ⟨_, rfl, .inr ⟨vs, q1, s.length.symm⟩⟩
  | scr ns =>
    obtain ⟨a, rfl, q1⟩ := l.scr e
    cases q
    exact .inl ⟨_, rfl, .inl ⟨_, q1, by rw [List.length_map]⟩⟩
  | str z =>
    have q : (if z.length ≤ sizeLine then some ((z.length : Nat) : Int) else none) = some n := q
    split at q
    · rename_i hz
      cases q
      cases l with
      | rep r => cases r; exact .inl ⟨_, rfl, hz, rfl⟩
    · cases q
  | dct ks ds =>
    cases q
    cases l with
    | rep r =>
      cases r with
      | dct q1 k s => exact .inr ⟨_, _, rfl, by rw [← k, List.length_map], rd_same e q1⟩
  | _ => cases q
end
section
variable {X : Cx} {C : Nat → Addr}
theorem call_lenDR : CallR X (.builtin "len") (fun xs H Q => ∃ a kvs, xs = [V.ref a] ∧ Rd H a (.dK kvs) ∧ Q (.int ((kvs.length : Nat) : Int)) H) := by
  intro pins s σ H xs us Q I r hh
  obtain ⟨a, kvs, rfl, hd, q⟩ := hh
  obtain ⟨u, rfl, ru⟩ := vals1 r
  cases ru
  exact d_len I hd fun t s' I' => ⟨.int ((kvs.length : Nat) : Int), H, I', ⟨t, rfl⟩, q⟩
theorem repr_ok (hg : X.A.guards = some []) (hu : X.A.units + 64 < cLine) : CallR X (.builtin "repr") (fun xs H Q => ∃ u d, xs = [u] ∧ Dp X.K H u d ∧ d.showable = true ∧ d.hasDict = false ∧ d.shown.length ≤ sizeLine ∧ d.depth ≤ 40 ∧ Q (.str d.shown) H) := by
  intro pins s σ H xs us Q I r hh
  obtain ⟨u, d, rfl, dp, h1, h2, h3, h4, q⟩ := hh
  obtain ⟨v, rfl, ru⟩ := vals1 r
  have tup : ∀ {b : Addr} {as : List Addr}, v = .ref b → Reads s.heap v d as → wpAny (model X.prog X.w) X.A (call (.builtin "repr") [v]) (EP X pins σ Q) X.xe s := fun {b as} e rd => by
    subst e
    exact repr_of_reads' rd h1 (fun z => by rw [h2] at z; cases z) hg (by omega) (fun _ _ e => e) (fun h' u tk k => ⟨.str d.shown, H, I.kept k, ⟨u, rfl⟩, q⟩) h3
  obtain ⟨as, rd⟩ := Dp.reads I d _ _ dp ru
  cases dp with
  | non => cases ru; exact PySem.P.repr_of_none ⟨.str _, H, I.tok _, ⟨_, rfl⟩, q⟩
  | bl b => cases ru; exact PySem.P.repr_of_bool ⟨.str _, H, I.tok _, ⟨_, rfl⟩, (by cases b <;> exact q)⟩
  | int i => obtain ⟨t, rfl⟩ := ru; exact PySem.P.repr_of_int (of_decide_eq_true h1) ⟨.str _, H, I.tok _, ⟨_, rfl⟩, q⟩
  | str x => obtain ⟨t, rfl⟩ := ru; exact PySem.P.repr_of_str ⟨.str _, H, I.tok _, ⟨_, rfl⟩, q⟩ h3
  | lst _ _ => cases ru; exact tup rfl rd
  | tup _ _ => cases ru; exact tup rfl rd
theorem f1_ok (hc : X.calm = true) (hg : X.A.guards = some []) (hu : X.A.units + 64 < cLine) (f : F1) : CallR X f.val (rF X.K C f) := by
  intro pins s σ H xs us Q I ra hh
  obtain ⟨h, u, x, t, rfl, hs, l, e, md⟩ := hh
  unfold f1D at e
  split at e
  · -- len
    obtain ⟨n, z, rfl⟩ := Option.map_eq_some_iff.mp e
    rcases lenD_ok hs l z with ⟨m, rfl, lv⟩ | ⟨a, kvs, rfl, rfl, hd⟩
    · exact call_len pins s σ H _ us Q I ra ⟨_, _, rfl, lv, md.same hs (.int _)⟩
    · exact call_lenDR pins s σ H _ us Q I ra ⟨_, _, rfl, hd, md.same hs (.int _)⟩
  · cases e
    cases l with
    | rep r => cases r; exact call_int1 pins s σ H _ us Q I ra (.inl ⟨_, rfl, md.same hs (.int _)⟩)
  · cases e
    cases l with
    | rep r => cases r; exact call_int1 pins s σ H _ us Q I ra (.inr ⟨_, rfl, md.same hs (.int _)⟩)
  · split at e
    · rename_i hz
      cases e
      cases l with
      | rep r => cases r; exact call_str_int pins s σ H _ us Q I ra ⟨_, rfl, hz, md.same hs (.str _)⟩
    · cases e
  · split at e
    · rename_i d hd
      split at e
      · rename_i hz
        cases e
        simp only [Bool.and_eq_true, decide_eq_true_eq, Bool.not_eq_true'] at hz
        have dp : Dp X.K H u d := by
          cases l with
          | rep r => exact r.dp hs hd
          | top q s =>
            unfold D.py at hd
            obtain ⟨ps, z, rfl⟩ := Option.map_eq_some_iff.mp hd
            exact .lst (SqL.of q) (Reps.dp hs s z)
        exact repr_ok hg hu pins s σ H _ us Q I ra ⟨u, d, rfl, dp, hz.1.1.1, hz.1.1.2, hz.1.2, hz.2, md.same hs (.str _)⟩
      · cases e
    · cases e
  · -- tuple of a list
    cases e
    obtain ⟨a, vs, rfl, q1, s1⟩ := l.lst hs
    exact call_tuple_of pins s σ H _ us Q I ra ⟨_, _, rfl, .inl ⟨SqL.of q1, fun p n => Made.tup hs md s1 n⟩⟩
  · cases e
    obtain ⟨a, vs, rfl, q1, s1⟩ := l.tup hs
    cases l with
    | rep r => exact call_tuple_of pins s σ H _ us Q I ra ⟨_, _, rfl, .inr ⟨q1, md.same hs r⟩⟩
  · cases e
    obtain ⟨a, vs, rfl, q1, s1⟩ := l.lst hs
    exact call_list_of pins s σ H _ us Q I ra ⟨_, _, rfl, .inl (SqL.of q1), fun p n => Made.lstD hs md s1 n⟩
  · cases e
    obtain ⟨a, vs, rfl, q1, s1⟩ := l.tup hs
    exact call_list_of pins s σ H _ us Q I ra ⟨_, _, rfl, .inr q1, fun p n => Made.lstD hs md s1 n⟩
  · cases e
    obtain ⟨a, rfl, q1⟩ := l.scr hs
    exact call_list_of pins s σ H _ us Q I ra ⟨_, _, rfl, .inl q1, fun p n => Made.lstD hs md (reps_ints _) n⟩
  · obtain ⟨ns, z, rfl⟩ := Option.map_eq_some_iff.mp e
    obtain ⟨a, vs, rfl, q1, s1⟩ := l.lst hs
    rw [intsOf_ok s1 z] at q1
    exact cr_sum hc pins s σ H _ us Q I ra ⟨_, _, rfl, SqL.of q1, md.same hs (.int _)⟩
  · obtain ⟨ns, z, rfl⟩ := Option.map_eq_some_iff.mp e
    obtain ⟨a, vs, rfl, q1, s1⟩ := l.tup hs
    rw [intsOf_ok s1 z] at q1
    exact cr_sumT hc pins s σ H _ us Q I ra ⟨_, _, rfl, q1, md.same hs (.int _)⟩
  · obtain ⟨ns, z, e⟩ := Option.bind_eq_some_iff.mp e
    obtain ⟨a, vs, rfl, q1, s1⟩ := l.lst hs
    rw [intsOf_ok s1 z] at q1
    cases ns with
    | nil => cases e
    | cons m r =>
      cases e
      refine cr_max hc pins s σ H _ us Q I ra ⟨_, _, rfl, SqL.of q1, by simp, fun k hk hle => ?_⟩
      have e2 : k = maxI m r := by
        have a1 := hle _ (maxI_mem r m)
        have a2 : k ≤ maxI m r := by
          rcases List.mem_cons.mp hk with rfl | z'
          · exact (maxI_ge r _).1
          · exact (maxI_ge r m).2 _ z'
        omega
      rw [e2]
      exact md.same hs (.int _)
  · obtain ⟨ns, z, e⟩ := Option.bind_eq_some_iff.mp e
    obtain ⟨a, vs, rfl, q1, s1⟩ := l.lst hs
    rw [intsOf_ok s1 z] at q1
    cases ns with
    | nil => cases e
    | cons m r =>
      cases e
      refine cr_min hc pins s σ H _ us Q I ra ⟨_, _, rfl, SqL.of q1, by simp, fun k hk hle => ?_⟩
      have e2 : k = minI m r := by
        have a1 := hle _ (minI_mem r m)
        have a2 : minI m r ≤ k := by
          rcases List.mem_cons.mp hk with rfl | z'
          · exact (minI_le r _).1
          · exact (minI_le r m).2 _ z'
        omega
      rw [e2]
      exact md.same hs (.int _)
  · cases e
    cases l with
    | rep r => cases r; exact call_abs pins s σ H _ us Q I ra ⟨_, rfl, md.same hs (.int _)⟩
  · obtain ⟨ns, z, rfl⟩ := Option.map_eq_some_iff.mp e
    obtain ⟨a, vs, rfl, q1, s1⟩ := l.lst hs
    rw [blsOf_ok s1 z] at q1
    exact cr_all hc pins s σ H _ us Q I ra ⟨_, _, rfl, SqL.of q1, md.same hs (.bl _)⟩
  · obtain ⟨ns, z, rfl⟩ := Option.map_eq_some_iff.mp e
    obtain ⟨a, vs, rfl, q1, s1⟩ := l.lst hs
    rw [blsOf_ok s1 z] at q1
    exact cr_any hc pins s σ H _ us Q I ra ⟨_, _, rfl, SqL.of q1, md.same hs (.bl _)⟩
  · rename_i xs
    obtain ⟨a, vs, rfl, q1, s1⟩ := l.lst hs
    cases z : intsOf xs with
    | some ns =>
    rw [z] at e
    cases e
    rw [intsOf_ok s1 z] at q1
    refine cr_sortedI pins s σ H _ us Q I ra ⟨_, _, rfl, SqL.of q1, fun ns' p p1 p2 n => ?_⟩
    rw [isort_eq p1 p2]
    exact Made.lstD hs md (reps_ints _) n
    | none =>
    rw [z] at e
    obtain ⟨ps, z2, e⟩ := Option.bind_eq_some_iff.mp e
    split at e
    · rename_i hb
      cases e
      rw [Bool.and_eq_true, decide_eq_true_iff] at hb
      have hb2 : ∀ p ∈ ps, 0 ≤ p.1 ∧ 0 ≤ p.2 := fun p m => by simpa using List.all_eq_true.mp hb.2 p m
      obtain ⟨B, hB⟩ := bound_pairs ps
      refine cr_sortT (d := 2) (B := B) (by decide) pins s σ H _ us Q I ra ⟨_, vs, rfl, SqL.of q1, by rw [s1.length, pairs_len z2]; exact hb.1, fun x m => ?_, fun ys p p1 p2 n => ?_⟩
      · obtain ⟨q, hq, t, e, ht⟩ := reps_pair m (by rw [← pairs_back z2]; exact s1)
        exact ⟨[q.1, q.2], ⟨t, e, sqT_same hs ht⟩, rfl, bd_pair (hb2 q hq) (hB q hq)⟩
      · obtain ⟨es, pe, re⟩ := reps_perm p1.symm s1
        obtain ⟨qs, rfl, pq⟩ := pairs_perm pe (pairs_back z2)
        have hp : qs.Pairwise lexP := pairs_pw hs re (fun q m => bd_pair (hb2 q (pq.mem_iff.mpr m)) (hB q (pq.mem_iff.mpr m))) p2
        rw [← psort_eq pq.symm hp] at md
        exact Made.lstD hs md re n
    · cases e
  · cases e
theorem f2_ok (hc : X.calm = true) (f : F2) : CallR X f.val (rF2 X.K C f) := by
  intro pins s σ H xs us Q I ra hh
  obtain ⟨h, u, x, v, y, t, rfl, hs, r1, r2, e, md⟩ := hh
  unfold f2D at e
  split at e
  · cases e; cases r1; cases r2
    exact call_max2 hc pins s σ H _ us Q I ra ⟨_, _, rfl, md.same hs (.int _)⟩
  · cases e; cases r1; cases r2
    exact call_min2 hc pins s σ H _ us Q I ra ⟨_, _, rfl, md.same hs (.int _)⟩
  · cases e
theorem ix_dk (hu : X.A.units + 1 < cLine) : IxR X (fun x y H Q => ∃ a v, x = .ref a ∧ DGet H a y (some v) ∧ Q v H) := by
  intro value slice pins s σ H x y v u Q I rx ry hh hs
  obtain ⟨a, z, rfl, g, q⟩ := hh
  cases rx
  exact tail_any (ops := [.ref a, u]) (dict_typeIs I g) PySem.F.slot_dict_getitem.lookup (d_getItem hu I g ry fun w' s3 I3 rw' => ⟨z, H, I3, rw', q⟩) hs
theorem atI_reps {K : PySem.W.Frag} {h : Hp} {vs : List V} {ds : List D} {i : Int} {d : D} (r : Reps K C h vs ds) (e : atI ds i = some d) : ∃ v, atI vs i = some v ∧ Rep K C h v d := by
  unfold atI at e ⊢
  rw [r.length]
  obtain ⟨j, e1, e2⟩ := Option.bind_eq_some_iff.mp e
  obtain ⟨v, v1, v2⟩ := r.get e2
  exact ⟨v, by rw [e1]; exact v1, v2⟩
theorem lookK_reps {K : PySem.W.Frag} {h : Hp} {k : Key} {d : D} : ∀ {kvs : List (Key × V)} {ds : List D}, Reps K C h (kvs.map (·.2)) ds → lookK (kvs.map (·.1)) ds k = some d → ∃ v, valV kvs k = some v ∧ Rep K C h v d
  | [], _, r, e => by cases e
  | (k', v) :: kvs, ds, r, e => by
    cases r with
    | cons a r =>
      rw [List.map_cons] at e
      unfold lookK at e
      split at e
      · rename_i hk
        cases e
        exact ⟨v, valV_pos hk, a⟩
      · rename_i hk
        obtain ⟨w, w1, w2⟩ := lookK_reps r e
        exact ⟨w, by rw [valV_neg hk]; exact w1, w2⟩
theorem key_ok {K : PySem.W.Frag} {h : Hp} {v : V} {d : D} {k : Key} (r : Rep K C h v d) (e : d.key = some k) : v = kV k := by
  cases d with
  | int i => cases r; cases e; rfl
  | str i => cases r; cases e; rfl
  | _ => cases e
def rIxA (K : PySem.W.Frag) (C : Nat → Addr) : R2 := fun u v H Q => ∃ h x y d, Same h H ∧ Rep K C h u x ∧ Rep K C h v y ∧ ixD x y = some d ∧ ∀ w, Rep K C h w d → Q w H
theorem ix_ok (hu : X.A.units + 1 < cLine) : IxR X (rIxA X.K C) := by
  intro value slice pins s σ H a b v u Q I ra rb hh hsub
  obtain ⟨h, x, y, d, hs, r1, r2, e, md⟩ := hh
  unfold ixD at e
  split at e
  · cases r2
    cases r1 with
    | lst q1 s1 =>
      obtain ⟨w, w1, w2⟩ := atI_reps s1 e
      exact ix_list value slice pins s σ H _ _ v u Q I ra rb ⟨_, _, _, w, rfl, rfl, SqL.of (hs _ _ q1), w1, md w w2⟩ hsub
  · cases r2
    cases r1 with
    | tup q1 s1 =>
      obtain ⟨w, w1, w2⟩ := atI_reps s1 e
      exact ix_tup value slice pins s σ H _ _ v u Q I ra rb ⟨_, _, _, w, rfl, rfl, sqT_same hs q1, w1, md w w2⟩ hsub
  · cases r2
    cases r1 with
    | scr q1 =>
      rename_i ns i _
      have e' : atI (ns.map D.int) i = some d := by
        obtain ⟨n, e1, rfl⟩ := Option.map_eq_some_iff.mp e
        unfold atI at e1 ⊢
        obtain ⟨j, e1, e2⟩ := Option.bind_eq_some_iff.mp e1
        rw [List.length_map, e1]
        show (ns.map D.int)[j]? = _
        rw [List.getElem?_map, e2]
        rfl
      obtain ⟨w, w1, w2⟩ := atI_reps (reps_ints (K := X.K) (C := C) (h := h) ns) e'
      exact ix_list value slice pins s σ H _ _ v u Q I ra rb ⟨_, _, _, w, rfl, rfl, hs.seq q1, w1, md w w2⟩ hsub
  · obtain ⟨k, k1, k2⟩ := Option.bind_eq_some_iff.mp e
    cases r1 with
    | dct q1 hk s1 =>
      rw [← hk] at k2
      obtain ⟨w, w1, w2⟩ := lookK_reps s1 k2
      rw [key_ok r2 k1] at rb
      exact ix_dk hu value slice pins s σ H _ _ v u Q I ra rb ⟨_, w, rfl, .inl ⟨_, k, rd_same hs q1, rfl, w1.symm⟩, md w w2⟩ hsub
  · split at e
    · rename_i hz
      obtain ⟨c, c1, rfl⟩ := Option.map_eq_some_iff.mp e
      cases r1; cases r2
      exact ix_str value slice pins s σ H _ _ v u Q I ra rb ⟨_, _, c, rfl, rfl, hz, c1, md _ (.str _)⟩ hsub
    · cases e
  · cases e
theorem cut_reps {K : PySem.W.Frag} {h : Hp} {vs : List V} {ds : List D} (r : Reps K C h vs ds) (lo hi : Option Int) : Reps K C h (cutV vs lo hi) (cut ds lo hi) := by
  unfold cutV cut
  rw [r.length]
  exact (r.drop _).take _
def rSlA' (K : PySem.W.Frag) (C : Nat → Addr) : V → Option Int → Option Int → Hp → VK → Prop := fun u lo hi H Q => ∃ h x t, Same h H ∧ Lie K C h H u x ∧ slD x lo hi = some t ∧ Made K C h H Q t
theorem sl_ok : SlR X (rSlA' X.K C) := by
  intro pins s σ H a v vl vu lo hi sl Q I ra hsl pl pu hh
  obtain ⟨h, x, t, hs, l, e, md⟩ := hh
  unfold slD at e
  split at e
  · cases e
    obtain ⟨a, vs, rfl, q1, s1⟩ := l.lst hs
    exact sl_list pins s σ H _ v vl vu _ _ sl Q I ra hsl pl pu ⟨_, _, rfl, SqL.of q1, fun p n => Made.lstD hs md (cut_reps s1 _ _) n⟩
  · cases e
    obtain ⟨a, rfl, q1⟩ := l.scr hs
    rename_i ns
    refine sl_list pins s σ H _ v vl vu _ _ sl Q I ra hsl pl pu ⟨_, _, rfl, q1, fun p n => ?_⟩
    have ec : ∀ lo hi, cutV (ns.map V.int) lo hi = (cut ns lo hi).map V.int := fun lo hi => by
      unfold cutV cut
      rw [List.length_map, List.map_take, List.map_drop]
    rw [ec]
    exact Made.lstD hs md (reps_ints _) n
  · cases e
    obtain ⟨a, vs, rfl, q1, s1⟩ := Lie.tup hs l
    refine sl_tupA pins s σ H _ v vl vu _ _ sl Q I ra hsl pl pu ⟨_, _, rfl, q1, fun hw => ?_, fun _ p n => Made.tup hs md (cut_reps s1 _ _) n⟩
    cases l with
    | rep r =>
      rename_i ds
      have ec : cut ds lo hi = ds := by
        unfold cut
        rw [← s1.length, hw.1, hw.2, List.drop_zero, Nat.sub_zero, s1.length, List.take_length]
      rw [ec] at md
      exact md.same hs r
  · split at e
    · rename_i hz
      cases e
      cases l with
      | rep r => cases r; exact sl_str pins s σ H _ v vl vu _ _ sl Q I ra hsl pl pu ⟨_, rfl, hz, md.same hs (.str _)⟩
    · cases e
  · cases e
end
def rM (K : PySem.W.Frag) (C : Nat → Addr) (n : Bool) : R2 := fun u v H Q => ∃ h x y b, Same h H ∧ Rep K C h u x ∧ Rep K C h v y ∧ inD x y = some b ∧ Q (.bl (if n then !b else b)) H
theorem valV_any (k : Key) : ∀ kvs : List (Key × V), (valV kvs k).isSome = (kvs.map (·.1)).any fun k' => decide (k' = k)
  | [] => rfl
  | (k', v) :: kvs => by
    rw [List.map_cons, List.any_cons]
    by_cases e : k' = k
    · rw [valV_pos e, decide_eq_true e]
      rfl
    · rw [valV_neg e, decide_eq_false e, Bool.false_or]
      exact valV_any k kvs
theorem inV_ints (i : Int) : ∀ ns : List Int, inV (.int i) (ns.map V.int) = ns.any fun n => n == i
  | [] => rfl
  | n :: ns => by
    have := inV_ints i ns
    unfold inV at this ⊢
    rw [List.map_cons, List.any_cons, List.any_cons, this]
    rfl
theorem flat_ints (ns : List Int) : (ns.map V.int).all flatV = true := by
  rw [List.all_eq_true]
  intro x m
  obtain ⟨n, -, rfl⟩ := List.mem_map.mp m
  rfl
section
variable {X : Cx} {C : Nat → Addr}
theorem opM_ok (hu : X.A.units + 1 < cLine) (n : Bool) : OpR X (compareOp (if n then .NotIn else .In)) (rM X.K C n) := by
  intro pins s σ H a b v u Q I ra rb hh
  obtain ⟨h, x, y, t, hs, r1, r2, e, q⟩ := hh
  have seq : ∀ {i : Int} {ys : List V} {ns : List Int} {p : Addr}, (SqL X.K H p ys ∨ SqT X.K H p ys) → ys = ns.map V.int → t = (ns.any fun n => n == i) → a = .int i → b = .ref p → wpAny (model X.prog X.w) X.A (compareOp (if n then .NotIn else .In) v u) (EP X pins σ Q) X.xe s := by
    rintro i ys ns p hp rfl rfl rfl rfl
    cases n
    · exact op_in_seq pins s σ H _ _ v u Q I ra rb ⟨p, _, rfl, hp, rfl, flat_ints ns, by rw [inV_ints]; exact q⟩
    · exact op_notIn_seq pins s σ H _ _ v u Q I ra rb ⟨p, _, rfl, hp, rfl, flat_ints ns, by rw [inV_ints]; exact q⟩
  unfold inD at e
  split at e
  · obtain ⟨ns, e1, e2⟩ := Option.map_eq_some_iff.mp e
    cases r1
    cases r2 with
    | lst z r => exact seq (.inl (SqL.of (hs _ _ z))) (intsOf_ok r e1) e2.symm rfl rfl
  · obtain ⟨ns, e1, e2⟩ := Option.map_eq_some_iff.mp e
    cases r1
    cases r2 with
    | tup z r => exact seq (.inr (sqT_same hs z)) (intsOf_ok r e1) e2.symm rfl rfl
  · cases e
    cases r1
    cases r2 with
    | dct z hk r =>
      rename_i i ks ds p kvs
      have z : Rd H p (.dK kvs) := by
        rcases z with z | ⟨o, z⟩
        · exact .inl (hs _ _ z)
        · exact .inr ⟨o, hs _ _ z⟩
      have g : DGet H p (.int i) (valV kvs (.inl i)) := .inl ⟨kvs, .inl i, z, rfl, rfl⟩
      have ev := valV_any (.inl i) kvs
      rw [hk] at ev
      cases rb
      cases n
      · exact d_in hu I g ra fun s3 I3 => ⟨.bl _, H, I3, rfl, by rw [ev]; exact q⟩
      · exact d_notIn hu I g ra fun s3 I3 => ⟨.bl _, H, I3, rfl, by rw [ev]; exact q⟩
  · cases e
end
end Mi
namespace Mi
open PySem PySem.Spec PyProof.Rows L2
section
variable {K : PySem.W.Frag} {C : Nat → Addr} {h H : Hp}
def Part (K : PySem.W.Frag) (C : Nat → Addr) (h H : Hp) (F : List Addr) (v : V) (t : T) (F1 : List Addr) (whole : T → Hp → Hp → List Addr → Prop) : Prop :=
  Own K C h H v t F1 ∧ (∀ a, a ∈ F1 → a ∈ F) ∧
    ∀ (h' H' : Hp) (t' : T) (F2 : List Addr), Same h h' → (∀ a, a ∈ F → a ∉ F1 → H' a = H a ∧ h' a = none) → Own K C h' H' v t' F2 → (∀ a, a ∈ F2 → a ∈ F1 ∨ a ∉ F) → ∃ F', whole t' h' H' F' ∧ ∀ a, a ∈ F' → a ∈ F ∨ a ∈ F2
theorem OwnR.get : ∀ {vs : List V} {rt : Rt} {F : List Addr} {k : Nat} {t : T}, OwnR K C h H vs rt F → rt[k]? = some (some t) →
    ∃ v F1, vs[k]? = some v ∧ Part K C h H F v t F1 fun t' h' H' F' => OwnR K C h' H' vs (rt.set k (some t')) F'
  | _, _, _, 0, _, .cons (F := F) (G := G) p r dj, e => by
    cases e
    refine ⟨_, F, rfl, p, fun a z => List.mem_append_left _ z, fun h' H' t' F2 s fr o nw => ⟨F2 ++ G, ?_, fun a z => ?_⟩⟩
    · refine .cons o (r.stay s fun a z => fr a (List.mem_append_right _ z) fun z' => dj a z' z) fun a z z' => ?_
      rcases nw a z with y | y
      · exact dj a y z'
      · exact y (List.mem_append_right _ z')
    · rcases List.mem_append.mp z with z | z
      · exact .inr z
      · exact .inl (List.mem_append_right _ z)
  | _, _, _, k + 1, _, .no (G := G) r, e => by
    obtain ⟨v, F1, e1, o1, s1, w1⟩ := OwnR.get (k := k) r (by simpa using e)
    refine ⟨v, F1, by simpa using e1, o1, s1, fun h' H' t' F2 s fr o nw => ?_⟩
    obtain ⟨F', w, z⟩ := w1 h' H' t' F2 s fr o nw
    exact ⟨F', .no w, z⟩
  | _, _, _, k + 1, _, .cons (F := F) (G := G) p r dj, e => by
    obtain ⟨v, F1, e1, o1, s1, w1⟩ := OwnR.get (k := k) r (by simpa using e)
    refine ⟨v, F1, by simpa using e1, o1, fun a z => List.mem_append_right _ (s1 a z), fun h' H' t' F2 s fr o nw => ?_⟩
    have nF : ∀ a, a ∈ F → a ∉ F1 := fun a z z' => dj a z (s1 a z')
    obtain ⟨F', w, z⟩ := w1 h' H' t' F2 s (fun a y n => fr a (List.mem_append_right _ y) n) o fun a y => (nw a y).imp id fun n q => n (List.mem_append_right _ q)
    refine ⟨F ++ F', .cons (p.stay s fun a y => fr a (List.mem_append_left _ y) (nF a y)) w fun a y y' => ?_, fun a y => ?_⟩
    · rcases z a y' with q | q
      · exact dj a y q
      · rcases nw a q with q | q
        · exact nF a y q
        · exact q (List.mem_append_left _ y)
    · rcases List.mem_append.mp y with y | y
      · exact .inl (List.mem_append_left _ y)
      · exact (z a y).imp (fun q => List.mem_append_right _ q) id
theorem OwnR.put : ∀ {vs : List V} {rt : Rt} {F G : List Addr} {k : Nat} {v : V} {t : T}, OwnR K C h H vs rt F → k < rt.length → Own K C h H v t G → (∀ a, a ∈ G → a ∉ F) →
    ∃ F', OwnR K C h H (vs.set k v) (rt.set k (some t)) F' ∧ ∀ a, a ∈ F' → a ∈ F ∨ a ∈ G
  | _, _, _, G, 0, _, _, .no (G := G0) r, _, o, dj => ⟨G ++ G0, .cons o r fun a z z' => dj a z z', fun a z => (List.mem_append.mp z).symm.imp id id⟩
  | _, _, _, G, 0, _, _, .cons (F := F0) (G := G0) p r _, _, o, dj => ⟨G ++ G0, .cons o r fun a z z' => dj a z (List.mem_append_right _ z'), fun a z => (List.mem_append.mp z).symm.imp (fun q => List.mem_append_right _ q) id⟩
  | _, _, _, G, k + 1, _, _, .no r, l, o, dj => by
    obtain ⟨F', w, z⟩ := OwnR.put (k := k) r (by simpa using l) o dj
    exact ⟨F', .no w, z⟩
  | _, _, _, G, k + 1, _, _, .cons (F := F0) (G := G0) p r d0, l, o, dj => by
    obtain ⟨F', w, z⟩ := OwnR.put (k := k) r (by simpa using l) o fun a y y' => dj a y (List.mem_append_right _ y')
    refine ⟨F0 ++ F', .cons p w fun a y y' => ?_, fun a y => ?_⟩
    · rcases z a y' with q | q
      · exact d0 a y q
      · exact dj a q (List.mem_append_left _ y)
    · rcases List.mem_append.mp y with y | y
      · exact .inl (List.mem_append_left _ y)
      · exact (z a y).imp (fun q => List.mem_append_right _ q) id
theorem OwnR.take1 : ∀ {vs : List V} {rt : Rt} {F : List Addr} {k : Nat} {t : T}, OwnR K C h H vs rt F → rt[k]? = some (some t) →
    ∃ v F1 F', vs[k]? = some v ∧ Own K C h H v t F1 ∧ OwnR K C h H vs (rt.set k none) F' ∧ (∀ a, a ∈ F1 → a ∈ F) ∧ (∀ a, a ∈ F' → a ∈ F) ∧ ∀ a, a ∈ F1 → a ∉ F'
  | _, _, _, 0, _, .cons (F := F) (G := G) p r dj, e => by
    cases e
    exact ⟨_, F, G, rfl, p, .no r, fun a z => List.mem_append_left _ z, fun a z => List.mem_append_right _ z, dj⟩
  | _, _, _, k + 1, _, .no r, e => by
    obtain ⟨v, F1, F', e1, o1, w1, a1, a2, a3⟩ := OwnR.take1 (k := k) r (by simpa using e)
    exact ⟨v, F1, F', by simpa using e1, o1, .no w1, a1, a2, a3⟩
  | _, _, _, k + 1, _, .cons (F := F) (G := G) p r dj, e => by
    obtain ⟨v, F1, F', e1, o1, w1, a1, a2, a3⟩ := OwnR.take1 (k := k) r (by simpa using e)
    refine ⟨v, F1, F ++ F', by simpa using e1, o1, .cons p w1 fun a y y' => dj a y (a2 a y'), fun a y => List.mem_append_right _ (a1 a y), fun a y => ?_, fun a y y' => ?_⟩
    · exact (List.mem_append.mp y).elim (fun q => List.mem_append_left _ q) fun q => List.mem_append_right _ (a2 a q)
    · rcases List.mem_append.mp y' with q | q
      · exact dj a q (a1 a y)
      · exact a3 a y q
theorem Owns.get : ∀ {vs : List V} {ts : List T} {F : List Addr} {j : Nat} {t : T}, Owns K C h H vs ts F → ts[j]? = some t →
    ∃ v F1, vs[j]? = some v ∧ Part K C h H F v t F1 fun t' h' H' F' => Owns K C h' H' vs (ts.set j t') F'
  | _, _, _, 0, _, .cons (F := F) (G := G) p r dj, e => by
    cases e
    refine ⟨_, F, rfl, p, fun a z => List.mem_append_left _ z, fun h' H' t' F2 s fr o nw => ⟨F2 ++ G, ?_, fun a z => ?_⟩⟩
    · refine .cons o (r.stay s fun a z => fr a (List.mem_append_right _ z) fun z' => dj a z' z) fun a z z' => ?_
      rcases nw a z with y | y
      · exact dj a y z'
      · exact y (List.mem_append_right _ z')
    · rcases List.mem_append.mp z with z | z
      · exact .inr z
      · exact .inl (List.mem_append_right _ z)
  | _, _, _, k + 1, _, .cons (F := F) (G := G) p r dj, e => by
    obtain ⟨v, F1, e1, o1, s1, w1⟩ := Owns.get (j := k) r (by simpa using e)
    refine ⟨v, F1, by simpa using e1, o1, fun a z => List.mem_append_right _ (s1 a z), fun h' H' t' F2 s fr o nw => ?_⟩
    have nF : ∀ a, a ∈ F → a ∉ F1 := fun a z z' => dj a z (s1 a z')
    obtain ⟨F', w, z⟩ := w1 h' H' t' F2 s (fun a y n => fr a (List.mem_append_right _ y) n) o fun a y => (nw a y).imp id fun n q => n (List.mem_append_right _ q)
    refine ⟨F ++ F', .cons (p.stay s fun a y => fr a (List.mem_append_left _ y) (nF a y)) w fun a y y' => ?_, fun a y => ?_⟩
    · rcases z a y' with q | q
      · exact dj a y q
      · rcases nw a q with q | q
        · exact nF a y q
        · exact q (List.mem_append_left _ y)
    · rcases List.mem_append.mp y with y | y
      · exact .inl (List.mem_append_left _ y)
      · exact (z a y).imp (fun q => List.mem_append_right _ q) id
theorem Part.mono {F F0 : List Addr} {v : V} {t : T} {F1 : List Addr} {w : T → Hp → Hp → List Addr → Prop} (p : Part K C h H F0 v t F1 w) {w' : T → Hp → Hp → List Addr → Prop} (hF : ∀ a, a ∈ F0 → a ∈ F)
    (k : ∀ (h' H' : Hp) (t' : T) (F2 F' : List Addr), Same h h' → (∀ a, a ∈ F → a ∉ F1 → H' a = H a ∧ h' a = none) → w t' h' H' F' → (∀ a, a ∈ F' → a ∈ F0 ∨ a ∈ F2) → (∀ a, a ∈ F2 → a ∈ F1 ∨ a ∉ F) → ∃ F3, w' t' h' H' F3 ∧ ∀ a, a ∈ F3 → a ∈ F ∨ a ∈ F2) :
    Part K C h H F v t F1 w' := by
  obtain ⟨o, s, ww⟩ := p
  refine ⟨o, fun a z => hF a (s a z), fun h' H' t' F2 sm fr o2 nw => ?_⟩
  obtain ⟨F', x, y⟩ := ww h' H' t' F2 sm (fun a z n => fr a (hF a z) n) o2 fun a z => (nw a z).imp id fun n q => n (hF a q)
  exact k h' H' t' F2 F' sm fr x y nw
theorem atI_set {ts : List T} {i : Int} {t : T} (e : atI ts i = some t) : ∃ j, ixN ts.length i = some j ∧ ts[j]? = some t := by
  unfold atI at e
  obtain ⟨j, e1, e2⟩ := Option.bind_eq_some_iff.mp e
  exact ⟨j, e1, e2⟩
theorem valV_get {F : List Addr} : ∀ {kvs : List (Key × V)} {ts : List T} {k : Key} {t : T}, Owns K C h H (kvs.map (·.2)) ts F → lookK (kvs.map (·.1)) ts k = some t → ∃ j v, ts[j]? = some t ∧ (kvs.map (·.2))[j]? = some v ∧ valV kvs k = some v ∧
    ∀ t', putKs k t' (kvs.map (·.1)) ts = (kvs.map (·.1), ts.set j t')
  | [], _, _, _, _, e => by cases e
  | (k', v) :: kvs, _, k, t, .cons (ts := ts) p r dj, e => by
    rw [List.map_cons] at e
    unfold lookK at e
    split at e
    · rename_i hk
      cases e
      have hk : k' = k := hk
      subst hk
      exact ⟨0, v, rfl, rfl, valV_pos rfl, fun t' => by rw [List.map_cons]; unfold putKs; rw [if_pos rfl]; rfl⟩
    · rename_i hk
      obtain ⟨j, w, e1, e2, e3, e4⟩ := valV_get r e
      exact ⟨j + 1, w, by simpa using e1, by simpa using e2, by rw [valV_neg hk]; exact e3, fun t' => by rw [List.map_cons]; unfold putKs; rw [if_neg hk, e4]; rfl⟩
theorem look_fs : ∀ {fs : List (Str × V)} {ds : List D} {f : Str} {d : D}, Reps K C h (fs.map (·.2)) ds → lookN (fs.map (·.1)) ds f = some d → ∃ v, fs.lookup f = some v ∧ Rep K C h v d
  | [], _, _, _, _, e => by cases e
  | (n, v) :: fs, _, f, d, .cons p r, e => by
    rw [List.map_cons] at e
    unfold lookN at e
    rw [List.lookup_cons]
    split at e
    · rename_i hk
      cases e
      have hk : n = f := hk
      subst hk
      exact ⟨v, by simp, p⟩
    · rename_i hk
      obtain ⟨w, e1, e2⟩ := look_fs r e
      have hb : (f == n) = false := beq_eq_false_iff_ne.mpr fun z => hk z.symm
      exact ⟨w, by rw [hb]; exact e1, e2⟩
theorem look_ts {F : List Addr} : ∀ {fs : List (Str × V)} {ts : List T} {f : Str} {t : T}, Owns K C h H (fs.map (·.2)) ts F → lookN (fs.map (·.1)) ts f = some t →
    ∃ j v, ts[j]? = some t ∧ (fs.map (·.2))[j]? = some v ∧ fs.lookup f = some v ∧ ∀ t', upP.setN f t' (fs.map (·.1)) ts = ts.set j t'
  | [], _, _, _, _, e => by cases e
  | (n, v) :: fs, _, f, d, .cons p r dj, e => by
    rw [List.map_cons] at e
    unfold lookN at e
    rw [List.lookup_cons]
    split at e
    · rename_i hk
      cases e
      have hk : n = f := hk
      subst hk
      exact ⟨0, v, rfl, rfl, by simp, fun t' => by rw [List.map_cons]; unfold upP.setN; rw [if_pos rfl]; rfl⟩
    · rename_i hk
      obtain ⟨j, w, e1, e2, e3, e4⟩ := look_ts r e
      have hb : (f == n) = false := beq_eq_false_iff_ne.mpr fun z => hk z.symm
      exact ⟨j + 1, w, by simpa using e1, by simpa using e2, by rw [hb]; exact e3, fun t' => by rw [List.map_cons]; unfold upP.setN; rw [if_neg hk, e4]; rfl⟩
end
end Mi
namespace Mi
open PySem PySem.Spec PyProof.Rows L2
section
variable {X : Cx}
def rGetL (K : PySem.W.Frag) : V → V → Hp → VK → Prop := fun o i H Q => ∃ p xs j v, o = .ref p ∧ i = .int j ∧ SqL K H p xs ∧ atI xs j = some v ∧ Q v H
theorem pget_list : PGet X (rGetL X.K) := by
  intro pins s σ H x y v u Q I rx ry h
  obtain ⟨p, xs, i, z, rfl, rfl, hq, he, q⟩ := h
  cases rx
  obtain ⟨t, rfl⟩ := ry
  obtain ⟨its, r, pl, hz⟩ := I.list hq
  obtain ⟨j, h1, h2, h3, h4, h5⟩ := atI_get he
  obtain ⟨w, ew, rw'⟩ := r.get h2
  have hl := r.length
  have hn := line63
  have fin : EP X pins σ Q w s := ⟨z, H, I, rw', q⟩
  by_cases h0 : 0 ≤ i
  · have hj : i.toNat = j := by
      rw [seqIndex_of h0 h5] at h1
      exact Option.some.inj h1
    exact wpAny_mono (wpAny_getItem_list (Q := fun r s' => r = w ∧ EP X pins σ Q r s') pl.isList h0 (by omega) (by rw [hj]; simpa using ew) ⟨rfl, fin⟩) (fun _ _ q => q.2) fun _ _ x => x
  · have hj : (i + (its.toArray.size : Int)).toNat = j := by
      rw [seqIndex_neg (by omega) h4] at h1
      rw [List.size_toArray, ← hl]
      exact Option.some.inj h1
    exact wpAny_mono (wpAny_getItem_list_neg (Q := fun r s' => r = w ∧ EP X pins σ Q r s') pl.isList (by omega) (by rw [List.size_toArray] <;> omega) (by omega) (by rw [hj]; simpa using ew) ⟨rfl, fin⟩) (fun _ _ q => q.2) fun _ _ x => x
end
theorem new_enumT (l : Addr) (items : Array Value) (n : Nat) (dct : Option Addr) (sl : Array (Option Value)) :
    Meets (Builtin.«enumerate.__new__» ⟨[.type "enumerate", .ref l], []⟩) (fun _ R s => s.heap.get? l = some { cls := .type "tuple", dict := dct, data := .seq items n, slots := sl } ∧
      R (.ok (.ret (.ref (s.heap.push { cls := .type "tuple_iterator", data := .fields #[.ref l, .int 0 0] }).objs.size)))
        { s with heap := (s.heap.push { cls := .type "tuple_iterator", data := .fields #[.ref l, .int 0 0] }).push { cls := .type "enumerate", data := .fields #[.none, .bool false, .ref s.heap.objs.size, rawInt 0, .none, .none] } }) :=
  .of_wp fun prog w A R s h => by
    obtain ⟨hp, g, d, tk, os⟩ := s
    obtain ⟨e0, h⟩ := h
    have sb := sub_enumerate
    have tL : Heap.IsTuple (Shared.heap ⟨hp, g, d, tk, os⟩) l items := ⟨_, e0, rfl, n, rfl⟩
    wp_walk using AutoSeq1.wpAny_loadPart' e0
    refine wpAny_stack_any fun st => wpAny_pure ?_
    split
    · rename_i cc _ _ _ _ _
      cases (cc == Value.type "enumerate")
      all_goals
        wp_walk using AutoSeq1.wpAny_loadPart' e0, wpAny_pyIter_tuple tL
        exact ⟨_, rfl, h⟩
    · wp_walk using AutoSeq1.wpAny_loadPart' e0, wpAny_pyIter_tuple tL
      exact ⟨_, rfl, h⟩
section
variable {prog : Program} {w : World} {A : Around} {E : Value → Shared → Prop} {s : Shared}
theorem call_enumT {l : Addr} {items : Array Value} {Q : Value → Shared → Prop} (hL : s.heap.IsTuple l items)
    (h : ∀ h', IsEnum h' (s.heap.objs.size + 1) s.heap.objs.size 0 .none → h'.IsTupleIter s.heap.objs.size l 0 →
      (∀ b o, s.heap.get? b = some o → h'.get? b = some o) → Q (.ref (s.heap.objs.size + 1)) { s with heap := h' }) : wpAny (model prog w) A (call (.type "enumerate") [.ref l]) Q E s := by
  obtain ⟨⟨cc, dct, dt, sl⟩, e0, hc, n, hd⟩ := hL
  have hc' : cc = .type "tuple" := hc
  have hd' : dt = .seq items n := hd
  subst hc'
  subst hd'
  refine callType_new F.called_enumerate (by decide) (F.typeCall_enumerate_1 _) (F.newCall_enumerate_1 _) (fun ob => F.args_object_init_2 ob _) F.entry_enumerate_new (new_enumT l items n dct sl) ⟨e0, ?_⟩
  let o1 : Obj := { cls := .type "tuple_iterator", data := .fields #[.ref l, .int 0 0] }
  let o2 : Obj := { cls := .type "enumerate", data := .fields #[.none, .bool false, .ref s.heap.objs.size, rawInt 0, .none, .none] }
  have z1 : (s.heap.push o1).objs.size = s.heap.objs.size + 1 := Heap.size_push ..
  have he : IsEnum ((s.heap.push o1).push o2) (s.heap.objs.size + 1) s.heap.objs.size 0 .none := by
    have q := Heap.get?_push_size (s.heap.push o1) (o := o2) rfl
    rw [z1] at q
    exact q
  show _ ∧ _
  rw [show (s.heap.push { cls := .type "tuple_iterator", data := .fields #[.ref l, .int 0 0] }).objs.size = s.heap.objs.size + 1 from z1]
  exact ⟨⟨_, he, rfl⟩, h _ he ⟨_, Heap.get?_push_of_some _ (Heap.get?_push_size _ rfl), rfl, rfl⟩ fun b o x => Heap.get?_push_of_some _ (Heap.get?_push_of_some _ x)⟩
theorem tup_draws {it a : Addr} {items : Array Value} (hh : A.handled = none) (hne : it ≠ a) :
    Draws prog w A it [it, a] items.size (fun i x => items[i]? = some x) (fun i h => h.IsTupleIter it a i ∧ h.IsTuple a items) where
  live := fun i h st => let ⟨⟨o, e, _⟩, _⟩ := st; ⟨o, e⟩
  frame := fun i h h' st k => ⟨st.1.at fun o q => k it (by simp) o q, let ⟨o, e, r⟩ := st.2; ⟨o, k a (by simp) o e, r⟩⟩
  item := fun i s Q E hi st hQ => by
    refine RZ.nextOf_tuple_item (x := items[i]) st.1 st.2 (by simp [hi]) fun h' i' sb => hQ items[i] h' s.toks (by simp [hi]) ⟨i', ?_⟩ sb
    obtain ⟨o, e, r⟩ := st.2
    exact ⟨o, (sb.2 a (Ne.symm hne)).trans e, r⟩
  done := fun s Q E st hE => RZ.nextOf_tuple_end hh st.1 st.2 (by simp) fun h' e k1 k2 => hE h' e k1 k2
end
def IteT (K : PySem.W.Frag) (a : Addr) : L2.It :=
  ⟨fun i H => ∃ (xs : List V) (x : V), SqT K H a xs ∧ xs[i]? = some x, fun i H v H' => ∃ T x, v = .ref T ∧ H T = none ∧ H' = upd H T (.tup [.int (i : Nat), x]) ∧ ∀ xs, SqT K H a xs → xs[i]? = some x, fun i H => ∃ xs : List V, SqT K H a xs ∧ xs.length ≤ i⟩
theorem turn_enumT {P : Program} {w : World} {K : PySem.W.Frag} {elts : List Expr} {kk : Nat} {tpos : Pos} (a e it : Addr) :
    Turn P w K (.Tuple elts kk tpos) (IteT K a) [e, it] e (fun i h => (∃ old, IsEnum h e it ((i : Nat) : Int) old) ∧ h.IsTupleIter it a i ∧ e ≠ it ∧ it ≠ a ∧ e ≠ a) where
  mem := by simp
  obj := fun i h st b hb => by
    obtain ⟨⟨old, he⟩, ⟨o, ho, hc, hd⟩, _⟩ := st
    rcases (by simpa using hb : b = e ∨ b = it) with z | z
    · rw [z]; exact ⟨_, he, fun v q => nomatch q⟩
    · rw [z]; exact ⟨o, ho, fun v q => by rw [hd] at q; cases q⟩
  keep := fun i h h' st k => let ⟨⟨old, he⟩, hi, hne⟩ := st; ⟨⟨old, k e (by simp) _ he⟩, hi.at fun o q => k it (by simp) o q, hne⟩
  item := by
    intro X hP hw hK hc i pins s σ H E I hf st hg
    subst hP hw hK
    obtain ⟨⟨old, he⟩, hit, hne, ha, hea⟩ := st
    obtain ⟨xs, x, hq, hx⟩ := hg
    obtain ⟨its, rv, p, hz⟩ := I.tuple hq
    obtain ⟨u, hu, ru⟩ := rv.get hx
    have hel : e < s.heap.objs.size := Heap.lt_size he
    have hil : it < s.heap.objs.size := by obtain ⟨_, q, _⟩ := hit; exact Heap.lt_size q
    have hlen : i < its.toArray.size := by
      have := (List.getElem?_eq_some_iff.mp hu).1
      simpa using this
    refine wpAny_pyNext_enum_itemD (tup_draws (A := X.A.in1) (I.ok.hd hc) ha) he ⟨hit, p⟩ hlen hne (by simp [hne, hea]) fun y h' tk hy ho hst hT hsz hk => ?_
    have hyu : y = u := by
      have e1 : its.toArray[i]? = some u := by simpa using hu
      rw [hy] at e1
      exact Option.some.inj e1
    subst hyu
    refine ⟨_, rfl, wpAny_letOwnedTupleGo_enum (s := { s with heap := h', toks := tk + 1 }) ho fun h'' he' sb => ?_⟩
    have hT2 : h''.get? s.heap.objs.size = some { cls := .type "tuple", data := .seq #[.int i tk, y] } := (sb.2 _ (Nat.ne_of_gt hel)).trans hT
    have new : ObjOk X.prog X.w (upd H s.heap.objs.size (.tup [.int (i : Nat), x])) h'' s.heap.objs.size (.tup [.int (i : Nat), x]) :=
      ⟨by show 2 ≤ sizeLine; decide, [.int i tk, y], .cons ⟨_, rfl⟩ (.cons ru .nil), ⟨_, hT2, rfl, _, rfl⟩⟩
    have I1 : Inv X pins σ (upd H s.heap.objs.size (.tup [.int (i : Nat), x])) { s with heap := h'', toks := tk + 1 } :=
      I.turnedNew (ch := [e, it]) (fun b ob hb q => (sb.2 b (fun z => hb (by simp [z]))).trans (hk b ob (fun z => hb (by simp [z])) (fun z => hb (by simp [z])) q)) hf (Nat.le_refl _) new
    refine ⟨.ref s.heap.objs.size, _, I1, rfl, ⟨_, x, rfl, I.hok.fresh (Nat.le_refl _), rfl, fun ys hy => by rw [I.tuple_inj hy hq]; exact hx⟩, ⟨⟨y, ?_⟩, hst.1.at fun o q => (sb.2 it (Ne.symm hne)).trans q, hne, ha, hea⟩, fun b hb => ?_⟩
    · rw [show ((i + 1 : Nat) : Int) = (i : Int) + 1 by omega]
      exact he'
    · have hb' : b < s.heap.objs.size := by
        rcases (by simpa using hb : b = e ∨ b = it) with z | z
        · rw [z]; exact hel
        · rw [z]; exact hil
      rw [upd_ne (Nat.ne_of_lt hb')]
      exact (hf b hb).1
  done := by
    intro X hP hw hK hc i pins s σ H E I hf st hg
    subst hP hw hK
    obtain ⟨⟨old, he⟩, hit, hne, ha, hea⟩ := st
    obtain ⟨xs, hq, hx⟩ := hg
    obtain ⟨its, rv, p, hz⟩ := I.tuple hq
    obtain ⟨f0, f1, f2, f3, f4, f5⟩ := hf it (by simp)
    have hl := rv.length
    have hT : s.TypeIs (.ref e) "enumerate" := ⟨_, he, rfl⟩
    unfold pyNext
    refine wpAny_bind (wpAny_attempt (wpAny_callSpecial?_slot (name := Str.ofString "__next__") hT F.slot_enumerate_next (wpAny_call_entry F.slot_enumerate_next hT F.entry_enumerate_next ?_ (F.args_enumerate_next_1 _))))
    show wpAny _ _ (field (.ref e) 2 >>= _) _ _ _
    refine wpAny_bind (wpAny_field he rfl (x := .ref it) rfl (wpAny_bind (RZ.nextOf_tuple_end (I.ok.hd hc) hit p (by simp; omega) fun h' x eb hx' => ?_)))
    obtain ⟨o, ho, hco⟩ := hx'
    exact wpAny_bind (wpAny_isInstance (T := "StopIteration") (b := true) ⟨o, ho, hco⟩ isSubtype_stop (wpAny_pure ⟨rfl, I.turned (t' := s.toks) (fun b o hb q => eb b o hb q) f0 f1 f3 f4 f5⟩))
  self := fun A i s Q E st h => let ⟨⟨_, he⟩, _⟩ := st; wpAny_pyIter_enum he h
def iEnumA (K : PySem.W.Frag) (ta : TA) : TI := fun σ H R => ta σ H fun vs H1 => ∃ a xs, vs = [.ref a] ∧ ((SqL K H1 a xs ∧ R (Ite K a) H1) ∨ (SqT K H1 a xs ∧ R (IteT K a) H1))
theorem pi_enumA {X : Cx} {e : Expr} {ta : TA} {p pos tpos : Pos} {elts : List Expr} {kk : Nat} (hg : Gl X "enumerate") (hm : X.mg "enumerate" = none) (ha : PA X [e] ta) (hs : starEach [e] X.env = [(false, eval e X.env)] := by rfl) :
    PI X (.Tuple elts kk tpos) (.Call (.Name "enumerate" p) [e] [] pos) (iEnumA X.K ta) := by
  refine ⟨fun pins s σ H R I h => ?_⟩
  refine Call_ (ld_blt I hg hm boot_enumerate (PyProof.Rows.callWith_type1 (thn (ha.run pos pins s σ H _ I h) fun us s1 ⟨vs, H1, I1, r1, q1⟩ => ?_) hs rfl))
  obtain ⟨a, xs, ex, q⟩ := q1
  subst ex
  obtain ⟨v, rfl, r⟩ := vals1 r1
  cases r
  have far : ∀ {b : Addr}, b = s1.heap.objs.size + 1 ∨ b = s1.heap.objs.size → s1.heap.objs.size ≤ b := fun z => by
    rcases z with z | z
    · rw [z]; exact Nat.le_add_right _ _
    · rw [z]; exact Nat.le_refl _
  rcases q with ⟨hq, q⟩ | ⟨hq, q⟩
  · obtain ⟨its, rv, p', hz⟩ := I1.list hq
    refine call_enumerate_list p'.isList fun h' he hit hsz hk => wpAny_pyIter_enum he ?_
    have I2 : Inv X pins σ H1 { s1 with heap := h' } := I1.kept (t' := s1.toks) hk
    exact ⟨s1.heap.objs.size + 1, [s1.heap.objs.size + 1, s1.heap.objs.size], _, _, H1, rfl, I2, turn_enum a (s1.heap.objs.size + 1) s1.heap.objs.size, ⟨⟨.none, he⟩, hit, Nat.succ_ne_self _⟩,
      fun b hb => I1.fpOk (far (by simpa using hb)) (I1.hok.fresh (far (by simpa using hb))), q⟩
  · obtain ⟨its, rv, p', hz⟩ := I1.tuple hq
    refine call_enumT p' fun h' he hit hk => wpAny_pyIter_enum he ?_
    have I2 : Inv X pins σ H1 { s1 with heap := h' } := I1.kept (t' := s1.toks) hk
    have al : a < s1.heap.objs.size := by obtain ⟨o, e0, _⟩ := p'; exact Heap.lt_size e0
    exact ⟨s1.heap.objs.size + 1, [s1.heap.objs.size + 1, s1.heap.objs.size], _, _, H1, rfl, I2, turn_enumT a (s1.heap.objs.size + 1) s1.heap.objs.size, ⟨⟨.none, he⟩, hit, Nat.succ_ne_self _, Nat.ne_of_gt al, Nat.ne_of_gt (Nat.lt_succ_of_lt al)⟩,
      fun b hb => I1.fpOk (far (by simpa using hb)) (I1.hok.fresh (far (by simpa using hb))), q⟩
end Mi
namespace Mi
open PySem PySem.Spec PyProof.Rows L2
abbrev Sp0 := List V → Hp → VK → Prop
structure FOk (P : Program) (w : World) (K : PySem.W.Frag) (mg : Str → Option Value) (base : Heap) (k : Nat) (f : Addr) (fd : FuncData) (ps : List Str) (sp : Sp0) : Prop where
  len : ∀ vs H Q, sp vs H Q → vs.length = ps.length
  run : ∀ (A : Around) (outer : List Env) (s : Shared) (H : Hp) (args : Args) (Q : VK) (G : List V → Hp → Prop), Room k A → A.guards = some [] → Env0 P w K mg base A outer s H → StX.Bnd CX0 P w K mg base fd args ps A outer s H E0 G →
    (∃ vs H2, G vs H2) → (∀ vs H2, G vs H2 → sp vs H2 Q) → codeAny (model P w) A (.call (.ref f) args) (CR CX0 outer P w H s Q E0) s
section
variable {P : Program} {w : World} {K : PySem.W.Frag} {mg : Str → Option Value} {base : Heap} {k : Nat} {f : Addr} {name qual : Str} {params : Arguments} {body : List Stmt} {scope : Scope} {dV kV doc pm cdv ct oc : Value} {an od : Option Addr}
  {osl : Array (Option Value)} {N ps : List Str} {sp : Sp0}
theorem bnd_plain {fd : FuncData} {args : Args} {A : Around} {outer : List Env} {s : Shared} {H : Hp} {us : List Value} {vs : List V} (b : BindsTo s fd args (ps.zip us)) (e0 : Env0 P w K mg base A outer s H) (r : Vals vs us) (l : vs.length = ps.length) :
    StX.Bnd CX0 P w K mg base fd args ps A outer s H E0 (fun xs H2 => xs = vs ∧ H2 = H) := by
  intro A' Ex Q h
  exact b _ _ _ _ (h s H vs us e0 .refl rfl (fun e s' z => z) r l ⟨rfl, rfl⟩)
theorem FOk.run0 {fd : FuncData} (F : FOk P w K mg base k f fd ps sp) (A : Around) (outer : List Env) (s : Shared) (H : Hp) (args : Args) (us : List Value) (vs : List V) (Q : VK) (room : Room k A) (grd : A.guards = some []) (e0 : Env0 P w K mg base A outer s H) (b : BindsTo s fd args (ps.zip us))
    (r : Vals vs us) (h : sp vs H Q) : codeAny (model P w) A (.call (.ref f) args) (CR CX0 outer P w H s Q E0) s :=
  F.run A outer s H args Q _ room grd e0 (bnd_plain b e0 r (F.len vs H Q h)) ⟨vs, H, rfl, rfl⟩ fun xs H2 ⟨e1, e2⟩ => by subst e1 e2; exact h
def StarOk (fd : FuncData) (ps : List Str) (n : Nat) : Prop := ∃ p0 pv, ps = p0 ++ [pv] ∧ p0.length = n ∧ ∀ us rest : List Value, us.length = n → bindArgs fd ⟨us ++ rest, []⟩ = (newTuple rest >>= fun t => pure (p0.zip us ++ [(pv, t)]))
theorem bnd_star {fd : FuncData} {A : Around} {outer : List Env} {s : Shared} {H : Hp} {n : Nat} {u1 u2 : List Value} {ws rest : List V} (st : StarOk fd ps n) (e0 : Env0 P w K mg base A outer s H) (r1 : Vals ws u1) (r2 : Vals rest u2) (hl : ws.length = n) (hz : rest.length ≤ sizeLine) :
    StX.Bnd CX0 P w K mg base fd ⟨u1 ++ u2, []⟩ ps A outer s H E0 (fun xs H2 => ∃ p, H p = none ∧ xs = ws ++ [V.ref p] ∧ H2 = upd H p (.tup rest)) := by
  obtain ⟨p0, pv, rfl, hp0, hb⟩ := st
  intro A' Ex Q' h
  have hn : H s.heap.objs.size = none := e0.hok.fresh (Nat.le_refl _)
  have hl1 : u1.length = n := by rw [← r1.length]; exact hl
  have hl2 : u2.length ≤ sizeLine := by rw [← r2.length]; exact hz
  rw [hb u1 u2 hl1]
  refine wpAny_bind (wpAny_newTuple (wpAny_pure ?_) hl2)
  have new : ObjOk P w (upd H s.heap.objs.size (.tup rest)) (s.heap.push ({ cls := .type "tuple", data := .seq u2.toArray } : Obj)) s.heap.objs.size (.tup rest) := ⟨hz, u2, r2, ⟨_, Heap.get?_push_size _ rfl, rfl, _, rfl⟩⟩
  have un := StX.un_laid (fs := frs outer) (s := s) (o := ({ cls := .type "tuple", data := .seq u2.toArray } : Obj)) (u := .tup rest) hn
  have z := h _ _ (ws ++ [V.ref s.heap.objs.size]) (u1 ++ [Value.ref s.heap.objs.size]) (StX.env0_laid e0 new) un rfl (fun e s' z => z) (r1.append (.cons rfl .nil))
    (by rw [List.length_append, List.length_append, hl, hp0] <;> rfl) ⟨_, hn, rfl, rfl⟩
  rw [List.zip_append (hp0.trans hl1.symm)] at z
  exact z
theorem fok_of (hf : K.lookup f = some ⟨oc, od, .func (PySem.W.fnOf name qual params body scope dV kV doc pm an cdv ct), osl⟩) (hc : PySem.W.codeIn K cdv qual = true) (S : FnScope N ps scope)
    (hl : ∀ vs H Q, sp vs H Q → vs.length = ps.length)
    (hb : ∀ (A : Around) (outer : List Env) (s : Shared) (H : Hp) (vs : List V) (Q : VK), Room k (A.deeper (envOfC qual scope s.heap.objs.size f cdv)) → (A.deeper (envOfC qual scope s.heap.objs.size f cdv)).guards = some [] → sp vs H Q →
      ∃ t, PSs (cxOf CX0 P w K mg base N qual scope f cdv A outer s H E0).nox body t ∧ t { nx := fun _ H' => Q .non H', rt := Q } (start N vs) H) :
    FOk P w K mg base (k + 1) f (PySem.W.fnOf name qual params body scope dV kV doc pm an cdv ct) ps sp := by
  refine ⟨hl, fun A outer s H args Q G room grd e0 bnd _ want => ?_⟩
  refine StX.run_bnd hf hc S room e0 bnd fun s2 H2 vs g hr => ?_
  obtain ⟨t, ht, hq⟩ := hb A outer s2 H2 vs Q hr grd (want vs H2 g)
  exact ⟨t, ht.nox, hq⟩
end
section
variable {X : Cx} {k : Nat} {f : Addr} {fd : FuncData} {ps ks : List Str} {sp : Sp0}
theorem run_fok {pins : List (Addr × Obj)} {σ : L2.St} {H : Hp} {s : Shared} {Q : VK} {us ws xs : List Value} {vs : List V} (F : FOk X.prog X.w X.K X.mg X.base k f fd ps sp) (hr : Room k X.A) (hg : X.A.guards = some [])
    (hb : BindsTo s fd ⟨us, ks.zip ws⟩ (ps.zip xs)) (I : Inv X pins σ H s) (r : Vals vs xs) (h : sp vs H Q) : wpAny (model X.prog X.w) X.A (call (.ref f) us (ks.zip ws)) (EP X pins σ Q) X.xe s := by
  apply wpAny_call
  apply codeAny_mono (F.run0 X.A X.stack s H ⟨us, ks.zip ws⟩ xs vs Q hr hg I.env0 hb r h)
  intro res s' q
  match res, q with
  | .error e, q => exact False.elim q
  | .ok (.ret u), q => exact I.after q
  | .ok .next, q => exact False.elim q
  | .ok .brk, q => exact False.elim q
  | .ok .cont, q => exact False.elim q
end
def noStar : Expr → Bool
  | .Starred _ _ => false
  | _ => true
theorem star_cons {e : Expr} {es : List Expr} {env : Env} (h : noStar e = true) : starEach (e :: es) env = (false, eval e env) :: starEach es env := by
  cases e <;> first | rfl | cases h
theorem star_plain {pos : Pos} {env : Env} : ∀ {es : List Expr}, es.all noStar = true → (backTo pos (starEach es env)).any (·.1) = false
  | [], _ => rfl
  | e :: es, h => by
    rw [List.all_cons, Bool.and_eq_true] at h
    rw [star_cons h.1]
    exact star_plain h.2
def kwNames (kws : List Keyword) : List Str := kws.filterMap fun k => k.arg
theorem kw_all {pos : Pos} {env : Env} : ∀ {kws : List Keyword}, kws.all (fun k => k.arg.isSome) = true → (backToKw pos (keywordEach kws env)).all (·.1.isSome) = true ∧ (backToKw pos (keywordEach kws env)).any (·.1.isNone) = false ∧
    (backToKw pos (keywordEach kws env)).filterMap (·.1) = kwNames kws
  | [], _ => ⟨rfl, rfl, rfl⟩
  | ⟨none, e, p⟩ :: kws, h => by cases h
  | ⟨some n, e, p⟩ :: kws, h => by
    obtain ⟨h1, h2, h3⟩ := kw_all (pos := pos) (env := env) (kws := kws) (by simpa using h)
    exact ⟨h1, h2, congrArg (n :: ·) h3⟩
section
variable {X : Cx} {k : Nat} {f : Addr} {fd : FuncData} {ps : List Str} {sp : Sp0} {x : Str} {p pos : Pos} {es : List Expr} {kws : List Keyword} {ta tk : TA}
def PatOk (K : PySem.W.Frag) (fd : FuncData) (ps : List Str) (n : Nat) (ks : List Str) (pm : List Nat) : Prop :=
  ∀ (s : Shared) (us ws : List Value), K.In s.heap → us.length = n → ws.length = ks.length → ∃ xs, perm (us ++ ws) pm = some xs ∧ BindsTo s fd ⟨us, ks.zip ws⟩ (ps.zip xs)
theorem perm_vals : ∀ {pm : List Nat} {vs : List V} {us xs : List Value} {ws : List V}, Vals vs us → perm us pm = some xs → perm vs pm = some ws → Vals ws xs
  | [], _, _, _, _, _, e1, e2 => by
    cases e1
    cases e2
    exact .nil
  | i :: pm, vs, us, xs, ws, r, e1, e2 => by
    unfold perm at e1 e2
    split at e1
    · rename_i a b a1 b1
      split at e2
      · rename_i a' b' a2 b2
        cases e1
        cases e2
        obtain ⟨u, u1, u2⟩ := r.get a2
        rw [a1] at u1
        cases u1
        exact .cons u2 (perm_vals r b1 b2)
      · cases e2
    · cases e1
def tCallU (sp : Sp0) (n m : Nat) (pm : List Nat) (ta tk : TA) : TE := fun σ H Q => ta σ H fun vs H1 => tk σ H1 fun zs H2 => vs.length = n ∧ zs.length = m ∧ ∃ ws, perm (vs ++ zs) pm = some ws ∧ sp ws H2 Q
theorem pe_callU {n : Nat} {pm : List Nat} (F : FOk X.prog X.w X.K X.mg X.base k f fd ps sp) (hr : Room k X.A) (hgd : X.A.guards = some []) (hg : Gl X x) (hm : X.mg x = some (.ref f)) (hk : PySem.W.keepIn X.K (.ref f) = true)
    (pat : PatOk X.K fd ps n (kwNames kws) pm) (hne : es ≠ []) (h1 : es.all noStar = true) (h2 : kws.all (fun k => k.arg.isSome) = true) (ha : PA X es ta) (hw : PK X kws tk) (hdb : (x == ("__debug__" : Str)) = false) :
    PE X (.Call (.Name x p) es kws pos) (tCallU sp n (kwNames kws).length pm ta tk) := by
  constructor
  intro pins s σ H Q I h
  apply wpAny_Call_Name_kw
  apply ld_glob I hg hm _ hdb
  obtain ⟨k1, k2, k3⟩ := kw_all (pos := pos) (env := X.env) h2
  have fin : ∀ (s2 : Shared) (H2 : Hp) (us ws : List Value) (vs zs : List V), Inv X pins σ H2 s2 → Vals vs us → Vals zs ws → (vs.length = n ∧ zs.length = (kwNames kws).length ∧ ∃ ws, perm (vs ++ zs) pm = some ws ∧ sp ws H2 Q) →
      wpAny (model X.prog X.w) X.A (call (.ref f) us ((kwNames kws).zip ws)) (EP X pins σ Q) X.xe s2 := by
    intro s2 H2 us ws vs zs I2 r1 r2 q
    obtain ⟨l1, l2, ys, e, q⟩ := q
    obtain ⟨xs, e2, b⟩ := pat s2 us ws I2.kIn (r1.length.symm.trans l1) (r2.length.symm.trans l2)
    exact run_fok F hr hgd b I2 (perm_vals (r1.append r2) e2 e) q
  have st : (backTo pos (starEach es X.env)).any (·.1) = false := star_plain h1
  cases es with
  | nil => exact absurd rfl hne
  | cons e es =>
    rw [List.all_cons, Bool.and_eq_true] at h1
    have sc := star_cons (es := es) (env := X.env) h1.1
    refine PySem.W.callWith_KW (h₀ := X.base) I.ok.mod.kin hk k1 ?_ (by rw [st, k2]; rfl) sc
    apply thn (ha.run pos pins s σ H _ I h)
    intro us s1 ⟨vs, H1, I1, r1, q1⟩
    apply thn (hw.run pos pins s1 σ H1 _ I1 q1)
    intro ws s2 ⟨zs, H2, I2, r2, q2⟩
    rw [k3]
    exact ⟨I2.kIn, fin s2 H2 us ws vs zs I2 r1 r2 q2⟩
theorem pe_callU0 {n : Nat} {pm : List Nat} (F : FOk X.prog X.w X.K X.mg X.base k f fd ps sp) (hr : Room k X.A) (hgd : X.A.guards = some []) (hg : Gl X x) (hm : X.mg x = some (.ref f)) (hk : PySem.W.keepIn X.K (.ref f) = true)
    (pat : PatOk X.K fd ps n (kwNames kws) pm) (h2 : kws.all (fun k => k.arg.isSome) = true) (hw : PK X kws tk) (hdb : (x == ("__debug__" : Str)) = false) :
    PE X (.Call (.Name x p) [] kws pos) (tCallU sp n (kwNames kws).length pm tNil tk) := by
  constructor
  intro pins s σ H Q I h
  apply wpAny_Call_Name_kw
  apply ld_glob I hg hm _ hdb
  obtain ⟨k1, k2, k3⟩ := kw_all (pos := pos) (env := X.env) h2
  refine PySem.W.callWith_KW0 (h₀ := X.base) I.ok.mod.kin hk k1 ?_ (by rw [k2]; rfl)
  apply thn (hw.run pos pins s σ H _ I h)
  intro ws s2 ⟨zs, H2, I2, r2, l1, l2, ys, e, q⟩
  rw [k3]
  obtain ⟨xs, e2, b⟩ := pat s2 [] ws I2.kIn l1 (r2.length.symm.trans l2)
  exact ⟨I2.kIn, run_fok (us := []) F hr hgd b I2 (perm_vals r2 e2 e) q⟩
def notName : Expr → Bool
  | .Name _ _ => false
  | _ => true
theorem star_all {pos : Pos} {env : Env} : ∀ {es : List Expr}, es.all noStar = true → (backTo pos (starEach es env)).all (fun x => !x.1) = true
  | [], _ => rfl
  | e :: es, h => by
    rw [List.all_cons, Bool.and_eq_true] at h
    rw [star_cons h.1]
    exact star_all h.2
theorem meth_any {M : Model} {A : Around} {E : Value → Shared → Prop} {s : Shared} {env : Env} {o : Expr} {m : Str} {apos pos : Pos} {args : List Expr} {kws : List Keyword} {Q : Value → Shared → Prop} (hb : attributeBase o m env (eval o env) = eval o env)
    (h1 : args.all noStar = true) (h2 : kws.all (fun k => k.arg.isSome) = true) (hn : args.length + kws.length + 1 < 30) (hl : (apos.endLine == pos.line || notName o) = true)
    (h : wpAny M A (eval o env) (fun ov s1 => ∀ pl, wpAny M A (getMethod ov m pl) (fun fx s2 => ∀ p, wpAny M A (callWith p fx.1 fx.2 (backTo pos (starEach args env)) (backToKw pos (keywordEach kws env))) Q E s2) E s1) E s) :
    wpAny M A (eval (.Call (.Attribute o m apos) args kws pos) env) Q E s := by
  have hform : methodCallForm (args.length + kws.length) (backTo pos (starEach args env)) (backToKw pos (keywordEach kws env)) = true := by
    unfold methodCallForm
    rw [star_all h1, (kw_all h2).1, Bool.and_self, Bool.true_and]
    exact decide_eq_true (by split <;> omega)
  have hpos : ∃ p, methodCallPos true o env apos pos = pure p := by
    unfold methodCallPos
    rw [Bool.or_eq_true] at hl
    by_cases e : (apos.endLine == pos.line) = true
    · exact ⟨pos, by rw [e]; simp⟩
    · have e2 : notName o = true := hl.resolve_left e
      refine ⟨{ pos with line := apos.endLine }, ?_⟩
      have e3 : (apos.endLine == pos.line) = false := by simpa using e
      rw [e3]
      cases o <;> first | rfl | (cases e2; done)
  obtain ⟨p, hp⟩ := hpos
  rw [arm_eval_Call, hb]
  refine wpAny_bind (wpAny_mono h (fun ov s1 h1 => wpAny_bind (wpAny_standAt ?_)) fun _ _ e => e)
  unfold methodCall
  rw [hform]
  refine wpAny_bind (wpAny_holding (wpAny_mono (h1 _) (fun fx s2 h2 => ?_) fun _ _ e => e))
  exact wpAny_bind (wpAny_of_eq hp (h2 p))
variable {C : Addr} {m : Str} {o : Expr} {apos : Pos} {to : TE}
theorem call_args {first : List Value} {g : Value} {Q : VK} {pins : List (Addr × Obj)} {σ : L2.St} {H : Hp} {s : Shared} {p0 : Pos} (hk : PySem.W.keepIn X.K g = true) (h1 : es.all noStar = true) (h2 : kws.all (fun k => k.arg.isSome) = true) (hnil : es = [] → ta = tNil) (ha : PA X es ta) (hw : PK X kws tk)
    (I : Inv X pins σ H s) {R : List V → List V → Hp → Prop} (q : ta σ H fun vs H1 => tk σ H1 fun zs H2 => R vs zs H2)
    (run : ∀ (s2 : Shared) (H2 : Hp) (us ws : List Value) (vs zs : List V), Inv X pins σ H2 s2 → Vals vs us → Vals zs ws → R vs zs H2 → wpAny (model X.prog X.w) X.A (call g (first ++ us) ((kwNames kws).zip ws)) (EP X pins σ Q) X.xe s2) :
    wpAny (model X.prog X.w) X.A (callWith p0 g first (backTo pos (starEach es X.env)) (backToKw pos (keywordEach kws X.env))) (EP X pins σ Q) X.xe s := by
  obtain ⟨k1, k2, k3⟩ := kw_all (pos := pos) (env := X.env) h2
  have st : (backTo pos (starEach es X.env)).any (·.1) = false := star_plain h1
  refine PySem.W.callWith_of (P := X.K.In) (by rw [st, k2]; rfl) (fun h z => PySem.W.keeps_K hk h z) ?_
  cases es with
  | nil =>
    refine evalArgs_kw2_nil k1 ?_
    rw [hnil rfl] at q
    refine thn (hw.run pos pins s σ H _ I q) fun ws s2 ⟨zs, H2, I2, r2, q2⟩ => ?_
    rw [k3]
    exact ⟨I2.kIn, run s2 H2 [] ws [] zs I2 .nil r2 q2⟩
  | cons e es =>
    rw [List.all_cons, Bool.and_eq_true] at h1
    refine evalArgs_kw2 k1 ?_ (star_cons (es := es) (env := X.env) h1.1)
    refine thn (ha.run pos pins s σ H _ I q) fun us s1 ⟨vs, H1, I1, r1, q1⟩ => ?_
    refine thn (hw.run pos pins s1 σ H1 _ I1 q1) fun ws s2 ⟨zs, H2, I2, r2, q2⟩ => ?_
    rw [k3]
    exact ⟨I2.kIn, run s2 H2 us ws vs zs I2 r1 r2 q2⟩
def tMethU (C : Addr) (m : Str) (sp : Sp0) (n nk : Nat) (pm : List Nat) (to : TE) (ta tk : TA) : TE := fun σ H Q => to σ H fun x H1 => ∃ a dx fs, x = .ref a ∧ H1 a = some (.ins C dx fs) ∧ fs.lookup m = none ∧
  ta σ H1 fun vs H2 => tk σ H2 fun zs H3 => vs.length + 1 = n ∧ zs.length = nk ∧ ∃ ws, perm (x :: (vs ++ zs)) pm = some ws ∧ sp ws H3 Q
theorem pe_methU {n : Nat} {pm : List Nat} (F : FOk X.prog X.w X.K X.mg X.base k f fd ps sp) (hr : Room k X.A) (hgd : X.A.guards = some []) (c : Cls X.K C) (hm : Meth X.K C m f) (pat : PatOk X.K fd ps n (kwNames kws) pm)
    (h1 : es.all noStar = true) (h2 : kws.all (fun k => k.arg.isSome) = true) (hn : es.length + kws.length + 1 < 30) (hl : (apos.endLine == pos.line || notName o) = true) (hb : attributeBase o m X.env (eval o X.env) = eval o X.env)
    (hnil : es = [] → ta = tNil) (he : PE X o to) (ha : PA X es ta) (hw : PK X kws tk) : PE X (.Call (.Attribute o m apos) es kws pos) (tMethU C m sp n (kwNames kws).length pm to ta tk) := by
  refine ⟨fun pins s σ H Q I h => meth_any hb h1 h2 hn hl (thn (he.run pins s σ H _ I h) fun u s1 ⟨x, H1, I1, rx, a, dx, fs, ex, ea, l, q⟩ pl => ?_)⟩
  subst ex
  obtain rfl : u = Value.ref a := rx
  refine getmeth_ok I1 ea c hm l fun p => ?_
  refine call_args (first := [.ref a]) hm.kp h1 h2 hnil ha hw I1 q fun s2 H2 us ws vs zs I2 r1 r2 ⟨l1, l2, ys, e, q2⟩ => ?_
  obtain ⟨xs, e2, b⟩ := pat s2 (.ref a :: us) ws I2.kIn (by rw [List.length_cons, ← r1.length]; exact l1) (r2.length.symm.trans l2)
  have rv : Vals (V.ref a :: (vs ++ zs)) (Value.ref a :: (us ++ ws)) := .cons rfl (r1.append r2)
  exact run_fok F hr hgd b I2 (perm_vals rv e2 e) q2
def PadOk (K : PySem.W.Frag) (fd : FuncData) (ps : List Str) (n : Nat) (ks : List Str) (its : List Value) (pm : List Nat) : Prop :=
  ∀ (s : Shared) (us ws : List Value), K.In s.heap → us.length = n → ws.length = ks.length → ∃ xs, perm ((us ++ ws) ++ its) pm = some xs ∧ BindsTo s fd ⟨us, ks.zip ws⟩ (ps.zip xs)
theorem binds_dfl {K : PySem.W.Frag} {s : Shared} {fd : FuncData} {args : Args} {binds : List (Str × Value)} {T : Addr} {o : Obj} {its : Array Value} {n : Nat} (X : K.In s.heap) (lT : K.lookup T = some o) (oT : o.data = .seq its n)
    (h : ∃ k, bindArgs fd args = seqItems? (.ref T) >>= k ∧ k (some its) = pure binds) : BindsTo s fd args binds := by
  obtain ⟨k, e1, e2⟩ := h
  intro M A E Q hq
  rw [e1]
  exact wpAny_bind (wpAny_seqItems (X _ _ lT) oT (e2 ▸ wpAny_pure hq))
def tMethD (C : Addr) (m : Str) (sp : Sp0) (n nk : Nat) (dvs : List V) (pm : List Nat) (to : TE) (ta tk : TA) : TE := fun σ H Q => to σ H fun x H1 => ∃ a dx fs, x = .ref a ∧ H1 a = some (.ins C dx fs) ∧ fs.lookup m = none ∧
  ta σ H1 fun vs H2 => tk σ H2 fun zs H3 => vs.length + 1 = n ∧ zs.length = nk ∧ ∃ ws, perm (x :: ((vs ++ zs) ++ dvs)) pm = some ws ∧ sp ws H3 Q
theorem pe_methD {n : Nat} {pm : List Nat} {its : List Value} {dvs : List V} (F : FOk X.prog X.w X.K X.mg X.base k f fd ps sp) (hr : Room k X.A) (hgd : X.A.guards = some []) (c : Cls X.K C) (hm : Meth X.K C m f) (pat : PadOk X.K fd ps n (kwNames kws) its pm) (rd : Vals dvs its)
    (h1 : es.all noStar = true) (h2 : kws.all (fun k => k.arg.isSome) = true) (hn : es.length + kws.length + 1 < 30) (hl : (apos.endLine == pos.line || notName o) = true) (hb : attributeBase o m X.env (eval o X.env) = eval o X.env)
    (hnil : es = [] → ta = tNil) (he : PE X o to) (ha : PA X es ta) (hw : PK X kws tk) : PE X (.Call (.Attribute o m apos) es kws pos) (tMethD C m sp n (kwNames kws).length dvs pm to ta tk) := by
  refine ⟨fun pins s σ H Q I h => meth_any hb h1 h2 hn hl (thn (he.run pins s σ H _ I h) fun u s1 ⟨x, H1, I1, rx, a, dx, fs, ex, ea, l, q⟩ pl => ?_)⟩
  subst ex
  obtain rfl : u = Value.ref a := rx
  refine getmeth_ok I1 ea c hm l fun p => ?_
  refine call_args (first := [.ref a]) hm.kp h1 h2 hnil ha hw I1 q fun s2 H2 us ws vs zs I2 r1 r2 ⟨l1, l2, ys, e, q2⟩ => ?_
  obtain ⟨xs, e2, b⟩ := pat s2 (.ref a :: us) ws I2.kIn (by rw [List.length_cons, ← r1.length]; exact l1) (r2.length.symm.trans l2)
  have rv : Vals (V.ref a :: ((vs ++ zs) ++ dvs)) (Value.ref a :: ((us ++ ws) ++ its)) := .cons rfl ((r1.append r2).append rd)
  exact run_fok F hr hgd b I2 (perm_vals rv e2 e) q2
theorem run_star {pins : List (Addr × Obj)} {σ : L2.St} {H : Hp} {s : Shared} {Q : VK} {n : Nat} {u1 u2 : List Value} {ws rest : List V} (F : FOk X.prog X.w X.K X.mg X.base k f fd ps sp) (hr : Room k X.A) (hg : X.A.guards = some [])
    (st : StarOk fd ps n) (I : Inv X pins σ H s) (r1 : Vals ws u1) (r2 : Vals rest u2) (hl : ws.length = n) (hz : rest.length ≤ sizeLine) (h : ∀ p, H p = none → sp (ws ++ [V.ref p]) (upd H p (.tup rest)) Q) :
    wpAny (model X.prog X.w) X.A (call (.ref f) (u1 ++ u2) []) (EP X pins σ Q) X.xe s := by
  apply wpAny_call
  apply codeAny_mono (F.run X.A X.stack s H ⟨u1 ++ u2, []⟩ Q _ hr hg I.env0 (bnd_star st I.env0 r1 r2 hl hz) ⟨_, _, _, I.hok.fresh (Nat.le_refl _), rfl, rfl⟩ fun xs H2 ⟨p, hp, e1, e2⟩ => by subst e1 e2; exact h p hp)
  intro res s' q
  match res, q with
  | .error e, q => exact False.elim q
  | .ok (.ret u), q => exact I.after q
  | .ok .next, q => exact False.elim q
  | .ok .brk, q => exact False.elim q
  | .ok .cont, q => exact False.elim q
def tMethSt (C : Addr) (m : Str) (sp : Sp0) (to : TE) (ta : TA) : TE := fun σ H Q => to σ H fun x H1 => ∃ a dx fs, x = .ref a ∧ H1 a = some (.ins C dx fs) ∧ fs.lookup m = none ∧
  ta σ H1 fun vs H2 => vs.length ≤ sizeLine ∧ ∀ p, H2 p = none → sp [x, .ref p] (upd H2 p (.tup vs)) Q
theorem pe_methSt (F : FOk X.prog X.w X.K X.mg X.base k f fd ps sp) (hr : Room k X.A) (hgd : X.A.guards = some []) (c : Cls X.K C) (hm : Meth X.K C m f) (st : StarOk fd ps 1)
    (h1 : es.all noStar = true) (hn : es.length + 1 < 30) (hl : (apos.endLine == pos.line || notName o) = true) (hb : attributeBase o m X.env (eval o X.env) = eval o X.env)
    (hnil : es = [] → ta = tNil) (he : PE X o to) (ha : PA X es ta) : PE X (.Call (.Attribute o m apos) es [] pos) (tMethSt C m sp to ta) := by
  refine ⟨fun pins s σ H Q I h => meth_any (kws := []) hb h1 rfl hn hl (thn (he.run pins s σ H _ I h) fun u s1 ⟨x, H1, I1, rx, a, dx, fs, ex, ea, l, q⟩ pl => ?_)⟩
  subst ex
  obtain rfl : u = Value.ref a := rx
  refine getmeth_ok I1 ea c hm l fun p => ?_
  refine call_args (kws := []) (tk := tNil) (first := [.ref a]) (R := fun vs _ H2 => vs.length ≤ sizeLine ∧ ∀ p, H2 p = none → sp [.ref a, .ref p] (upd H2 p (.tup vs)) Q) hm.kp h1 rfl hnil ha pk_nil I1 q fun s2 H2 us ws vs zs I2 r1 r2 ⟨l2, q2⟩ => ?_
  exact run_star F hr hgd st I2 (show Vals [V.ref a] [Value.ref a] from .cons rfl .nil) r1 rfl l2 q2
def tCallSt (sp : Sp0) (ta : TA) : TE := fun σ H Q => ta σ H fun vs H2 => vs.length ≤ sizeLine ∧ ∀ p, H2 p = none → sp [.ref p] (upd H2 p (.tup vs)) Q
theorem pe_callSt (F : FOk X.prog X.w X.K X.mg X.base k f fd ps sp) (hr : Room k X.A) (hgd : X.A.guards = some []) (hg : Gl X x) (hm : X.mg x = some (.ref f)) (hk : PySem.W.keepIn X.K (.ref f) = true) (st : StarOk fd ps 0)
    (h1 : es.all noStar = true) (hnil : es = [] → ta = tNil) (ha : PA X es ta) (hdb : (x == ("__debug__" : Str)) = false) : PE X (.Call (.Name x p) es [] pos) (tCallSt sp ta) := by
  refine ⟨fun pins s σ H Q I h => wpAny_Call_Name_kw (ld_glob I hg hm ?_ hdb)⟩
  refine call_args (kws := []) (tk := tNil) (first := []) (R := fun vs _ H2 => vs.length ≤ sizeLine ∧ ∀ p, H2 p = none → sp [.ref p] (upd H2 p (.tup vs)) Q) hk h1 rfl hnil ha pk_nil I h fun s2 H2 us ws vs zs I2 r1 r2 ⟨l2, q2⟩ => ?_
  exact run_star (u1 := []) (ws := []) F hr hgd st I2 .nil r1 rfl l2 q2
def tMakeU (C : Addr) (sp : Sp0) (n nk : Nat) (pm : List Nat) (ta tk : TA) : TE := fun σ H Q => ta σ H fun vs H1 => tk σ H1 fun zs H2 => vs.length + 1 = n ∧ zs.length = nk ∧
  ∀ x dx, H2 x = none → H2 dx = none → dx ≠ x → ∃ ws, perm (.ref x :: (vs ++ zs)) pm = some ws ∧ sp ws (upd (upd H2 dx (.own x)) x (.ins C dx [])) fun v H3 => v = .non ∧ Q (.ref x) H3
theorem run_makeU {n : Nat} {pm : List Nat} {pins : List (Addr × Obj)} {σ : L2.St} {H : Hp} {s : Shared} {Q : VK} {us ws : List Value} {vs zs : List V} (M : Mk X.K C f) (F : FOk X.prog X.w X.K X.mg X.base k f fd ps sp) (hr : Room (k + 1) X.A) (hgd : X.A.guards = some [])
    (pat : PatOk X.K fd ps n ks pm) (I : Inv X pins σ H s) (r1 : Vals vs us) (r2 : Vals zs ws) (l1 : vs.length + 1 = n) (l2 : zs.length = ks.length)
    (q : ∀ x dx, H x = none → H dx = none → dx ≠ x → ∃ ws, perm (.ref x :: (vs ++ zs)) pm = some ws ∧ sp ws (upd (upd H dx (.own x)) x (.ins C dx [])) fun v H3 => v = .non ∧ Q (.ref x) H3) :
    wpAny (model X.prog X.w) X.A (call (.ref C) us (ks.zip ws)) (EP X pins σ Q) X.xe s := by
  obtain ⟨ys, e, q2⟩ := q (s.heap.objs.size + 1) s.heap.objs.size (I.hok.fresh (Nat.le_succ _)) (I.hok.fresh (Nat.le_refl _)) (Nat.ne_of_lt (Nat.lt_succ_self _))
  have I2 := Inv.made (C := C) I
  obtain ⟨xs, e2, b⟩ := pat _ (.ref (s.heap.objs.size + 1) :: us) ws I2.kIn (by rw [List.length_cons, ← r1.length]; exact l1) (r2.length.symm.trans l2)
  have r0 : Vals (V.ref (s.heap.objs.size + 1) :: (vs ++ zs)) (Value.ref (s.heap.objs.size + 1) :: (us ++ ws)) := .cons rfl (r1.append r2)
  have rv : Vals ys xs := perm_vals r0 e2 e
  refine wpAny_call (make_map (f := f) I.kIn M.makes M.init (beq_iff_eq.mp M.fn) (codeAny_mono (F.run0 _ X.stack _ _ ⟨Value.ref (s.heap.objs.size + 1) :: us, ks.zip ws⟩ xs _ _ (hr.make C us (ks.zip ws)) hgd (I2.env0.make C us (ks.zip ws)) b rv q2) fun res s' hq => ?_))
  match res, hq with
  | .error e, hq => exact False.elim hq
  | .ok (.ret u), hq =>
    obtain ⟨v, H', I3, rv', ev, q3⟩ := I2.after hq
    subst ev
    exact ⟨rv', ⟨V.ref (s.heap.objs.size + 1), H', I3, rfl, q3⟩⟩
  | .ok .next, hq => exact False.elim hq
  | .ok .brk, hq => exact False.elim hq
  | .ok .cont, hq => exact False.elim hq
theorem pe_makeU {n : Nat} {pm : List Nat} (M : Mk X.K C f) (F : FOk X.prog X.w X.K X.mg X.base k f fd ps sp) (hr : Room (k + 1) X.A) (hgd : X.A.guards = some []) (hg : Gl X x) (hm : X.mg x = some (.ref C)) (pat : PatOk X.K fd ps n (kwNames kws) pm)
    (h1 : es.all noStar = true) (h2 : kws.all (fun k => k.arg.isSome) = true) (hnil : es = [] → ta = tNil) (ha : PA X es ta) (hw : PK X kws tk) (hdb : (x == ("__debug__" : Str)) = false) :
    PE X (.Call (.Name x p) es kws pos) (tMakeU C sp n (kwNames kws).length pm ta tk) := by
  refine ⟨fun pins s σ H Q I h => wpAny_Call_Name_kw (ld_glob I hg hm ?_ hdb)⟩
  refine call_args (first := []) M.kp h1 h2 hnil ha hw I h fun s2 H2 us ws vs zs I2 r1 r2 ⟨l1, l2, q2⟩ => ?_
  exact run_makeU M F hr hgd pat I2 r1 r2 l1 l2 q2
def tMakeD (C : Addr) (sp : Sp0) (n nk : Nat) (dvs : List V) (pm : List Nat) (ta tk : TA) : TE := fun σ H Q => ta σ H fun vs H1 => tk σ H1 fun zs H2 => vs.length + 1 = n ∧ zs.length = nk ∧
  ∀ x dx, H2 x = none → H2 dx = none → dx ≠ x → ∃ ws, perm (.ref x :: ((vs ++ zs) ++ dvs)) pm = some ws ∧ sp ws (upd (upd H2 dx (.own x)) x (.ins C dx [])) fun v H3 => v = .non ∧ Q (.ref x) H3
theorem run_makeD {n : Nat} {pm : List Nat} {pins : List (Addr × Obj)} {σ : L2.St} {H : Hp} {s : Shared} {Q : VK} {us ws its : List Value} {vs zs dvs : List V} (M : Mk X.K C f) (F : FOk X.prog X.w X.K X.mg X.base k f fd ps sp) (hr : Room (k + 1) X.A) (hgd : X.A.guards = some [])
    (pat : PadOk X.K fd ps n ks its pm) (rd : Vals dvs its) (I : Inv X pins σ H s) (r1 : Vals vs us) (r2 : Vals zs ws) (l1 : vs.length + 1 = n) (l2 : zs.length = ks.length)
    (q : ∀ x dx, H x = none → H dx = none → dx ≠ x → ∃ ws, perm (.ref x :: ((vs ++ zs) ++ dvs)) pm = some ws ∧ sp ws (upd (upd H dx (.own x)) x (.ins C dx [])) fun v H3 => v = .non ∧ Q (.ref x) H3) :
    wpAny (model X.prog X.w) X.A (call (.ref C) us (ks.zip ws)) (EP X pins σ Q) X.xe s := by
  obtain ⟨ys, e, q2⟩ := q (s.heap.objs.size + 1) s.heap.objs.size (I.hok.fresh (Nat.le_succ _)) (I.hok.fresh (Nat.le_refl _)) (Nat.ne_of_lt (Nat.lt_succ_self _))
  have I2 := Inv.made (C := C) I
  obtain ⟨xs, e2, b⟩ := pat _ (.ref (s.heap.objs.size + 1) :: us) ws I2.kIn (by rw [List.length_cons, ← r1.length]; exact l1) (r2.length.symm.trans l2)
  have r0 : Vals (V.ref (s.heap.objs.size + 1) :: ((vs ++ zs) ++ dvs)) (Value.ref (s.heap.objs.size + 1) :: ((us ++ ws) ++ its)) := .cons rfl ((r1.append r2).append rd)
  have rv : Vals ys xs := perm_vals r0 e2 e
  refine wpAny_call (make_map (f := f) I.kIn M.makes M.init (beq_iff_eq.mp M.fn) (codeAny_mono (F.run0 _ X.stack _ _ ⟨Value.ref (s.heap.objs.size + 1) :: us, ks.zip ws⟩ xs _ _ (hr.make C us (ks.zip ws)) hgd (I2.env0.make C us (ks.zip ws)) b rv q2) fun res s' hq => ?_))
  match res, hq with
  | .error e, hq => exact False.elim hq
  | .ok (.ret u), hq =>
    obtain ⟨v, H', I3, rv', ev, q3⟩ := I2.after hq
    subst ev
    exact ⟨rv', ⟨V.ref (s.heap.objs.size + 1), H', I3, rfl, q3⟩⟩
  | .ok .next, hq => exact False.elim hq
  | .ok .brk, hq => exact False.elim hq
  | .ok .cont, hq => exact False.elim hq
theorem pe_makeD {n : Nat} {pm : List Nat} {its : List Value} {dvs : List V} (M : Mk X.K C f) (F : FOk X.prog X.w X.K X.mg X.base k f fd ps sp) (hr : Room (k + 1) X.A) (hgd : X.A.guards = some []) (hg : Gl X x) (hm : X.mg x = some (.ref C)) (pat : PadOk X.K fd ps n (kwNames kws) its pm) (rd : Vals dvs its)
    (h1 : es.all noStar = true) (h2 : kws.all (fun k => k.arg.isSome) = true) (hnil : es = [] → ta = tNil) (ha : PA X es ta) (hw : PK X kws tk) (hdb : (x == ("__debug__" : Str)) = false) :
    PE X (.Call (.Name x p) es kws pos) (tMakeD C sp n (kwNames kws).length dvs pm ta tk) := by
  refine ⟨fun pins s σ H Q I h => wpAny_Call_Name_kw (ld_glob I hg hm ?_ hdb)⟩
  refine call_args (first := []) M.kp h1 h2 hnil ha hw I h fun s2 H2 us ws vs zs I2 r1 r2 ⟨l1, l2, q2⟩ => ?_
  exact run_makeD M F hr hgd pat rd I2 r1 r2 l1 l2 q2
def tMakeS (K : PySem.W.Frag) (C : Addr) (sp : Sp0) (n : Nat) (pm : List Nat) (te : TE) : TE := fun σ H Q => te σ H fun y H1 => ∃ a xs, y = V.ref a ∧ (SqT K H1 a xs ∨ SqL K H1 a xs) ∧ xs.length + 1 = n ∧
  ∀ x dx, H1 x = none → H1 dx = none → dx ≠ x → ∃ ws, perm (.ref x :: (xs ++ [])) pm = some ws ∧ sp ws (upd (upd H1 dx (.own x)) x (.ins C dx [])) fun v H3 => v = .non ∧ Q (.ref x) H3
theorem pe_makeS {n : Nat} {pm : List Nat} {e : Expr} {te : TE} {sp_ : Pos} (M : Mk X.K C f) (F : FOk X.prog X.w X.K X.mg X.base k f fd ps sp) (hr : Room (k + 1) X.A) (hgd : X.A.guards = some []) (hg : Gl X x) (hm : X.mg x = some (.ref C)) (pat : PatOk X.K fd ps n [] pm)
    (he : PE X e te) (hdb : (x == ("__debug__" : Str)) = false) : PE X (.Call (.Name x p) [.Starred e sp_] [] pos) (tMakeS X.K C sp n pm te) := by
  refine ⟨fun pins s σ H Q I h => wpAny_Call_Name_kw (ld_glob I hg hm ?_ hdb)⟩
  refine PySem.W.callWith_S (h₀ := X.base) I.ok.mod.kin M.kp (thn (he.run pins s σ H _ I h) fun v s1 ⟨y, H1, I1, ry, a, xs, ey, hxs, l, q⟩ => ?_) (by rfl)
  subst ey
  obtain rfl : v = Value.ref a := ry
  exact StX.star_any I1 hxs fun us s2 I2 rv => ⟨I2.kIn, run_makeU (ks := []) (ws := []) (zs := []) M F hr hgd pat I2 rv .nil l rfl q⟩
def tPropU (C : Addr) (sp : Sp0) (to : TE) : TE := fun σ H Q => to σ H fun x H1 => ∃ a dx fs, x = .ref a ∧ H1 a = some (.ins C dx fs) ∧ sp [.ref a] H1 Q
theorem pe_propU {nm : Str} {pp : Addr} (F : FOk X.prog X.w X.K X.mg X.base k f fd ps sp) (hr : Room (k + 1) X.A) (hgd : X.A.guards = some []) (c : Cls X.K C) (hp : PropOf X.K C nm pp f) (pat : PatOk X.K fd ps 1 [] [0])
    (hb : attributeBase o nm X.env (eval o X.env) = eval o X.env) (he : PE X o to) : PE X (.Attribute o nm pos) (tPropU C sp to) := by
  refine ⟨fun pins s σ H Q I h => attr_of hb (thn (he.run pins s σ H _ I h) fun u s1 ⟨x, H1, I1, rx, a, dx, fs, ex, ea, q⟩ => ?_)⟩
  subst ex
  obtain rfl : u = Value.ref a := rx
  obtain ⟨mA, O, _, _, _, _⟩ := ins_get I1.hok ea
  obtain ⟨od, J, _⟩ := O.look
  obtain ⟨rest, hrec⟩ := hp.rec_
  have I2 := I1.tok (s1.toks + 1)
  have hc : (PySem.W.clsIn X.K C).isSome = true := by
    obtain ⟨cd, hc, _⟩ := PySem.W.any_some c.hd
    rw [hc]
    rfl
  obtain ⟨xs, e2, b⟩ := pat { s1 with toks := s1.toks + 1 } [.ref a] [] I2.kIn rfl rfl
  have ex : xs = [.ref a] := by cases e2; rfl
  subst ex
  refine PySem.W.get_bind I1.kIn J (PySem.W.plainGet_of (c.get nm)).1 (PySem.W.findObj_data hc hp.at_ hp.get hp.tak) (PySem.W.plainGet_of (c.get nm)).2 (wpAny_call (PySem.W.prop_get (s := { s1 with toks := s1.toks + 1 }) I1.kIn hrec ?_))
  refine codeAny_mono (F.run0 X.A.in1 X.stack { s1 with toks := s1.toks + 1 } H1 ⟨[.ref a], []⟩ [.ref a] [.ref a] Q hr.in1 hgd I2.env0.in1 b (.cons rfl .nil) q) fun res s' hq => ?_
  match res, hq with
  | .error e, hq => exact False.elim hq
  | .ok (.ret u), hq =>
    obtain ⟨v, H', I3, rv, q3⟩ := I2.after hq
    show wpAny _ _ (handedOut u) _ _ _
    rw [PySem.W.handedOut_of (handed_of rv)]
    exact wpAny_pure ⟨v, H', I3, rv, q3⟩
  | .ok .next, hq => exact False.elim hq
  | .ok .brk, hq => exact False.elim hq
  | .ok .cont, hq => exact False.elim hq
theorem run_at {A' : Around} {E' : Value → Shared → Prop} {pins : List (Addr × Obj)} {σ : L2.St} {H : Hp} {s : Shared} {Q : VK} {us xs : List Value} {vs : List V} (F : FOk X.prog X.w X.K X.mg X.base k f fd ps sp) (hr : Room k A') (hg : A'.guards = some [])
    (e0 : Env0 X.prog X.w X.K X.mg X.base A' X.stack s H) (b : BindsTo s fd ⟨us, []⟩ (ps.zip xs)) (I : Inv X pins σ H s) (r : Vals vs xs) (h : sp vs H Q) : wpAny (model X.prog X.w) A' (call (.ref f) us) (EP X pins σ Q) E' s := by
  apply wpAny_call
  refine codeAny_mono (F.run0 A' X.stack s H ⟨us, []⟩ xs vs Q hr hg e0 b r h) fun res s' q => ?_
  match res, q with
  | .error e, q => exact False.elim q
  | .ok (.ret u), q => exact I.after q
  | .ok .next, q => exact False.elim q
  | .ok .brk, q => exact False.elim q
  | .ok .cont, q => exact False.elim q
def rOLen (C : Addr) (sp : Sp0) : List V → Hp → VK → Prop := fun xs H Q => ∃ a dx fs, xs = [V.ref a] ∧ H a = some (.ins C dx fs) ∧ sp [.ref a] H fun v H' => ∃ n, v = .int n ∧ 0 ≤ n ∧ n < 2 ^ 63 ∧ Q (.int n) H'
theorem call_olen (F : FOk X.prog X.w X.K X.mg X.base k f fd ps sp) (hr : Room (k + 1) X.A) (hgd : X.A.guards = some []) (hm : Meth X.K C "__len__" f) (pat : PatOk X.K fd ps 1 [] [0]) : CallR X (.builtin "len") (rOLen C sp) := by
  intro pins s σ H vs us Q I r hh
  obtain ⟨a, dx, fs, rfl, ea, q⟩ := hh
  obtain ⟨u, rfl, ru⟩ := vals1 r
  obtain rfl : u = Value.ref a := ru
  obtain ⟨mA, O, _, _, _, _⟩ := ins_get I.hok ea
  obtain ⟨od, J, _⟩ := O.look
  obtain ⟨m0, Ff⟩ := I.fr
  obtain ⟨xs, e2, b⟩ := pat s [.ref a] [] I.kIn rfl rfl
  have ex : xs = [.ref a] := by cases e2; rfl
  subst ex
  have r2 : Vals [V.ref a] [Value.ref a] := .cons rfl .nil
  refine PySem.W.len_K Ff I.ok.mod.kin J hm.at_ hm.fn (wpAny_mono (run_at F hr.in1 hgd I.env0.in1 b I r2 q) (fun w s' z => ?_) fun _ _ e => e)
  obtain ⟨v, H', I', rv, n, rfl, n1, n2, q'⟩ := z
  obtain ⟨t, rfl⟩ := rv
  exact ⟨⟨n1, n2⟩, .int n, H', I'.tok _, ⟨_, rfl⟩, q'⟩
def rOEq (C : Addr) (sp : Sp0) : R2 := fun u v H Q => ∃ a dx fs b dy fy, u = V.ref a ∧ v = V.ref b ∧ H a = some (.ins C dx fs) ∧ H b = some (.ins C dy fy) ∧ sp [.ref a, .ref b] H fun w H' => ∃ t, w = .bl t ∧ Q (.bl t) H'
theorem op_oeq (F : FOk X.prog X.w X.K X.mg X.base k f fd ps sp) (hr : Room k X.A) (hgd : X.A.guards = some []) (hm : Meth X.K C "__eq__" f) (pat : PatOk X.K fd ps 2 [] [0, 1]) : OpR X (compareOp .Eq) (rOEq C sp) := by
  intro pins s σ H u v x y Q I ru rv hh
  obtain ⟨a, dx, fs, b, dy, fy, rfl, rfl, ea, eb, q⟩ := hh
  obtain rfl : x = Value.ref a := ru
  obtain rfl : y = Value.ref b := rv
  obtain ⟨mA, O, _, _, _, _⟩ := ins_get I.hok ea
  obtain ⟨od, J, _⟩ := O.look
  obtain ⟨mB, O2, _, _, _, _⟩ := ins_get I.hok eb
  obtain ⟨od2, J2, _⟩ := O2.look
  obtain ⟨m0, Ff⟩ := I.fr
  obtain ⟨xs, e2, bd⟩ := pat s [.ref a, .ref b] [] I.kIn rfl rfl
  have ex : xs = [.ref a, .ref b] := by cases e2; rfl
  subst ex
  have r2 : Vals [V.ref a, V.ref b] [Value.ref a, Value.ref b] := .cons rfl (.cons rfl .nil)
  show wpAny _ _ (compareOp .Eq (.ref a) (.ref b)) _ _ _
  unfold compareOp
  refine PySem.W.cmp_K (op := .Eq) hr.units0 Ff I.ok.mod.kin J J2.type (by unfold PySem.W.notFirst; simp) hm.at_ hm.fn (wpAny_mono (run_at F hr hgd I.env0 bd I r2 q) (fun w s' z => ?_) fun _ _ e => e)
  obtain ⟨v, H', I', rv, t, rfl, q'⟩ := z
  obtain rfl : w = Value.bool t := rv
  exact ⟨.bl t, H', I', rfl, q'⟩
structure OprOk (K : PySem.W.Frag) (C : Addr) (op : BOp) (f : Addr) : Prop where
  first : PySem.W.selfFirst K C = true
  at_ : PySem.W.findIn K (.ref C) (PySem.dunder op.py.info.2) = some (some (.ref f))
  fn : PySem.W.isFn K (.ref f) = true
def rOOp (C : Addr) (sp : Sp0) : R2 := fun u v H Q => ∃ a dx fs b dy fy, u = V.ref a ∧ v = V.ref b ∧ H a = some (.ins C dx fs) ∧ H b = some (.ins C dy fy) ∧ sp [.ref a, .ref b] H fun w H' => ∃ p, w = .ref p ∧ Q (.ref p) H'
theorem op_oop {op : BOp} (F : FOk X.prog X.w X.K X.mg X.base k f fd ps sp) (hr : Room k X.A) (hgd : X.A.guards = some []) (ho : OprOk X.K C op f) (pat : PatOk X.K fd ps 2 [] [0, 1]) : OpR X (binaryOp op.py) (rOOp C sp) := by
  intro pins s σ H u v x y Q I ru rv hh
  obtain ⟨a, dx, fs, b, dy, fy, rfl, rfl, ea, eb, q⟩ := hh
  obtain rfl : x = Value.ref a := ru
  obtain rfl : y = Value.ref b := rv
  obtain ⟨mA, O, _, _, _, _⟩ := ins_get I.hok ea
  obtain ⟨od, J, _⟩ := O.look
  obtain ⟨mB, O2, _, _, _, _⟩ := ins_get I.hok eb
  obtain ⟨od2, J2, _⟩ := O2.look
  obtain ⟨m0, Ff⟩ := I.fr
  obtain ⟨xs, e2, bd⟩ := pat s [.ref a, .ref b] [] I.kIn rfl rfl
  have ex : xs = [.ref a, .ref b] := by cases e2; rfl
  subst ex
  have r2 : Vals [V.ref a, V.ref b] [Value.ref a, Value.ref b] := .cons rfl (.cons rfl .nil)
  refine PySem.W.binop_K Ff I.ok.mod.kin J J2.type ho.first ho.at_ ho.fn (wpAny_mono (run_at F hr hgd I.env0 bd I r2 q) (fun w s' z => ?_) fun _ _ e => e)
  obtain ⟨v, H', I', rv, p, rfl, q'⟩ := z
  obtain rfl : w = Value.ref p := rv
  exact ⟨.ref p, H', I', rfl, q'⟩
end
end Mi
namespace Mi
open PySem PySem.Spec PyProof.Rows L2
structure Inf where
  fnm : List Str
  glb : List (Str × D)
  fld : List Str
  pat : List (Nat × Nat × List Str × List Nat)
  /-- own classes' names; (def, class, name) of methods, of properties; (def, class) of __init__; whether isinstance asks for own classes -/
  cls : List Str := []
  mth : List (Nat × Nat × Str) := []
  prp : List (Nat × Nat × Str) := []
  ini : List (Nat × Nat) := []
  isc : Bool := false
  /-- defs with a star parameter behind so many others -/
  str : List (Nat × Nat) := []
  /-- own operators: (def, class, which) -/
  opr : List (Nat × Nat × BOp) := []
  /-- calls that leave defaults: as pat, with these -/
  pad : List (Nat × Nat × List Str × List Dv × List Nat) := []
structure Ck where
  sc : Scope
  N : List Str
  fb : Str → Bool
def spF (K : PySem.W.Frag) (C : Nat → Addr) (F : Fs) (f : Nat) : Sp0 := fun vs H Q => ∃ h ts Fp r ts', Same h H ∧ Owns K C h H vs ts Fp ∧ F f ts = some (r, ts') ∧
  ∀ v H' h' F' G, Stp Fp h H F' h' H' → Same h' H' → Owns K C h' H' vs ts' F' → Own K C h' H' v r G → (∀ a, a ∈ G → a ∉ F') → (∀ a, a ∈ G → a ∈ Fp ∨ H a = none) → Q v H'
structure Fx where
  P : Program
  w : World
  K : PySem.W.Frag
  mg : Str → Option Value
  base : Heap
  I : Inf
  C : Nat → Addr
  k : Nat
  F : Fs
def bltNames : List Str := ["len", "int", "str", "repr", "tuple", "list", "sum", "max", "min", "abs", "all", "any", "range", "enumerate", "zip", "isinstance", "sorted", "dict", "reversed", "bool"]
structure IsiC (K : PySem.W.Frag) (C : Addr) : Prop where
  ha : PySem.W.findIn K (.ref C) "__class__" = some (some (.builtin "object.__class__"))
  hn : PySem.W.specialIn K (.builtin "object.__class__") "__get__" = some (some (.builtin "getset_descriptor.__get__"))
  ht : PySem.W.takesIn K (.builtin "object.__class__") = some true
  hm : PySem.W.mroIn K C (.type "object") = some true
  ib : PySem.W.kitOne K (.type "NoneType") (.ref C) = some false ∧ PySem.W.kitOne K (.type "bool") (.ref C) = some false ∧ PySem.W.kitOne K (.type "int") (.ref C) = some false ∧ PySem.W.kitOne K (.type "str") (.ref C) = some false ∧
    PySem.W.kitOne K (.type "tuple") (.ref C) = some false ∧ PySem.W.kitOne K (.type "list") (.ref C) = some false ∧ PySem.W.kitOne K (.type "dict") (.ref C) = some false
structure FnAt (Y : Fx) (f : Nat) (a : Addr) (fd : FuncData) (ps : List Str) : Prop where
  nm : ∀ x, Y.I.fnm[f]? = some x → x ≠ "" → Y.mg x = some (.ref a) ∧ PySem.W.keepIn Y.K (.ref a) = true
  mth : ∀ c m, (f, c, m) ∈ Y.I.mth → Meth Y.K (Y.C c) m a
  prp : ∀ c m, (f, c, m) ∈ Y.I.prp → ∃ pp, PropOf Y.K (Y.C c) m pp a
  ini : ∀ c, (f, c) ∈ Y.I.ini → Mk Y.K (Y.C c) a
  pat : ∀ n ks pm, (f, n, ks, pm) ∈ Y.I.pat → PatOk Y.K fd ps n ks pm
  str : ∀ n, (f, n) ∈ Y.I.str → StarOk fd ps n
  opr : ∀ c op, (f, c, op) ∈ Y.I.opr → OprOk Y.K (Y.C c) op a
  pad : ∀ n ks dv pm, (f, n, ks, dv, pm) ∈ Y.I.pad → ∃ its dvs, PadOk Y.K fd ps n ks its pm ∧ Vals dvs its ∧ ∀ h, Reps Y.K Y.C h dvs (dv.map Dv.d)
structure Fx.Ok (Y : Fx) : Prop where
  blt : ∀ x, x ∈ bltNames → Y.mg x = none
  glb : ∀ x d, Y.I.glb.lookup x = some d → ∃ v u, Y.mg x = some u ∧ RelV v u ∧ ∀ h, Rep Y.K Y.C h v d
  fld : ∀ c f, f ∈ Y.I.fld → Cls Y.K (Y.C c) ∧ NoAttr Y.K (Y.C c) f
  cls : Y.I.cls ≠ [] → ∀ c, Cls Y.K (Y.C c)
  cnm : ∀ c x, Y.I.cls[c]? = some x → Y.mg x = some (.ref (Y.C c))
  isi : Y.I.isc = true → (∀ c, IsiC Y.K (Y.C c)) ∧ ∀ c c', c < Y.I.cls.length → c' < Y.I.cls.length → PySem.W.kitOne Y.K (.ref (Y.C c')) (.ref (Y.C c)) = some (c' == c)
  fns : ∀ f, f < Y.I.fnm.length → ∃ a fd ps, FOk Y.P Y.w Y.K Y.mg Y.base Y.k a fd ps (spF Y.K Y.C Y.F f) ∧ FnAt Y f a fd ps
structure Gd (Y : Fx) (c : Ck) (X : Cx) : Prop where
  P : X.prog = Y.P
  w : X.w = Y.w
  K : X.K = Y.K
  mg : X.mg = Y.mg
  base : X.base = Y.base
  sc : X.env.scope = c.sc
  N : X.N = c.N
  nd : c.N.Nodup
  calm : X.calm = true
  xe : X.xe = fun _ _ => False
  grd : X.A.guards = some []
  room : Room (Y.k + 1) X.A
  fn : ∀ x, c.fb x = true → X.fn x = true
def vis (c : Ck) (x : Str) : Bool := match c.sc.names.lookup x with | some .local => true | some .cell => true | some .free => true | _ => false
def glo (c : Ck) (x : Str) : Bool := match c.sc.names.lookup x with | some .globalImplicit => true | _ => false
def plainN (x : Str) : Bool := !(x == ("__debug__" : Str)) && !(x == ("__classdict__" : Str)) && decide (x ≠ ("__name__" : Str))
def noSlice : Expr → Bool
  | .Slice .. => false
  | _ => true
mutual
def ok0 (I : Inf) (c : Ck) : X0 → Expr → Bool
  | .int i, e => match e with | .Constant (.int j) _ _ => decide (i = j) | _ => false
  | .str s, e => match e with | .Constant (.str t) _ _ => decide (s = t) | _ => false
  | .rd p, e => okP I c p e
  | .add a b, e => match e with | .BinOp x .Add y _ => ok0 I c a x && ok0 I c b y | _ => false
  | .sub a b, e => match e with | .BinOp x .Sub y _ => ok0 I c a x && ok0 I c b y | _ => false
  | .neg a, e => match e with | .UnaryOp .USub x _ => ok0 I c a x | _ => false
  | .len p, e => match e with | .Call (.Name f _) [a] [] _ => decide (f = ("len" : Str)) && glo c "len" && noStar a && okP I c p a | _ => false
def okP (I : Inf) (c : Ck) : P → Expr → Bool
  | .var i, e => match e with | .Name x _ => decide (c.N[i]? = some x) && vis c x && plainN x | _ => false
  | .ix p x, e => match e with | .Subscript a b _ => noSlice b && okP I c p a && ok0 I c x b | _ => false
  | .at p f, e => match e with
    | .Attribute a g _ => decide (f = g) && I.fld.contains f && okP I c p a && (match a with | .Call .. => false | _ => true)
    | _ => false
end
mutual
def okT (c : Ck) : Tg → Expr → Bool
  | .var i, e => match e with
    | .Name x _ => decide (c.N[i]? = some x) && (match c.sc.names.lookup x with | some .local => true | some .cell => c.fb x | _ => false)
    | _ => false
  | .tup ts, e => match e with | .Tuple es _ _ => okTs c ts es | _ => false
def okTs (c : Ck) : List Tg → List Expr → Bool
  | [], [] => true
  | t :: ts, e :: es => noStar e && okT c t e && okTs c ts es
  | _, _ => false
end
section
variable {Y : Fx} {c : Ck} {X : Cx}
theorem Gd.vis (g : Gd Y c X) {x : Str} (h : Mi.vis c x = true) : Vis X.env.scope x := by
  rw [g.sc]
  unfold Mi.vis at h
  unfold Vis
  split at h
  · rename_i e; exact .inl e
  · rename_i e; exact .inr (.inl e)
  · rename_i e; exact .inr (.inr e)
  · cases h
theorem Gd.glo (g : Gd Y c X) {x : Str} (h : Mi.glo c x = true) : Gl X x := by
  show X.env.scope.names.lookup x = some .globalImplicit
  rw [g.sc]
  unfold Mi.glo at h
  split at h
  · rename_i e; exact e
  · cases h
theorem plain_ix {b : Expr} (h : noSlice b = true) : PlainIx b := by
  intro o i
  cases b <;> first | rfl | cases h
theorem Gd.units (g : Gd Y c X) : X.A.units + 64 < cLine := g.room.units
theorem Gd.blt (g : Gd Y c X) (y : Y.Ok) {x : Str} (h : x ∈ bltNames) : X.mg x = none := by rw [g.mg]; exact y.blt x h
theorem Gd.var (g : Gd Y c X) {i : Nat} {x : Str} {pos : Pos} (h1 : c.N[i]? = some x) (h2 : Mi.vis c x = true) (h3 : plainN x = true) : PE X (.Name x pos) (tVar i) := by
  unfold plainN at h3
  simp only [Bool.and_eq_true, Bool.not_eq_true', decide_eq_true_eq] at h3
  exact pe_var (by rw [g.N]; exact h1) (g.vis h2) h3.1.1 h3.1.2
theorem Gd.call (g : Gd Y c X) {x : Str} {u : Value} {r : List V → Hp → VK → Prop} {p pos : Pos} {e : Expr} {es : List Expr} {t : TA} (hc : CallR X u r) (hg : Mi.glo c x = true) (hm : X.mg x = none) (hv : bootBuiltins x = some u)
    (hu : (∃ id, u = .builtin id) ∨ ∃ T, u = .type T) (hn : plainN x = true) (hs : (e :: es).all noStar = true) (ha : PA X (e :: es) t) : PE X (.Call (.Name x p) (e :: es) [] pos) (tCB r t) := by
  unfold plainN at hn
  simp only [Bool.and_eq_true, Bool.not_eq_true', decide_eq_true_eq] at hn
  rw [List.all_cons, Bool.and_eq_true] at hs
  rcases hu with ⟨id, rfl⟩ | ⟨T, rfl⟩
  · exact pe_callB hc (g.glo hg) hm hv ha hn.2 hn.1.1 (star_cons hs.1) (star_plain hs.2)
  · exact pe_callTy hc (g.glo hg) hm hv ha hn.2 hn.1.1 (star_cons hs.1) (star_plain hs.2)
theorem pa_one {e : Expr} {te : TE} (h : noStar e = true) (ha : PE X e te) : PA X [e] (tCons te tNil) := pa_cons ha pa_nil (star_cons h)
def AtP (Y : Fx) (σ : L2.St) (H h : Hp) (sl : Sl) (rt : Rt) (vs : List V) (F : List Addr) (p : P) (v : V) (u : T) : Prop :=
  ∃ F1, (Part Y.K Y.C h H F v u F1 fun t' h' H' F' => ∀ rt', upP sl rt p t' = some rt' → OwnR Y.K Y.C h' H' vs rt' F') ∧
    ∀ a, a ∈ F1 → ∀ k tk vk Fk, sl[p.root]? = some (some (.r k)) → rt[k]? = some (some tk) → vs[k]? = some vk → Own Y.K Y.C h H vk tk Fk → a ∈ Fk
def TPs (Y : Fx) (sl : Sl) (rt : Rt) (p : P) (t : TE) : Prop := ∀ σ H h vs F, Rel Y.K Y.C σ H h sl rt vs F → ∀ u, pt sl rt p = some u → ∀ Q : VK, (∀ v, AtP Y σ H h sl rt vs F p v u → Q v H) → t σ H Q
def TXs (Y : Fx) (sl : Sl) (rt : Rt) (x : X0) (t : TE) : Prop := ∀ σ H h vs F, Rel Y.K Y.C σ H h sl rt vs F → ∀ d, x0 sl rt x = some d → ∀ Q : VK, (∀ v, Rep Y.K Y.C h v d → Q v H) → t σ H Q
def rIxP (K : PySem.W.Frag) : R2 := fun u v H Q => rIx K u v H Q ∨ ∃ a z, u = .ref a ∧ DGet H a v (some z) ∧ Q z H
theorem ixP_ok (hu : X.A.units + 1 < cLine) : IxR X (rIxP X.K) := IxR.or ix_seq (ix_dk hu)
def rLenP (K : PySem.W.Frag) : List V → Hp → VK → Prop := fun xs H Q => (∃ x n, xs = [x] ∧ LenV K x H n ∧ Q (.int n) H) ∨ ∃ a kvs, xs = [V.ref a] ∧ Rd H a (.dK kvs) ∧ Q (.int ((kvs.length : Nat) : Int)) H
theorem lenP_ok : CallR X (.builtin "len") (rLenP X.K) := CallR.or call_len call_lenDR
theorem ds_length : ∀ ts : List T, (T.ds ts).length = ts.length
  | [] => rfl
  | _ :: r => congrArg (· + 1) (ds_length r)
theorem lenT_ok {K : PySem.W.Frag} {C : Nat → Addr} {h H : Hp} {v : V} {t : T} {F : List Addr} {n : Int} (e : Same h H) (o : Own K C h H v t F) (q : lenD t.d = some n) :
    (∃ m : Nat, n = m ∧ LenV K v H m) ∨ ∃ a kvs, v = .ref a ∧ n = ((kvs.length : Nat) : Int) ∧ Rd H a (.dK kvs) := by
  cases o with
  | cl r => exact lenD_ok e (.rep r) q
  | ls q1 n1 r1 _ =>
    cases q
    exact .inl ⟨_, rfl, .inl ⟨_, SqL.of q1, by rw [ds_length]; exact r1.length.symm⟩⟩
  | dc q1 n1 hk r1 _ =>
    cases q
    exact .inr ⟨_, _, rfl, by rw [← hk, List.length_map], .inl q1⟩
  | ob _ _ _ _ _ => cases q
theorem rep_d {K : PySem.W.Frag} {C : Nat → Addr} {h H : Hp} {v : V} {d : D} {F : List Addr} (o : Own K C h H v (.cl d) F) : Rep K C h v d := by cases o; assumption
mutual
theorem sndP (y : Y.Ok) : ∀ (p : P) (e : Expr), okP Y.I c p e = true → ∃ t, (∀ X, Gd Y c X → PE X e t) ∧ ∀ sl rt, TPs Y sl rt p t
  | .var i, e, ok => by
    unfold okP at ok
    split at ok
    · rename_i x pos
      simp only [Bool.and_eq_true, decide_eq_true_eq] at ok
      refine ⟨tVar i, fun X g => g.var ok.1.1 ok.1.2 ok.2, fun sl rt σ H h vs F r u hu Q q => ?_⟩
      unfold pt at hu
      split at hu
      · rename_i d hs
        cases hu
        obtain ⟨v, e1, e2⟩ := r.slt i _ hs
        refine ⟨v, e1, q v ⟨[], ⟨.cl e2, fun a z => absurd z (by simp), fun h' H' t' F2 s fr o nw => ?_⟩, fun a z => absurd z (by simp)⟩⟩
        obtain ⟨F', w⟩ : ∃ F', OwnR Y.K Y.C h' H' vs rt F' ∧ ∀ a, a ∈ F' → a ∈ F ∨ a ∈ F2 := ⟨F, r.own.stay s fun a z => fr a z (by simp), fun a z => .inl z⟩
        refine ⟨F', fun rt' hr => ?_, w.2⟩
        unfold upP at hr
        rw [hs] at hr
        cases hr
      · rename_i k hs
        split at hu
        · rename_i t ht
          cases hu
          obtain ⟨v, e1, e2⟩ := r.slt i _ hs
          obtain ⟨w, F1, e3, pr⟩ := r.own.get ht
          have e2 : vs[k]? = some v := e2
          rw [e2] at e3
          cases e3
          refine ⟨v, e1, q v ⟨F1, pr.mono (fun a z => z) fun h' H' t' F2 F' s fr w sub nw => ⟨F', fun rt' hr => ?_, sub⟩, fun a z k' tk vk Fk s1 s2 s3 s4 => by
            have s1 : sl[i]? = some (some (.r k')) := s1
            rw [hs] at s1
            cases s1
            rw [ht] at s2
            cases s2
            rw [e2] at s3
            cases s3
            rw [s4.uniq pr.1]
            exact z⟩⟩
          unfold upP at hr
          rw [hs] at hr
          simp only at hr
          split at hr
          · cases hr; exact w
          · cases hr
        · cases hu
      · cases hu
    · cases ok
  | .ix p x, e, ok => by
    unfold okP at ok
    split at ok
    · rename_i a b pos
      simp only [Bool.and_eq_true] at ok
      obtain ⟨ta, pa, ra⟩ := sndP y p a ok.1.2
      obtain ⟨tb, pb, rb⟩ := sndX y x b ok.2
      refine ⟨tOp (rIxP Y.K) ta tb, fun X g => pe_ix (by have z := ixP_ok (X := X) (by have := g.units; omega); rw [g.K] at z; exact z) (pa X g) (pb X g) (plain_ix ok.1.1), fun sl rt σ H h vs F r u hu Q q => ?_⟩
      unfold pt at hu
      split at hu
      · rename_i u0 d hp hx
        refine ra sl rt σ H h vs F r u0 hp _ fun v0 at0 => ?_
        refine rb sl rt σ H h vs F r d hx _ fun w rw' => ?_
        obtain ⟨F0, pr0, in0⟩ := at0
        cases u0 with
        | cl d0 =>
          unfold ixT at hu
          obtain ⟨d1, hd, rfl⟩ := Option.map_eq_some_iff.mp hu
          have r0 := rep_d pr0.1
          have fin : ∀ z, Rep Y.K Y.C h z d1 → Q z H := fun z rz => q z ⟨[], ⟨.cl rz, fun a z => absurd z (by simp), fun h' H' t' F2 s fr o nw => ⟨F, (fun rt' hr => by
            unfold upP at hr
            rw [hp, hx] at hr
            cases hr), fun a z => .inl z⟩⟩, fun a z => absurd z (by simp)⟩
          unfold ixD at hd
          split at hd
          · cases rw'
            cases r0 with
            | lst q1 s1 =>
              obtain ⟨z, z1, z2⟩ := atI_reps s1 hd
              exact .inl (.inl ⟨_, _, _, z, rfl, rfl, SqL.of (r.sub _ _ q1), z1, fin z z2⟩)
          · cases rw'
            cases r0 with
            | tup q1 s1 =>
              obtain ⟨z, z1, z2⟩ := atI_reps s1 hd
              exact .inl (.inr (.inl ⟨_, _, _, z, rfl, rfl, sqT_same r.sub q1, z1, fin z z2⟩))
          · cases rw'
            cases r0 with
            | scr q1 =>
              rename_i ns i _
              obtain ⟨n, e1, rfl⟩ := Option.map_eq_some_iff.mp hd
              have e2 : atI (ns.map V.int) i = some (.int n) := by
                unfold atI at e1 ⊢
                obtain ⟨j, e1, e2⟩ := Option.bind_eq_some_iff.mp e1
                rw [List.length_map, e1]
                show (ns.map V.int)[j]? = _
                rw [List.getElem?_map, e2]
                rfl
              exact .inl (.inl ⟨_, _, _, _, rfl, rfl, r.sub.seq q1, e2, fin _ (.int n)⟩)
          · obtain ⟨kk, k1, k2⟩ := Option.bind_eq_some_iff.mp hd
            cases r0 with
            | dct q1 hk s1 =>
              rw [← hk] at k2
              obtain ⟨z, z1, z2⟩ := lookK_reps s1 k2
              exact .inr ⟨_, z, rfl, by rw [key_ok rw' k1]; exact .inl ⟨_, kk, rd_same r.sub q1, rfl, z1.symm⟩, fin z z2⟩
          · split at hd
            · rename_i hz
              obtain ⟨cc, c1, rfl⟩ := Option.map_eq_some_iff.mp hd
              cases r0
              cases rw'
              exact .inl (.inr (.inr ⟨_, _, cc, rfl, rfl, hz, c1, fin _ (.str _)⟩))
            · cases hd
          · cases hd
        | ls ts =>
          obtain ⟨o0, s0, w0⟩ := pr0
          cases o0 with
          | ls hH hn os na =>
            rename_i a xs F0
            cases d with
            | int i =>
              have hu : atI ts i = some u := hu
              cases rw'
              obtain ⟨j, j1, j2⟩ := atI_set hu
              obtain ⟨z, F1, z1, z2, z3, z4⟩ := os.get j2
              have hz : atI xs i = some z := by
                unfold atI
                rw [os.length, j1]
                exact z1
              refine .inl (.inl ⟨a, xs, i, z, rfl, rfl, SqL.of hH, hz, q z ⟨F1, ⟨z2, fun b m => s0 b (List.mem_cons_of_mem _ (z3 b m)), fun h' H' t' F2 s fr o nw => ?_⟩, fun b m => in0 b (List.mem_cons_of_mem _ (z3 b m))⟩⟩)
              have aF : a ∈ F := s0 a List.mem_cons_self
              have a1 : a ∉ F1 := fun m => na (z3 a m)
              obtain ⟨F3, w3, y3⟩ := z4 h' H' t' F2 s (fun b m n => fr b (s0 b (List.mem_cons_of_mem _ m)) n) o fun b m => (nw b m).imp id fun n m' => n (s0 b (List.mem_cons_of_mem _ m'))
              have a3 : a ∉ F3 := fun m => by
                rcases y3 a m with y | y
                · exact na y
                · rcases nw a y with y | y
                  · exact a1 y
                  · exact y aF
              obtain ⟨F', wF, yF⟩ := w0 h' H' (.ls (ts.set j t')) (a :: F3) s (fun b m n => fr b m fun m' => n (List.mem_cons_of_mem _ (z3 b m'))) (.ls ((fr a aF a1).1.trans hH) (fr a aF a1).2 w3 a3) fun b m => by
                rcases List.mem_cons.mp m with rfl | m
                · exact .inl List.mem_cons_self
                · rcases y3 b m with y | y
                  · exact .inl (List.mem_cons_of_mem _ y)
                  · exact (nw b y).imp (fun m' => List.mem_cons_of_mem _ (z3 b m')) id
              refine ⟨F', fun rt' hr => ?_, fun b m => ?_⟩
              · unfold upP at hr
                rw [hp, hx] at hr
                have hr : ((ixN ts.length i).map fun j => T.ls (ts.set j t')).bind (upP sl rt p) = some rt' := hr
                rw [j1] at hr
                exact wF rt' hr
              · rcases yF b m with y | y
                · exact .inl y
                · rcases List.mem_cons.mp y with rfl | y
                  · exact .inl aF
                  · exact (y3 b y).imp (fun m' => s0 b (List.mem_cons_of_mem _ m')) id
            | _ => cases hu
        | dc ks ts =>
          obtain ⟨o0, s0, w0⟩ := pr0
          cases o0 with
          | dc hH hn hk os na =>
            rename_i a kvs F0
            have hu : d.key.bind (lookK ks ts) = some u := hu
            obtain ⟨kk, k1, k2⟩ := Option.bind_eq_some_iff.mp hu
            subst hk
            obtain ⟨j, z0, j2, j3, j4, j5⟩ := valV_get os k2
            obtain ⟨z, F1, z1, z2, z3, z4⟩ := os.get j2
            rw [j3] at z1
            cases z1
            refine .inr ⟨a, z0, rfl, by rw [key_ok rw' k1]; exact .inl ⟨kvs, kk, .inl hH, rfl, j4.symm⟩, q z0 ⟨F1, ⟨z2, fun b m => s0 b (List.mem_cons_of_mem _ (z3 b m)), fun h' H' t' F2 s fr o nw => ?_⟩, fun b m => in0 b (List.mem_cons_of_mem _ (z3 b m))⟩⟩
            have aF : a ∈ F := s0 a List.mem_cons_self
            have a1 : a ∉ F1 := fun m => na (z3 a m)
            obtain ⟨F3, w3, y3⟩ := z4 h' H' t' F2 s (fun b m n => fr b (s0 b (List.mem_cons_of_mem _ m)) n) o fun b m => (nw b m).imp id fun n m' => n (s0 b (List.mem_cons_of_mem _ m'))
            have a3 : a ∉ F3 := fun m => by
              rcases y3 a m with y | y
              · exact na y
              · rcases nw a y with y | y
                · exact a1 y
                · exact y aF
            obtain ⟨F', wF, yF⟩ := w0 h' H' (.dc (kvs.map (·.1)) (ts.set j t')) (a :: F3) s (fun b m n => fr b m fun m' => n (List.mem_cons_of_mem _ (z3 b m'))) (.dc ((fr a aF a1).1.trans hH) (fr a aF a1).2 rfl w3 a3) fun b m => by
              rcases List.mem_cons.mp m with rfl | m
              · exact .inl List.mem_cons_self
              · rcases y3 b m with y | y
                · exact .inl (List.mem_cons_of_mem _ y)
                · exact (nw b y).imp (fun m' => List.mem_cons_of_mem _ (z3 b m')) id
            refine ⟨F', fun rt' hr => ?_, fun b m => ?_⟩
            · unfold upP at hr
              rw [hp, hx] at hr
              have hr : (d.key.bind fun kk => if (lookK (kvs.map (·.1)) ts kk).isSome = true then some (T.dc (putKs kk t' (kvs.map (·.1)) ts).1 (putKs kk t' (kvs.map (·.1)) ts).2) else none).bind (upP sl rt p) = some rt' := hr
              rw [k1] at hr
              have hr : (if (lookK (kvs.map (·.1)) ts kk).isSome = true then some (T.dc (putKs kk t' (kvs.map (·.1)) ts).1 (putKs kk t' (kvs.map (·.1)) ts).2) else none).bind (upP sl rt p) = some rt' := hr
              rw [k2, if_pos (show (some u).isSome = true from rfl), j5] at hr
              exact wF rt' hr
            · rcases yF b m with y | y
              · exact .inl y
              · rcases List.mem_cons.mp y with rfl | y
                · exact .inl aF
                · exact (y3 b y).imp (fun m' => s0 b (List.mem_cons_of_mem _ m')) id
        | ob cc ns ts => cases hu
      · cases hu
    · cases ok
  | .at p f, e, ok => by
    unfold okP at ok
    split at ok
    · rename_i a g pos
      simp only [Bool.and_eq_true, decide_eq_true_eq] at ok
      obtain ⟨⟨⟨rfl, hf⟩, h3⟩, h4⟩ := ok
      obtain ⟨ta, pa, ra⟩ := sndP y p a h3
      have hf : f ∈ Y.I.fld := by simpa using hf
      refine ⟨tFld Y.K ta f, fun X g => by
        have z := pe_fld (f := f) (pos := pos) (pa X g) (by cases a <;> first | rfl | cases h4)
        rw [g.K] at z
        exact z, fun sl rt σ H h vs F r u hu Q q => ?_⟩
      unfold pt at hu
      split at hu
      · rename_i u0 hp
        refine ra sl rt σ H h vs F r u0 hp _ fun v0 at0 => ?_
        obtain ⟨F0, pr0, in0⟩ := at0
        cases u0 with
        | cl d0 =>
          unfold atT at hu
          obtain ⟨d1, hd, rfl⟩ := Option.map_eq_some_iff.mp hu
          have r0 := rep_d pr0.1
          unfold atD at hd
          split at hd
          · cases r0 with
            | ins q1 hk s1 =>
              rw [← hk] at hd
              obtain ⟨z, z1, z2⟩ := look_fs s1 hd
              refine ⟨_, _, _, _, z, rfl, r.sub _ _ q1, (y.fld _ f hf).1, (y.fld _ f hf).2, z1, q z ⟨[], ⟨.cl z2, fun a z => absurd z (by simp), fun h' H' t' F2 s fr o nw => ⟨F, fun rt' hr => ?_, fun a z => .inl z⟩⟩, fun a z => absurd z (by simp)⟩⟩
              unfold upP at hr
              rw [hp] at hr
              cases hr
          · cases hd
        | ob cc ns ts =>
          obtain ⟨o0, s0, w0⟩ := pr0
          cases o0 with
          | ob hH hn hk os na =>
            rename_i a dx fs F0
            have hu : lookN ns ts f = some u := hu
            subst hk
            obtain ⟨j, z0, j2, j3, j4, j5⟩ := look_ts os hu
            obtain ⟨z, F1, z1, z2, z3, z4⟩ := os.get j2
            rw [j3] at z1
            cases z1
            refine ⟨a, _, dx, fs, z0, rfl, hH, (y.fld _ f hf).1, (y.fld _ f hf).2, j4, q z0 ⟨F1, ⟨z2, fun b m => s0 b (List.mem_cons_of_mem _ (z3 b m)), fun h' H' t' F2 s fr o nw => ?_⟩, fun b m => in0 b (List.mem_cons_of_mem _ (z3 b m))⟩⟩
            have aF : a ∈ F := s0 a List.mem_cons_self
            have a1 : a ∉ F1 := fun m => na (z3 a m)
            obtain ⟨F3, w3, y3⟩ := z4 h' H' t' F2 s (fun b m n => fr b (s0 b (List.mem_cons_of_mem _ m)) n) o fun b m => (nw b m).imp id fun n m' => n (s0 b (List.mem_cons_of_mem _ m'))
            have a3 : a ∉ F3 := fun m => by
              rcases y3 a m with y | y
              · exact na y
              · rcases nw a y with y | y
                · exact a1 y
                · exact y aF
            obtain ⟨F', wF, yF⟩ := w0 h' H' (.ob cc (fs.map (·.1)) (ts.set j t')) (a :: F3) s (fun b m n => fr b m fun m' => n (List.mem_cons_of_mem _ (z3 b m'))) (.ob ((fr a aF a1).1.trans hH) (fr a aF a1).2 rfl w3 a3) fun b m => by
              rcases List.mem_cons.mp m with rfl | m
              · exact .inl List.mem_cons_self
              · rcases y3 b m with y | y
                · exact .inl (List.mem_cons_of_mem _ y)
                · exact (nw b y).imp (fun m' => List.mem_cons_of_mem _ (z3 b m')) id
            refine ⟨F', fun rt' hr => ?_, fun b m => ?_⟩
            · unfold upP at hr
              rw [hp] at hr
              have hr : (if (lookN (fs.map (·.1)) ts f).isSome = true then upP sl rt p (.ob cc (fs.map (·.1)) (upP.setN f t' (fs.map (·.1)) ts)) else none) = some rt' := hr
              rw [hu, if_pos (show (some u).isSome = true from rfl), j5] at hr
              exact wF rt' hr
            · rcases yF b m with y | y
              · exact .inl y
              · rcases List.mem_cons.mp y with rfl | y
                · exact .inl aF
                · exact (y3 b y).imp (fun m' => s0 b (List.mem_cons_of_mem _ m')) id
        | ls ts => cases hu
        | dc ks ts => cases hu
      · cases hu
    · cases ok
theorem sndX (y : Y.Ok) : ∀ (x : X0) (e : Expr), ok0 Y.I c x e = true → ∃ t, (∀ X, Gd Y c X → PE X e t) ∧ ∀ sl rt, TXs Y sl rt x t
  | .int i, e, ok => by
    unfold ok0 at ok
    split at ok
    · have ok := of_decide_eq_true ok
      subst ok
      refine ⟨tC (.int i), fun X g => pe_int, fun sl rt σ H h vs F r d hd Q q => ?_⟩
      unfold x0 at hd
      cases hd
      exact q _ (.int i)
    · cases ok
  | .str i, e, ok => by
    unfold ok0 at ok
    split at ok
    · have ok := of_decide_eq_true ok
      subst ok
      refine ⟨tC (.str i), fun X g => pe_str, fun sl rt σ H h vs F r d hd Q q => ?_⟩
      unfold x0 at hd
      cases hd
      exact q _ (.str i)
    · cases ok
  | .rd p, e, ok => by
    unfold ok0 at ok
    obtain ⟨ta, pa, ra⟩ := sndP y p e ok
    refine ⟨ta, pa, fun sl rt σ H h vs F r d hd Q q => ?_⟩
    unfold x0 at hd
    split at hd
    · rename_i d0 hp
      split at hd
      · cases hd
        refine ra sl rt σ H h vs F r _ hp _ fun v at0 => ?_
        obtain ⟨F0, pr0, in0⟩ := at0
        exact q v (rep_d pr0.1)
      · cases hd
    · cases hd
  | .add a b, e, ok => by
    unfold ok0 at ok
    split at ok
    · simp only [Bool.and_eq_true] at ok
      obtain ⟨ta, pa, ra⟩ := sndX y a _ ok.1
      obtain ⟨tb, pb, rb⟩ := sndX y b _ ok.2
      refine ⟨tOp (rI0 fun i j => .int (i + j)) ta tb, fun X g => pe_op op_add (pa X g) (pb X g), fun sl rt σ H h vs F r d hd Q q => ?_⟩
      unfold x0 at hd
      split at hd
      · rename_i i j h1 h2
        cases hd
        refine ra sl rt σ H h vs F r _ h1 _ fun v rv => rb sl rt σ H h vs F r _ h2 _ fun w rw' => ?_
        cases rv; cases rw'
        exact ⟨i, j, rfl, rfl, q _ (.int _)⟩
      · cases hd
    · cases ok
  | .sub a b, e, ok => by
    unfold ok0 at ok
    split at ok
    · simp only [Bool.and_eq_true] at ok
      obtain ⟨ta, pa, ra⟩ := sndX y a _ ok.1
      obtain ⟨tb, pb, rb⟩ := sndX y b _ ok.2
      refine ⟨tOp (rI0 fun i j => .int (i - j)) ta tb, fun X g => pe_op op_sub (pa X g) (pb X g), fun sl rt σ H h vs F r d hd Q q => ?_⟩
      unfold x0 at hd
      split at hd
      · rename_i i j h1 h2
        cases hd
        refine ra sl rt σ H h vs F r _ h1 _ fun v rv => rb sl rt σ H h vs F r _ h2 _ fun w rw' => ?_
        cases rv; cases rw'
        exact ⟨i, j, rfl, rfl, q _ (.int _)⟩
      · cases hd
    · cases ok
  | .neg a, e, ok => by
    unfold ok0 at ok
    split at ok
    · obtain ⟨ta, pa, ra⟩ := sndX y a _ ok
      refine ⟨tUn (rU fun i => .int (-i)) ta, fun X g => pe_un un_neg (pa X g), fun sl rt σ H h vs F r d hd Q q => ?_⟩
      unfold x0 at hd
      split at hd
      · rename_i i h1
        cases hd
        refine ra sl rt σ H h vs F r _ h1 _ fun v rv => ?_
        cases rv
        exact ⟨i, rfl, q _ (.int _)⟩
      · cases hd
    · cases ok
  | .len p, e, ok => by
    unfold ok0 at ok
    split at ok
    · rename_i f pf a pos
      simp only [Bool.and_eq_true, decide_eq_true_eq] at ok
      obtain ⟨⟨⟨rfl, h1⟩, h2⟩, h3⟩ := ok
      obtain ⟨ta, pa, ra⟩ := sndP y p a h3
      refine ⟨tCB (rLenP Y.K) (tCons ta tNil), fun X g => by
        have z := g.call (x := "len") (p := pf) (pos := pos) (lenP_ok (X := X)) h1 (g.blt y (by decide +kernel)) (by decide +kernel) (.inl ⟨_, rfl⟩) (by decide +kernel) (by simpa using h2) (pa_one h2 (pa X g))
        rw [g.K] at z
        exact z, fun sl rt σ H h vs F r d hd Q q => ?_⟩
      unfold x0 at hd
      split at hd
      · rename_i u hp
        obtain ⟨n, hn, rfl⟩ := Option.map_eq_some_iff.mp hd
        refine ra sl rt σ H h vs F r u hp _ fun v at0 => ?_
        obtain ⟨F0, pr0, in0⟩ := at0
        rcases lenT_ok r.sub pr0.1 hn with ⟨m, rfl, lv⟩ | ⟨a, kvs, rfl, rfl, hd'⟩
        · exact .inl ⟨v, m, rfl, lv, q _ (.int _)⟩
        · exact .inr ⟨a, kvs, rfl, hd', q _ (.int _)⟩
      · cases hd
    · cases ok
end
end
end Mi
namespace Mi
open PySem PySem.Spec PyProof.Rows L2
structure Wk (K : PySem.W.Frag) (C : Nat → Addr) (J : L2.It) (ds : List D) (S : Hp → Hp → Prop) : Prop where
  go : ∀ i h H, S h H → Same h H → i < ds.length → J.go i H
  yl : ∀ i h H x H', S h H → Same h H → J.yld i H x H' → i < ds.length → ∃ d h', ds[i]? = some d ∧ Grew h H h' H' ∧ Rep K C h' x d
  stop : ∀ h H, S h H → Same h H → J.stop ds.length H
  up : ∀ h H h' H', S h H → Same h h' → Same h' H' → Same H H' → S h' H'
def Clo (S : Hp → Hp → Prop) : Prop := ∀ h H h' H', S h H → Same h h' → Same h' H' → S h' H'
theorem PI.or {X : Cx} {tg e : Expr} {a b : TI} (ha : PI X tg e a) (hb : PI X tg e b) : PI X tg e (fun σ H R => a σ H R ∨ b σ H R) :=
  ⟨fun pins s σ H R I h => h.elim (ha.run pins s σ H R I) (hb.run pins s σ H R I)⟩
section
variable {K : PySem.W.Frag} {C : Nat → Addr}
def SL (K : PySem.W.Frag) (C : Nat → Addr) (a : Addr) (ds : List D) (h H : Hp) : Prop := ∃ vs, SqL K H a vs ∧ Reps K C h vs ds
def SLc (K : PySem.W.Frag) (C : Nat → Addr) (a : Addr) (ds : List D) (h H : Hp) : Prop := ∃ vs, SqL K h a vs ∧ Reps K C h vs ds
def STc (K : PySem.W.Frag) (C : Nat → Addr) (a : Addr) (ds : List D) (h H : Hp) : Prop := ∃ vs, SqT K h a vs ∧ Reps K C h vs ds
theorem SLc.to {a : Addr} {ds : List D} {h H : Hp} (e : Same h H) (s : SLc K C a ds h H) : SL K C a ds h H := let ⟨vs, q, r⟩ := s; ⟨vs, e.seq q, r⟩
theorem clo_SLc {a : Addr} {ds : List D} : Clo (SLc K C a ds) := fun _ _ _ _ ⟨vs, q, r⟩ e _ => ⟨vs, e.seq q, r.mono e⟩
theorem clo_STc {a : Addr} {ds : List D} : Clo (STc K C a ds) := fun _ _ _ _ ⟨vs, q, r⟩ e _ => ⟨vs, sqT_same e q, r.mono e⟩
theorem reps_at {h : Hp} {vs : List V} {ds : List D} {i : Nat} {x : V} (r : Reps K C h vs ds) (e : vs[i]? = some x) : ∃ d, ds[i]? = some d ∧ Rep K C h x d := by
  have hi : i < ds.length := by
    have := (List.getElem?_eq_some_iff.mp e).1
    rw [r.length] at this
    exact this
  obtain ⟨v, v1, v2⟩ := r.get (List.getElem?_eq_getElem hi)
  rw [e] at v1
  cases v1
  exact ⟨_, List.getElem?_eq_getElem hi, v2⟩
theorem reps_in {h : Hp} {vs : List V} {ds : List D} {i : Nat} (r : Reps K C h vs ds) (hi : i < ds.length) : ∃ x, vs[i]? = some x := ⟨_, List.getElem?_eq_getElem (by rw [r.length]; exact hi)⟩
theorem wk_list {a : Addr} {ds : List D} : Wk K C (Itl K a) ds (SL K C a ds) where
  go := fun i h H ⟨vs, q, r⟩ e hi => let ⟨x, hx⟩ := reps_in r hi; ⟨vs, x, q, hx⟩
  yl := fun i h H x H' ⟨vs, q, r⟩ e hy hi => by
    obtain ⟨e1, e2⟩ := hy
    subst e1
    obtain ⟨d, d1, d2⟩ := reps_at r (e2 vs q)
    exact ⟨d, h, d1, Grew.refl e, d2⟩
  stop := fun h H ⟨vs, q, r⟩ e => ⟨vs, q, Nat.le_of_eq r.length⟩
  up := fun h H h' H' ⟨vs, q, r⟩ e1 e2 e3 => ⟨vs, e3.seq q, r.mono e1⟩
theorem Wk.imp {J : L2.It} {ds : List D} {S S' : Hp → Hp → Prop} (w : Wk K C J ds S) (k : ∀ h H, Same h H → S' h H → S h H) (u : ∀ h H h' H', S' h H → Same h h' → Same h' H' → Same H H' → S' h' H') : Wk K C J ds S' where
  go := fun i h H s e => w.go i h H (k h H e s) e
  yl := fun i h H x H' s e => w.yl i h H x H' (k h H e s) e
  stop := fun h H s e => w.stop h H (k h H e s) e
  up := u
theorem wk_tup {a : Addr} {ds : List D} : Wk K C (Itt K a) ds (STc K C a ds) where
  go := fun i h H ⟨vs, q, r⟩ e hi => let ⟨x, hx⟩ := reps_in r hi; ⟨vs, x, sqT_same e q, hx⟩
  yl := fun i h H x H' ⟨vs, q, r⟩ e hy hi => by
    obtain ⟨e1, e2⟩ := hy
    subst e1
    obtain ⟨d, d1, d2⟩ := reps_at r (e2 vs (sqT_same e q))
    exact ⟨d, h, d1, Grew.refl e, d2⟩
  stop := fun h H ⟨vs, q, r⟩ e => ⟨vs, sqT_same e q, Nat.le_of_eq r.length⟩
  up := fun h H h' H' s e1 e2 _ => clo_STc h H h' H' s e1 e2
theorem rngD_get {lo : Int} {n i : Nat} (hi : i < n) : (rngD lo n)[i]? = some (.int (lo + i)) := by
  unfold rngD
  rw [List.getElem?_map, List.getElem?_range hi]
  rfl
theorem rngD_len {lo : Int} {n : Nat} : (rngD lo n).length = n := by
  unfold rngD
  rw [List.length_map, List.length_range]
theorem wk_rng {lo : Int} {n : Nat} : Wk K C (Itr lo n) (rngD lo n) (fun _ _ => True) where
  go := fun i h H _ e hi => by rw [rngD_len] at hi; exact hi
  yl := fun i h H x H' _ e hy hi => by
    obtain ⟨e1, e2⟩ := hy
    subst e1
    subst e2
    rw [rngD_len] at hi
    exact ⟨_, h, rngD_get hi, Grew.refl e, .int _⟩
  stop := fun h H _ e => by rw [rngD_len]; exact Nat.le_refl _
  up := fun _ _ _ _ _ _ _ _ => trivial
theorem enumD_get : ∀ {ds : List D} {k i : Nat} {d : D}, ds[i]? = some d → (enumD k ds)[i]? = some (.tup [.int ((k + i : Nat) : Int), d])
  | [], _, _, _, e => by simp at e
  | x :: ds, k, 0, d, e => by
    cases e
    rfl
  | x :: ds, k, i + 1, d, e => by
    have ih := enumD_get (ds := ds) (k := k + 1) (i := i) (d := d) (by simpa using e)
    show (enumD (k + 1) ds)[i]? = _
    rw [ih]
    have : k + 1 + i = k + (i + 1) := by omega
    rw [this]
theorem enumD_len : ∀ (ds : List D) (k : Nat), (enumD k ds).length = ds.length
  | [], _ => rfl
  | _ :: ds, k => congrArg (· + 1) (enumD_len ds (k + 1))
theorem grew_pair {h H : Hp} {t : Addr} {x y : V} {d d' : D} (e : Same h H) (n : H t = none) (r1 : Rep K C h x d) (r2 : Rep K C h y d') :
    Grew h H (upd h t (.tup [x, y])) (upd H t (.tup [x, y])) ∧ Rep K C (upd h t (.tup [x, y])) (.ref t) (.tup [d, d']) := by
  have g : Grew h H (upd h t (.tup [x, y])) (upd H t (.tup [x, y])) := upd_grew e n
  exact ⟨g, .tup (SqT.of upd_same) (.cons (r1.mono g.sml) (.cons (r2.mono g.sml) .nil))⟩
theorem wk_enum {a : Addr} {ds : List D} : Wk K C (Ite K a) (enumD 0 ds) (SL K C a ds) where
  go := fun i h H ⟨vs, q, r⟩ e hi => let ⟨x, hx⟩ := reps_in r (by rw [enumD_len] at hi; exact hi); ⟨vs, x, q, hx⟩
  yl := fun i h H x H' ⟨vs, q, r⟩ e hy hi => by
    obtain ⟨t, y, rfl, hn, rfl, e2⟩ := hy
    obtain ⟨d, d1, d2⟩ := reps_at r (e2 vs q)
    obtain ⟨g, rp⟩ := grew_pair (K := K) (C := C) (x := V.int (i : Nat)) (d := D.int (i : Nat)) e hn (.int _) d2
    refine ⟨_, _, enumD_get d1, g, ?_⟩
    rw [Nat.zero_add]
    exact rp
  stop := fun h H ⟨vs, q, r⟩ e => by rw [enumD_len]; exact ⟨vs, q, Nat.le_of_eq r.length⟩
  up := fun h H h' H' ⟨vs, q, r⟩ e1 e2 e3 => ⟨vs, e3.seq q, r.mono e1⟩
theorem wk_enumT {a : Addr} {ds : List D} : Wk K C (IteT K a) (enumD 0 ds) (STc K C a ds) where
  go := fun i h H ⟨vs, q, r⟩ e hi => let ⟨x, hx⟩ := reps_in r (by rw [enumD_len] at hi; exact hi); ⟨vs, x, sqT_same e q, hx⟩
  yl := fun i h H x H' ⟨vs, q, r⟩ e hy hi => by
    obtain ⟨t, y, rfl, hn, rfl, e2⟩ := hy
    obtain ⟨d, d1, d2⟩ := reps_at r (e2 vs (sqT_same e q))
    obtain ⟨g, rp⟩ := grew_pair (K := K) (C := C) (x := V.int (i : Nat)) (d := D.int (i : Nat)) e hn (.int _) d2
    refine ⟨_, _, enumD_get d1, g, ?_⟩
    rw [Nat.zero_add]
    exact rp
  stop := fun h H ⟨vs, q, r⟩ e => by rw [enumD_len]; exact ⟨vs, sqT_same e q, Nat.le_of_eq r.length⟩
  up := fun h H h' H' s e1 e2 _ => clo_STc h H h' H' s e1 e2
theorem zipD_get : ∀ {as bs : List D} {i : Nat} {a b : D}, as[i]? = some a → bs[i]? = some b → (zipD as bs)[i]? = some (.tup [a, b])
  | [], _, _, _, _, e, _ => by simp at e
  | _ :: _, [], _, _, _, _, e => by simp at e
  | x :: as, y :: bs, 0, a, b, e1, e2 => by
    cases e1
    cases e2
    rfl
  | x :: as, y :: bs, i + 1, a, b, e1, e2 => zipD_get (as := as) (bs := bs) (i := i) (by simpa using e1) (by simpa using e2)
theorem zipD_len : ∀ (as bs : List D), (zipD as bs).length = min as.length bs.length
  | [], bs => by rw [List.length_nil, Nat.zero_min]; cases bs <;> rfl
  | _ :: _, [] => by rw [List.length_nil, Nat.min_zero]; rfl
  | _ :: as, _ :: bs => by
    show (zipD as bs).length + 1 = _
    rw [zipD_len as bs, List.length_cons, List.length_cons, Nat.add_min_add_right]
theorem wk_zip {a b : Addr} {ds es : List D} : Wk K C (Itz K a b) (zipD ds es) (fun h H => SL K C a ds h H ∧ SL K C b es h H) where
  go := fun i h H ⟨⟨vs, q, r⟩, ⟨ws, q', r'⟩⟩ e hi => by
    rw [zipD_len] at hi
    obtain ⟨x, hx⟩ := reps_in r (Nat.lt_of_lt_of_le hi (Nat.min_le_left _ _))
    obtain ⟨y, hy⟩ := reps_in r' (Nat.lt_of_lt_of_le hi (Nat.min_le_right _ _))
    exact ⟨vs, ws, x, y, q, q', hx, hy⟩
  yl := fun i h H x H' ⟨⟨vs, q, r⟩, ⟨ws, q', r'⟩⟩ e hy hi => by
    obtain ⟨t, x, y, rfl, hn, rfl, e2, e3⟩ := hy
    obtain ⟨d, d1, d2⟩ := reps_at r (e2 vs q)
    obtain ⟨d', d1', d2'⟩ := reps_at r' (e3 ws q')
    obtain ⟨g, rp⟩ := grew_pair (K := K) (C := C) e hn d2 d2'
    exact ⟨_, _, zipD_get d1 d1', g, rp⟩
  stop := fun h H ⟨⟨vs, q, r⟩, ⟨ws, q', r'⟩⟩ e => by
    rw [zipD_len]
    refine ⟨vs, ws, q, q', ?_⟩
    rw [r.length, r'.length]
    omega
  up := fun h H h' H' ⟨⟨vs, q, r⟩, ⟨ws, q', r'⟩⟩ e1 e2 e3 => ⟨⟨vs, e3.seq q, r.mono e1⟩, ⟨ws, e3.seq q', r'.mono e1⟩⟩
theorem wk_zipT {a b : Addr} {ds es : List D} : Wk K C (RZ.ItzT K a b) (zipD ds es) (fun h H => STc K C a ds h H ∧ STc K C b es h H) where
  go := fun i h H ⟨⟨vs, q, r⟩, ⟨ws, q', r'⟩⟩ e hi => by
    rw [zipD_len] at hi
    obtain ⟨x, hx⟩ := reps_in r (Nat.lt_of_lt_of_le hi (Nat.min_le_left _ _))
    obtain ⟨y, hy⟩ := reps_in r' (Nat.lt_of_lt_of_le hi (Nat.min_le_right _ _))
    exact ⟨vs, ws, x, y, sqT_same e q, sqT_same e q', hx, hy⟩
  yl := fun i h H x H' ⟨⟨vs, q, r⟩, ⟨ws, q', r'⟩⟩ e hy hi => by
    obtain ⟨t, x, y, rfl, hn, rfl, e2, e3⟩ := hy
    obtain ⟨d, d1, d2⟩ := reps_at r (e2 vs (sqT_same e q))
    obtain ⟨d', d1', d2'⟩ := reps_at r' (e3 ws (sqT_same e q'))
    obtain ⟨g, rp⟩ := grew_pair (K := K) (C := C) e hn d2 d2'
    exact ⟨_, _, zipD_get d1 d1', g, rp⟩
  stop := fun h H ⟨⟨vs, q, r⟩, ⟨ws, q', r'⟩⟩ e => by
    rw [zipD_len]
    refine ⟨vs, ws, sqT_same e q, sqT_same e q', ?_⟩
    rw [r.length, r'.length]
    omega
  up := fun h H h' H' ⟨s1, s2⟩ e1 e2 _ => ⟨clo_STc h H h' H' s1 e1 e2, clo_STc h H h' H' s2 e1 e2⟩
end
end Mi
namespace Mi
open PySem PySem.Spec PyProof.Rows L2
mutual
def E.q : E → Bool
  | .bin _ a b => a.q && b.q
  | .neg a => a.q
  | .cmp _ a b => a.q && b.q
  | .inn _ a _ => a.q
  | .idx a e => a.q && e.q
  | .popi _ _ => false
  | .kls _ => true
  | .chn _ _ a b d => a.q && b.q && d.q
  | .dcc _ _ it kx vx => it.q && (kx.q && vx.q)
  | .and a b => a.q && b.q
  | .or a b => a.q && b.q
  | .not a => a.q
  | .ife t a b => t.q && a.q && b.q
  | .tup es => es.q
  | .lst es => es.q
  | .ix a i => a.q && i.q
  | .sl a _ _ => a.q
  | .rev a => a.q
  | .sls a _ _ => a.q
  | .methS _ _ _ o es => o.q && es.q
  | .callS _ es => es.q
  | .methD _ _ _ o es kw _ _ => o.q && (es.q && kw.q)
  | .mkD _ _ es kw _ _ => es.q && kw.q
  | .oop _ _ _ a b => a.q && b.q
  | .lc2 _ _ _ it _ it1 elt => it.q && it1.q && elt.q
  | .at a _ => a.q
  | .call _ es kw _ => es.q && kw.q
  | .f1 _ a => a.q
  | .f2 _ a b => a.q && b.q
  | .lrg1 _ b => b.q
  | .lrg2 _ a b => a.q && b.q
  | .pop _ => false
  | .lc _ _ it cond elt => it.q && cond.q && elt.q
  | .dct _ es => es.q
  | .isi _ a => a.q
  | .mk _ _ es kw _ => es.q && kw.q
  | .mkS _ _ e _ => e.q
  | .meth _ _ _ o es kw _ => o.q && (es.q && kw.q)
  | .prop _ _ _ o => o.q
  | .olen _ _ o => o.q
  | .oeq _ _ a b => a.q && b.q
  | _ => true
def Es.q : Es → Bool
  | .nil => true
  | .cons e r => e.q && r.q
  | .mut _ _ => false
  | .star e r => e.q && r.q
def It.q : It → Bool
  | .rng1 a => a.q
  | .rng2 a b => a.q && b.q
  | .seq a => a.q
  | .pth _ => true
  | .enum a => a.q
  | .enumP _ => true
  | .zip a b => a.q && b.q
end
def It.clo : It → Bool
  | .pth _ => false
  | .enumP _ => false
  | _ => true
def E.noIf : E → Bool
  | .ife _ _ _ => false
  | .and a b => a.noIf && b.noIf
  | .or a b => a.noIf && b.noIf
  | .not a => a.noIf
  | _ => true
def E.isGet : E → Bool
  | .get _ => true
  | _ => false
def opIs : BOp → Operator → Bool
  | .add, .Add => true | .sub, .Sub => true | .mul, .Mult => true | .fdiv, .FloorDiv => true | .mod, .Mod => true | .pow, .Pow => true
  | _, _ => false
def cmIs : COp → CmpOp → Bool
  | .eq, .Eq => true | .ne, .NotEq => true | .lt, .Lt => true | .le, .LtE => true | .gt, .Gt => true | .ge, .GtE => true | .isn, .Is => true | .notn, .IsNot => true | .ist, .Is => true | .notist, .IsNot => true
  | _, _ => false
def F1.nm : F1 → Str
  | .len => "len" | .int => "int" | .str => "str" | .repr => "repr" | .tuple => "tuple" | .list => "list" | .sum => "sum" | .max => "max" | .min => "min" | .abs => "abs" | .all => "all" | .any => "any" | .sorted => "sorted"
def F2.nm : F2 → Str
  | .max => "max" | .min => "min"
def notCall0 : Expr → Bool
  | .Call _ [] [] _ => false
  | _ => true
def isTup : Expr → Bool
  | .Tuple _ _ _ => true
  | _ => false
def noSet : Expr → Bool
  | .Set _ _ _ => false
  | _ => true
def ownOf (c : Ck) (own : List Nat) : List (Str × Nat) := own.map fun i => (c.N.getD i "", i)
def Ck.blk (c : Ck) (scope : Scope) : Ck := ⟨relS scope c.sc, c.N, fun x => scope.names.lookup x == some .cell⟩
def keyS : List Key → List (Option Expr) → Bool
  | [], [] => true
  | .inr s :: ks, some (.Constant (.str t) _ _) :: es => decide (s = t) && keyS ks es
  | .inl s :: ks, some (.Constant (.int t) _ _) :: es => decide (s = t) && keyS ks es
  | _, _ => false
def okTyB (c : Ck) (n : Str) : Expr → Bool
  | .Name x _ => decide (x = n) && glo c n && (["bool", "int", "str", "tuple", "list", "dict"] : List Str).contains n
  | _ => false
def okTyO (I : Inf) (c : Ck) (k n : Nat) : Expr → Bool
  | .Name x _ => decide (I.cls[k]? = some x) && glo c x && plainN x && I.isc && decide (n = I.cls.length) && decide (k < n)
  | _ => false
def okTy (I : Inf) (c : Ck) : Ty → Expr → Bool
  | .bi n, e => okTyB c n e
  | .own k n, e => okTyO I c k n e
def oneEs : Es → Bool
  | .cons _ .nil => true
  | .mut _ .nil => true
  | _ => false
def okO (I : Inf) (c : Ck) : Option X0 → Option Expr → Bool
  | none, none => true
  | some x, some e => ok0 I c x e
  | _, _ => false
mutual
def okE (I : Inf) (c : Ck) : E → Expr → Bool
  | .int i, e => match e with | .Constant (.int j) _ _ => decide (i = j) | _ => false
  | .bl i, e => match e with | .Constant (.bool j) _ _ => decide (i = j) | _ => false
  | .non, e => match e with | .Constant .none _ _ => true | _ => false
  | .str i, e => match e with | .Constant (.str j) _ _ => decide (i = j) | _ => false
  | .glb x, e => match e with | .Name y _ => decide (x = y) && glo c x && plainN x && (I.glb.lookup x).isSome | _ => false
  | .x x, e => ok0 I c x e
  | .get p, e => okP I c p e
  | .bin op a b, e => match e with | .BinOp x o y _ => opIs op o && okE I c a x && okE I c b y | _ => false
  | .neg a, e => match e with | .UnaryOp .USub x _ => okE I c a x | _ => false
  | .cmp op a b, e => match e with | .Compare x [o] [y] _ => cmIs op o && okE I c a x && okE I c b y | _ => false
  | .dn, e => match e with | .Dict [] [] _ => true | _ => false
  | .dcc own tg it kx vx, e => match e with
    | .DictComp k v [⟨t, iter, [], 0⟩] scope _ => blkC c.N c.sc scope (ownOf c own) && okI I c it t iter && okT (c.blk scope) tg t && it.clo && decide (∀ i ∈ tg.slots, i ∈ own) && okE I (c.blk scope) kx k && okE I (c.blk scope) vx v
    | _ => false
  | .kls p, e => match e with | .Call (.Name x _) [y] [] _ => decide (x = F1.list.nm) && glo c F1.list.nm && noStar y && okP I c p y | _ => false
  | .popi i a, e => match e with | .Call (.Attribute x m ap) [v] [] cp => decide (m = ("pop" : Str)) && (ap.endLine == cp.line) && okP I c (.var i) x && noStar v && okE I c a v | _ => false
  | .chn o p a b d, e => match e with | .Compare x [f, g] [y, z] _ => cmIs o f && cmIs p g && okE I c a x && okE I c b y && okE I c d z | _ => false
  | .idx a b, e => match e with | .Call (.Attribute x m ap) [v] [] cp => decide (m = ("index" : Str)) && (ap.endLine == cp.line) && a.isGet && okE I c a x && noStar v && okE I c b v | _ => false
  | .inn n a p, e => match e with | .Compare x [o] [y] _ => (match o with | .In => !n | .NotIn => n | _ => false) && noSet y && okE I c a x && okP I c p y | _ => false
  | .emp n p, e => match e with | .Compare x [o] [.List [] _] _ => cmIs (if n then .ne else .eq) o && okP I c p x | _ => false
  | .and a b, e => match e with
    | .BoolOp .And [x, y] _ => okE I c a x && okE I c b y
    | .BoolOp .And (x :: y :: z :: r) p => okE I c a x && okE I c b (.BoolOp .And (y :: z :: r) p)
    | _ => false
  | .or a b, e => match e with
    | .BoolOp .Or [x, y] _ => okE I c a x && okE I c b y
    | .BoolOp .Or (x :: y :: z :: r) p => okE I c a x && okE I c b (.BoolOp .Or (y :: z :: r) p)
    | _ => false
  | .not a, e => match e with | .UnaryOp .Not x _ => a.noIf && okE I c a x | _ => false
  | .ife t a b, e => match e with | .IfExp x y z _ => t.noIf && okE I c t x && okE I c a y && okE I c b z | _ => false
  | .tup es, e => match e with | .Tuple xs _ _ => okEs I c es xs | _ => false
  | .lst es, e => match e with | .List xs _ => okEs I c es xs | _ => false
  | .ix a i, e => match e with | .Subscript x y _ => noSlice y && okE I c a x && okE I c i y | _ => false
  | .sl a lo hi, e => match e with | .Subscript x (.Slice l h none _) _ => okE I c a x && okO I c lo l && okO I c hi h | _ => false
  | .sls a lo st, e => match e with | .Subscript x (.Slice l none (some s) _) _ => okE I c a x && okO I c lo l && ok0 I c st s | _ => false
  | .methS cc m f o es, e => match e with
    | .Call (.Attribute x g ap) as [] cp => decide (g = m) && decide (I.cls ≠ []) && decide (f < I.fnm.length) && decide ((f, cc, m) ∈ I.mth) && notCall0 x && (ap.endLine == cp.line || notName x) && decide (as.length + 1 < 30) && oneEs o && okEs I c o [x] && as.all noStar && okEs I c es as && decide ((f, 1) ∈ I.str)
    | _ => false
  | .callS f es, e => match e with
    | .Call (.Name x _) as [] _ => (decide (I.fnm[f]? = some x) && decide (x ≠ "")) && glo c x && plainN x && as.all noStar && okEs I c es as && decide ((f, 0) ∈ I.str)
    | _ => false
  | .oop cc f op a b, e => match e with
    | .BinOp x o y _ => opIs op o && decide (f < I.fnm.length) && decide ((f, cc, op) ∈ I.opr) && okE I c a x && okE I c b y && decide ((f, 2, ([] : List Str), [0, 1]) ∈ I.pat)
    | _ => false
  | .lc2 own own1 tg it tg1 it1 elt, e => match e with
    | .ListComp el [⟨t, iter, [], 0⟩, ⟨t1, iter1, [], 0⟩] scope _ => blkC c.N c.sc scope (ownOf c own) && okI I c it t iter && okT (c.blk scope) tg t && okI I (c.blk scope) it1 t1 iter1 && okT (c.blk scope) tg1 t1 && (it.clo && it1.clo) && decide (∀ i ∈ tg.slots, i ∈ own) &&
        (decide (∀ i ∈ tg1.slots, i ∈ own1) && decide (∀ i ∈ own1, i ∈ own)) && okE I (c.blk scope) elt el
    | _ => false
  | .methD cc m f o es kw dv pm, e => match e with
    | .Call (.Attribute x g ap) as ks cp => decide (g = m) && decide (I.cls ≠ []) && decide (f < I.fnm.length) && decide ((f, cc, m) ∈ I.mth) && notCall0 x && (ap.endLine == cp.line || notName x) && decide (as.length + ks.length + 1 < 30) && oneEs o && okEs I c o [x] && as.all noStar && ks.all (fun k => k.arg.isSome) &&
        okEs I c es as && okKs I c kw ks && decide ((f, as.length + 1, kwNames ks, dv, pm) ∈ I.pad)
    | _ => false
  | .mkD cc f es kw dv pm, e => match e with
    | .Call (.Name x _) as ks _ => decide (I.cls[cc]? = some x) && decide (f < I.fnm.length) && decide ((f, cc) ∈ I.ini) && glo c x && plainN x && as.all noStar && ks.all (fun k => k.arg.isSome) && okEs I c es as && okKs I c kw ks && decide ((f, as.length + 1, kwNames ks, dv, pm) ∈ I.pad)
    | _ => false
  | .rev a, e => match e with | .Subscript x (.Slice none none (some (.UnaryOp .USub (.Constant (.int 1) _ _) _)) _) _ => okE I c a x | _ => false
  | .at a f, e => match e with | .Attribute x g _ => decide (f = g) && I.fld.contains f && notCall0 x && okE I c a x | _ => false
  | .call f es kw pm, e => match e with
    | .Call (.Name x _) as ks _ => (decide (I.fnm[f]? = some x) && decide (x ≠ "")) && glo c x && plainN x && as.all noStar && ks.all (fun k => k.arg.isSome) && okEs I c es as && okKs I c kw ks && decide ((f, as.length, kwNames ks, pm) ∈ I.pat)
    | _ => false
  | .f1 f a, e => match e with | .Call (.Name x _) [y] [] _ => decide (x = f.nm) && glo c f.nm && noStar y && okE I c a y | _ => false
  | .f1p f p, e => match e with | .Call (.Name x _) [y] [] _ => decide (x = f.nm) && glo c f.nm && noStar y && okP I c p y | _ => false
  | .f2 f a b, e => match e with | .Call (.Name x _) [y, z] [] _ => decide (x = f.nm) && glo c f.nm && noStar y && noStar z && okE I c a y && okE I c b z | _ => false
  | .lrg1 tu b, e => match e with
    | .Call (.Name x _) [.Call (.Name y _) [z] [] _] [] _ => decide (x = (if tu then "tuple" else "list" : Str)) && decide (y = ("range" : Str)) && glo c (if tu then "tuple" else "list") && glo c "range" && noStar z && okE I c b z
    | _ => false
  | .lrg2 tu a b, e => match e with
    | .Call (.Name x _) [.Call (.Name y _) [z, w] [] _] [] _ => decide (x = (if tu then "tuple" else "list" : Str)) && decide (y = ("range" : Str)) && glo c (if tu then "tuple" else "list") && glo c "range" && noStar z && noStar w && okE I c a z && okE I c b w
    | _ => false
  | .pop p, e => match e with | .Call (.Attribute x m ap) [] [] cp => decide (m = ("pop" : Str)) && (ap.endLine == cp.line) && okP I c p x | _ => false
  | .lc own tg it cond elt, e => match e with
    | .ListComp el [⟨t, iter, ifs, 0⟩] scope _ => blkC c.N c.sc scope (ownOf c own) && okI I c it t iter && okT (c.blk scope) tg t && (it.clo || (cond.q && elt.q)) && cond.noIf && decide (∀ i ∈ tg.slots, i ∈ own) &&
        (match ifs with
          | [] => (match cond with | .bl true => true | _ => false)
          | [x] => okE I (c.blk scope) cond x
          | _ => false) && okE I (c.blk scope) elt el
    | _ => false
  | .dct ks es, e => match e with | .Dict keys vs _ => keyS ks keys && decide (keys.length = vs.length) && vs.all noStar && okEs I c es vs | _ => false
  | .isi t a, e => match e with | .Call (.Name x _) [y, z] [] _ => decide (x = ("isinstance" : Str)) && glo c "isinstance" && noStar y && noStar z && okE I c a y && okTy I c t z | _ => false
  | .mk cc f es kw pm, e => match e with
    | .Call (.Name x _) as ks _ => decide (I.cls[cc]? = some x) && decide (f < I.fnm.length) && decide ((f, cc) ∈ I.ini) && glo c x && plainN x && as.all noStar && ks.all (fun k => k.arg.isSome) && okEs I c es as && okKs I c kw ks && decide ((f, as.length + 1, kwNames ks, pm) ∈ I.pat)
    | _ => false
  | .mkS cc f a pm, e => match e with
    | .Call (.Name x _) [.Starred z _] [] _ => decide (I.cls[cc]? = some x) && decide (f < I.fnm.length) && decide ((f, cc) ∈ I.ini) && glo c x && plainN x && okE I c a z && decide ((f, pm.length, ([] : List Str), pm) ∈ I.pat)
    | _ => false
  | .meth cc m f o es kw pm, e => match e with
    | .Call (.Attribute x g ap) as ks cp => decide (g = m) && decide (I.cls ≠ []) && decide (f < I.fnm.length) && decide ((f, cc, m) ∈ I.mth) && notCall0 x && (ap.endLine == cp.line || notName x) && decide (as.length + ks.length + 1 < 30) && oneEs o && okEs I c o [x] && as.all noStar && ks.all (fun k => k.arg.isSome) &&
        okEs I c es as && okKs I c kw ks && decide ((f, as.length + 1, kwNames ks, pm) ∈ I.pat)
    | _ => false
  | .prop cc m f o, e => match e with
    | .Attribute x g _ => decide (g = m) && decide (I.cls ≠ []) && decide (f < I.fnm.length) && decide ((f, cc, m) ∈ I.prp) && notCall0 x && oneEs o && okEs I c o [x] && decide ((f, 1, ([] : List Str), [0]) ∈ I.pat)
    | _ => false
  | .olen cc f o, e => match e with
    | .Call (.Name y _) [x] [] _ => decide (y = ("len" : Str)) && glo c "len" && noStar x && decide (f < I.fnm.length) && decide ((f, cc, ("__len__" : Str)) ∈ I.mth) && oneEs o && okEs I c o [x] && decide ((f, 1, ([] : List Str), [0]) ∈ I.pat)
    | _ => false
  | .oeq cc f a b, e => match e with
    | .Compare x [.Eq] [y] _ => decide (f < I.fnm.length) && decide ((f, cc, ("__eq__" : Str)) ∈ I.mth) && okE I c a x && okE I c b y && decide ((f, 2, ([] : List Str), [0, 1]) ∈ I.pat)
    | _ => false
def okEs (I : Inf) (c : Ck) : Es → List Expr → Bool
  | .nil, xs => match xs with | [] => true | _ => false
  | .cons e r, xs => match xs with | x :: xs => noStar x && okE I c e x && okEs I c r xs | _ => false
  | .mut i r, xs => match xs with | x :: xs => noStar x && okP I c (.var i) x && okEs I c r xs | _ => false
  | .star e r, xs => match xs with | .Starred x _ :: xs => okE I c e x && okEs I c r xs | _ => false
def okKs (I : Inf) (c : Ck) : Es → List Keyword → Bool
  | .nil, xs => match xs with | [] => true | _ => false
  | .cons e r, xs => match xs with | ⟨_, x, _⟩ :: xs => okE I c e x && okKs I c r xs | _ => false
  | .mut i r, xs => match xs with | ⟨_, x, _⟩ :: xs => okP I c (.var i) x && okKs I c r xs | _ => false
  | .star _ _, _ => false
def okI (I : Inf) (c : Ck) : It → Expr → Expr → Bool
  | .rng1 a, _, e => match e with | .Call (.Name x _) [y] [] _ => decide (x = ("range" : Str)) && glo c "range" && noStar y && okE I c a y | _ => false
  | .rng2 a b, _, e => match e with | .Call (.Name x _) [y, z] [] _ => decide (x = ("range" : Str)) && glo c "range" && noStar y && noStar z && okE I c a y && okE I c b z | _ => false
  | .seq a, _, e => noSet e && okE I c a e
  | .pth p, _, e => noSet e && okP I c p e
  | .enum a, t, e => match e with | .Call (.Name x _) [y] [] _ => decide (x = ("enumerate" : Str)) && isTup t && glo c "enumerate" && noStar y && okE I c a y | _ => false
  | .enumP a, t, e => match e with | .Call (.Name x _) [y] [] _ => decide (x = ("enumerate" : Str)) && isTup t && glo c "enumerate" && noStar y && okP I c a y | _ => false
  | .zip a b, t, e => match e with | .Call (.Name x _) [y, z] [] _ => decide (x = ("zip" : Str)) && isTup t && glo c "zip" && noStar y && noStar z && okE I c a y && okE I c b z | _ => false
end
section
variable (Y : Fx)
def ROk (σ : L2.St) (H h : Hp) (sl : Sl) (rt' : Rt) (vs : List V) (F : List Addr) (q : Bool) (Q : VK) (t : T) : Prop :=
  ∀ v H' h' F' G, Stp F h H F' h' H' → Rel Y.K Y.C σ H' h' sl rt' vs F' → Own Y.K Y.C h' H' v t G → (∀ a, a ∈ G → a ∉ F') → (∀ a, a ∈ G → a ∈ F ∨ H a = none) → (q = true → Same H H') → Q v H'
def DOk (σ : L2.St) (H h : Hp) (sl : Sl) (rt' : Rt) (vs : List V) (F : List Addr) (q : Bool) (Q : VK) (d : D) : Prop :=
  ∀ v H' h' F', Stp F h H F' h' H' → Rel Y.K Y.C σ H' h' sl rt' vs F' → Rep Y.K Y.C h' v d → (q = true → Same H H') → Q v H'
def BOk (σ : L2.St) (H h : Hp) (sl : Sl) (rt' : Rt) (vs : List V) (F : List Addr) (q : Bool) (Q : Bool → Hp → Prop) (b : Bool) : Prop :=
  ∀ H' h' F', Stp F h H F' h' H' → Rel Y.K Y.C σ H' h' sl rt' vs F' → (q = true → Same H H') → Q b H'
def cfg (np : Nat) : Cfg := ⟨Y.F, np, Y.I.glb⟩
def RE (e : E) (t : TE) : Prop := ∀ np mv sl σ H h rt vs F tr rt', Rel Y.K Y.C σ H h sl rt vs F → ev (cfg Y np) mv sl e rt = some (tr, rt') → ∀ Q, ROk Y σ H h sl rt' vs F e.q Q tr → t σ H Q
def SE (c : Ck) (e : E) (a : Expr) : Prop := ∃ t, (∀ X, Gd Y c X → PE X a t) ∧ RE Y e t
def isBo : Expr → Bool
  | .BoolOp _ _ _ => true
  | _ => false
def RT (e : E) (t : TT) : Prop := ∀ np sl σ H h rt vs F b rt', Rel Y.K Y.C σ H h sl rt vs F → tstOf (ev (cfg Y np) false sl e rt) = some (b, rt') → ∀ Q, BOk Y σ H h sl rt' vs F e.q Q b → t σ H Q
def STs (c : Ck) (e : E) (a : Expr) : Prop := e.noIf = true → ∃ t, (∀ X, Gd Y c X → PT X a t ∧ (isBo a = true → PW X a t)) ∧ RT Y e t
def RAs (es : Es) (t : TA) : Prop := ∀ np mv sl σ H h rt vs F ts rt', Rel Y.K Y.C σ H h sl rt vs F → evs (cfg Y np) mv sl es rt = some (ts, rt') → ∀ Q : List V → Hp → Prop,
  (∀ ws H' h' F' G, Stp F h H F' h' H' → Rel Y.K Y.C σ H' h' sl rt' vs F' → Owns Y.K Y.C h' H' ws ts G → (∀ a, a ∈ G → a ∉ F') → (∀ a, a ∈ G → a ∈ F ∨ H a = none) → (es.q = true → Same H H') → Q ws H') → t σ H Q
def ArgV (h : Hp) (vs : List V) (v : V) : D ⊕ Nat → Prop
  | .inl d => Rep Y.K Y.C h v d
  | .inr k => vs[k]? = some v
inductive ArgsV (h : Hp) (vs : List V) : List V → List (D ⊕ Nat) → Prop
  | nil : ArgsV h vs [] []
  | cons {v : V} {ws : List V} {x : D ⊕ Nat} {xs : List (D ⊕ Nat)} : ArgV Y h vs v x → ArgsV h vs ws xs → ArgsV h vs (v :: ws) (x :: xs)
def RAA (es : Es) (t : TA) : Prop := ∀ np sl σ H h rt vs F xs rt', Rel Y.K Y.C σ H h sl rt vs F → evA (cfg Y np) sl es rt = some (xs, rt') → ∀ Q : List V → Hp → Prop,
  (∀ ws H' h' F', Stp F h H F' h' H' → Rel Y.K Y.C σ H' h' sl rt' vs F' → ArgsV Y h' vs ws xs → (es.q = true → Same H H' ∧ ∀ x ∈ xs, ∃ d, x = .inl d) → Q ws H') → t σ H Q
def RI (it : It) (w : TI) : Prop := ∀ np sl σ H h rt vs F ds rt', Rel Y.K Y.C σ H h sl rt vs F → evI (cfg Y np) sl it rt = some (ds, rt') → ∀ R : L2.It → Hp → Prop,
  (∀ J H' h' F' S, Stp F h H F' h' H' → Rel Y.K Y.C σ H' h' sl rt' vs F' → Wk Y.K Y.C J ds S → S h' H' → (it.clo = true → Clo S) → (it.q = true → Same H H') → R J H') → w σ H R
end
section
variable {Y : Fx}
theorem Stp.back {F F' : List Addr} {h h' H H' : Hp} (x : Stp F h H F' h' H') : ∀ a, H' a = none → a ∈ F ∨ H a = none := fun a n => by
  by_cases z : a ∈ F
  · exact .inl z
  · right
    cases q : H a with
    | none => rfl
    | some o => rw [x.keep a o q z] at n; cases n
theorem DOk.r {σ : L2.St} {H h : Hp} {sl : Sl} {rt' : Rt} {vs : List V} {F : List Addr} {q : Bool} {Q : VK} {t : T} (d : DOk Y σ H h sl rt' vs F q Q t.d) : ROk Y σ H h sl rt' vs F q Q t := by
  intro v H' h' F' G st rl ow dj fr qq
  obtain ⟨r2, rp⟩ := rl.shut ow dj
  exact d v H' (ov h' H' G) F' (st.shut ow fr) r2 rp qq
theorem ROk.made {σ : L2.St} {H h H1 h1 : Hp} {sl : Sl} {rt' : Rt} {vs : List V} {F F1 : List Addr} {q q1 : Bool} {Q : VK} {t : T} (r : ROk Y σ H h sl rt' vs F q Q t) (st : Stp F h H F1 h1 H1) (rl : Rel Y.K Y.C σ H1 h1 sl rt' vs F1)
    (s : q1 = true → Same H H1) (hq : q = true → q1 = true) : Made Y.K Y.C h1 H1 Q t := by
  intro w h' H' G g ow nw
  refine r w H' h' F1 G (st.trans g.stp) (g.rel rl) ow (fun a z z' => ?_) (fun a z => st.back a (nw a z)) fun e => (s (hq e)).trans g.big
  obtain ⟨_, o, e⟩ := rl.own.at a z'
  rw [nw a z] at e
  cases e
theorem ROk.val {σ : L2.St} {H h H1 h1 : Hp} {sl : Sl} {rt' : Rt} {vs : List V} {F F1 : List Addr} {q q1 : Bool} {Q : VK} {d : D} {v : V} (r : ROk Y σ H h sl rt' vs F q Q (.cl d)) (st : Stp F h H F1 h1 H1) (rl : Rel Y.K Y.C σ H1 h1 sl rt' vs F1)
    (s : q1 = true → Same H H1) (hq : q = true → q1 = true) (rp : Rep Y.K Y.C h1 v d) : Q v H1 := (r.made st rl s hq).same rl.sub rp
theorem RE.d {e : E} {t : TE} (re : RE Y e t) {np : Nat} {mv : Bool} {sl : Sl} {σ : L2.St} {H h : Hp} {rt rt' : Rt} {vs : List V} {F : List Addr} {tr : T} (rl : Rel Y.K Y.C σ H h sl rt vs F) (hv : ev (cfg Y np) mv sl e rt = some (tr, rt')) {Q : VK}
    (k : DOk Y σ H h sl rt' vs F e.q Q tr.d) : t σ H Q := re np mv sl σ H h rt vs F tr rt' rl hv Q k.r
theorem attr_base {x : Expr} {f : Str} {env : Env} (h : notCall0 x = true) : attributeBase x f env (eval x env) = eval x env := by
  cases x with
  | Call g as ks p =>
    cases as with
    | cons a as => cases g <;> rfl
    | nil =>
      cases ks with
      | cons a as => cases g <;> rfl
      | nil => cases h
  | _ => rfl
theorem path_base {I : Inf} {c : Ck} {p : P} {x : Expr} {f : Str} {env : Env} (h : okP I c p x = true) : attributeBase x f env (eval x env) = eval x env := by
  cases p with
  | var i => unfold okP at h; split at h <;> first | rfl | cases h
  | ix p e => unfold okP at h; split at h <;> first | rfl | cases h
  | «at» p g => unfold okP at h; split at h <;> first | rfl | cases h
theorem F1.boot (f : F1) : bootBuiltins f.nm = some f.val ∧ f.nm ∈ bltNames ∧ plainN f.nm = true ∧ ((∃ id, f.val = .builtin id) ∨ ∃ T, f.val = .type T) := by
  cases f <;> exact ⟨by decide +kernel, by decide +kernel, by decide +kernel, by first | exact .inl ⟨_, rfl⟩ | exact .inr ⟨_, rfl⟩⟩
theorem F2.boot (f : F2) : bootBuiltins f.nm = some f.val ∧ f.nm ∈ bltNames ∧ plainN f.nm = true ∧ ((∃ id, f.val = .builtin id) ∨ ∃ T, f.val = .type T) := by
  cases f <;> exact ⟨by decide +kernel, by decide +kernel, by decide +kernel, by first | exact .inl ⟨_, rfl⟩ | exact .inr ⟨_, rfl⟩⟩
def tOk : Expr → Prop
  | .UnaryOp .Not _ _ => False | .BoolOp _ _ _ => False | .IfExp _ _ _ _ => False | .Compare _ _ _ _ => False | _ => True
theorem test_of {c : Ck} {e : E} {a : Expr} (s : SE Y c e a) (ha : tOk a) : STs Y c e a := by
  intro _
  obtain ⟨t, pe, re⟩ := s
  refine ⟨tB t, fun X g => ⟨pt_val (pe X g) (fun wh => ?_), fun z => ?_⟩, fun np sl σ H h rt vs F b rt' rl hv Q k => ?_⟩
  · cases a with
    | UnaryOp o x p => cases o <;> first | rfl | exact ha.elim
    | BoolOp _ _ _ => exact ha.elim
    | IfExp _ _ _ _ => exact ha.elim
    | Compare _ _ _ _ => exact ha.elim
    | _ => rfl
  · cases a <;> first | exact ha.elim | cases z
  · unfold tstOf at hv
    split at hv
    · rename_i b' rt2 e1
      cases hv
      refine re np false sl σ H h rt vs F _ _ rl e1 _ fun v H' h' F' G st rl' ow dj fr qq => ?_
      have rp := rep_d ow
      cases rp
      exact ⟨b, rfl, k H' h' F' st rl' qq⟩
    · cases hv
theorem leaves_ok {K : PySem.W.Frag} {C : Nat → Addr} {h H : Hp} : ∀ {vs : List V} {ts : List T} {F : List Addr} {ds : List D}, Owns K C h H vs ts F → T.leaves ts = some ds → Reps K C h vs ds ∧ T.ds ts = ds
  | _, _, _, ds, .nil, e => by
    cases e
    exact ⟨.nil, rfl⟩
  | _, _, _, ds, .cons (t := t) p r _, e => by
    cases p with
    | cl q =>
      unfold T.leaves at e
      obtain ⟨es, e1, rfl⟩ := Option.map_eq_some_iff.mp e
      obtain ⟨r1, r2⟩ := leaves_ok r e1
      exact ⟨.cons q r1, by unfold T.ds; rw [r2]; rfl⟩
    | _ => cases e
theorem lie_of {K : PySem.W.Frag} {C : Nat → Addr} {h H : Hp} {v : V} {t : T} {F : List Addr} {ds : List D} (o : Own K C h H v t F) (e : t.items = some ds) : Lie K C h H v t.d := by
  cases o with
  | cl r => exact .rep r
  | ls q n r _ =>
    obtain ⟨r1, r2⟩ := leaves_ok r e
    show Lie K C h H _ (.lst _)
    rw [r2]
    exact .top q r1
  | _ => cases e
end
end Mi
namespace Mi
open PySem PySem.Spec PyProof.Rows L2
section
variable {Y : Fx} {K : PySem.W.Frag} {C : Nat → Addr} {h H h' H' : Hp}
theorem pt_root {sl : Sl} {rt : Rt} {k : Nat} : ∀ {p : P} {u : T}, pt sl rt p = some u → sl[p.root]? = some (some (.r k)) → ∃ tk, rt[k]? = some (some tk) ∧ (p.isVar = true → tk = u)
  | .var i, u, e, s => by
    have s : sl[i]? = some (some (.r k)) := s
    unfold pt at e
    rw [s] at e
    simp only at e
    split at e
    · rename_i t ht
      cases e
      exact ⟨_, ht, fun _ => rfl⟩
    · cases e
  | .ix p x, u, e, s => by
    unfold pt at e
    split at e
    · rename_i t i h1 h2
      obtain ⟨tk, q, _⟩ := pt_root h1 s
      exact ⟨tk, q, fun z => by cases z⟩
    · cases e
  | .at p f, u, e, s => by
    unfold pt at e
    split at e
    · rename_i t h1
      obtain ⟨tk, q, _⟩ := pt_root h1 s
      exact ⟨tk, q, fun z => by cases z⟩
    · cases e
theorem close_eq {rt : Rt} {k : Nat} {t : T} (e : rt[k]? = some (some t)) : close rt k = rt.set k (some (.cl t.d)) := by
  unfold close
  apply List.ext_getElem?
  intro j
  rw [List.getElem?_modify, List.getElem?_set]
  by_cases hj : k = j
  · subst hj
    have hl : k < rt.length := (List.getElem?_eq_some_iff.mp e).1
    rw [if_pos rfl, if_pos hl, e]
    simp
  · rw [if_neg hj]
    simp [hj]
theorem Rel.close {σ : L2.St} {sl : Sl} {rt : Rt} {vs : List V} {F : List Addr} {k : Nat} {t : T} (r : Rel K C σ H h sl rt vs F) (e : rt[k]? = some (some t)) :
    ∃ vk Fk F', vs[k]? = some vk ∧ Own K C h H vk t Fk ∧ (∀ a, a ∈ Fk → a ∈ F) ∧ Rel K C σ H (ov h H Fk) sl (close rt k) vs F' ∧ (∀ a, a ∈ F' → a ∈ F) := by
  obtain ⟨vk, Fk, e1, o, s, w⟩ := r.own.get e
  have e2 : Same h (ov h H Fk) := ov_same fun a z => (o.at a z).1
  obtain ⟨F', w1, w2⟩ := w (ov h H Fk) H (.cl t.d) [] e2 (fun a z n => ⟨rfl, by rw [ov_out n]; exact (r.own.at a z).1⟩) (.cl (o.rep e2 fun a z => ov_in z)) fun a z => absurd z (by simp)
  refine ⟨vk, Fk, F', e1, o, s, ⟨ov_sub r.sub, by rw [close_eq e]; exact w1, fun i s' e' => ?_, r.len⟩, fun a z => ?_⟩
  · obtain ⟨v, a1, a2⟩ := r.slt i s' e'
    exact ⟨v, a1, a2.mono e2⟩
  · rcases w2 a z with z | z
    · exact z
    · exact absurd z (by simp)
theorem snd_get (y : Y.Ok) (p : P) (c : Ck) (a : Expr) (ok : okP Y.I c p a = true) : SE Y c (.get p) a := by
  obtain ⟨t, pe, re⟩ := sndP y p a ok
  refine ⟨t, pe, fun np mv sl σ H h rt vs F tr rt' rl hv Q k => ?_⟩
  unfold ev at hv
  split at hv
  · rename_i d hp
    cases hv
    refine re sl rt σ H h vs F rl _ hp Q fun v at0 => ?_
    obtain ⟨F0, pr, _⟩ := at0
    exact k.val (q1 := true) Stp.refl rl (fun _ => Same.refl H) (fun _ => rfl) (rep_d pr.1)
  · rename_i u hn hp
    split at hv
    · rename_i kk hs
      obtain ⟨tk, htk, hvar⟩ := pt_root hp hs
      refine re sl rt σ H h vs F rl _ hp Q fun v at0 => ?_
      obtain ⟨F1, pr, inn⟩ := at0
      split at hv
      · rename_i hm
        cases hv
        simp only [Bool.and_eq_true] at hm
        have e1 := hvar hm.1.2
        subst e1
        obtain ⟨vk, Fk, F', e1, o, ow, s1, s2, s3⟩ := rl.own.take1 htk
        have hin : ∀ a, a ∈ F1 → a ∈ Fk := fun a z => inn a z kk tk vk Fk hs htk e1 o
        refine k v H h F' F1 ⟨fun a o e n => e, fun _ _ e => e, fun a o n e => ?_, fun a z => .inl (s2 a z)⟩ ⟨rl.sub, ow, rl.slt, rl.len⟩ pr.1 (fun a z => s3 a (hin a z)) (fun a z => .inl (pr.2.1 a z)) fun _ => Same.refl H
        rw [n] at e
        cases e
      · cases hv
        obtain ⟨vk, Fk, F', e1, o, s1, rl2, s2⟩ := rl.close htk
        have hin : ∀ a, a ∈ F1 → a ∈ Fk := fun a z => inn a z kk tk vk Fk hs htk e1 o
        have e2 : Same h (ov h H Fk) := ov_same fun a z => (o.at a z).1
        refine k v H (ov h H Fk) F' [] ⟨fun a o e n => e, e2, fun a u' n e => ?_, fun a z => .inl (s2 a z)⟩ rl2 (.cl (pr.1.rep e2 fun a z => ov_in (hin a z))) (fun a z => absurd z (by simp)) (fun a z => absurd z (by simp)) fun _ => Same.refl H
        by_cases z : a ∈ Fk
        · exact .inl (s1 a z)
        · rw [ov_out z, n] at e
          cases e
    · cases hv
  · cases hv
theorem ArgV.mono {vs : List V} {v : V} {x : D ⊕ Nat} (e : Same h h') (a : ArgV Y h vs v x) : ArgV Y h' vs v x := by
  cases x with
  | inl d => exact Rep.mono e a
  | inr k => exact a
theorem ArgsV.mono {vs : List V} (e : Same h h') : ∀ {ws : List V} {xs : List (D ⊕ Nat)}, ArgsV Y h vs ws xs → ArgsV Y h' vs ws xs
  | _, _, .nil => .nil
  | _, _, .cons a r => .cons (a.mono e) (ArgsV.mono e r)
theorem ArgsV.append {vs : List V} : ∀ {ws zs : List V} {xs ys : List (D ⊕ Nat)}, ArgsV Y h vs ws xs → ArgsV Y h vs zs ys → ArgsV Y h vs (ws ++ zs) (xs ++ ys)
  | _, _, _, _, .nil, q => q
  | _, _, _, _, .cons a r, q => .cons a (ArgsV.append r q)
theorem ArgsV.length {vs : List V} : ∀ {ws : List V} {xs : List (D ⊕ Nat)}, ArgsV Y h vs ws xs → ws.length = xs.length
  | _, _, .nil => rfl
  | _, _, .cons _ r => congrArg (· + 1) (ArgsV.length r)
theorem ArgsV.get {vs : List V} : ∀ {ws : List V} {xs : List (D ⊕ Nat)} {i : Nat} {x : D ⊕ Nat}, ArgsV Y h vs ws xs → xs[i]? = some x → ∃ w, ws[i]? = some w ∧ ArgV Y h vs w x
  | _, _, 0, _, .cons a r, e => by
    cases e
    exact ⟨_, rfl, a⟩
  | _, _, i + 1, _, .cons a r, e => by
    obtain ⟨w, e1, e2⟩ := ArgsV.get (i := i) r (by simpa using e)
    exact ⟨w, by simpa using e1, e2⟩
theorem ArgsV.perm {vs : List V} {ws : List V} {xs : List (D ⊕ Nat)} (a : ArgsV Y h vs ws xs) : ∀ {pm : List Nat} {ys : List (D ⊕ Nat)}, perm xs pm = some ys → ∃ zs, Mi.perm ws pm = some zs ∧ ArgsV Y h vs zs ys
  | [], ys, e => by
    cases e
    exact ⟨[], rfl, .nil⟩
  | i :: pm, ys, e => by
    unfold Mi.perm at e
    split at e
    · rename_i x r e1 e2
      cases e
      obtain ⟨w, w1, w2⟩ := a.get e1
      obtain ⟨zs, z1, z2⟩ := ArgsV.perm a e2
      exact ⟨w :: zs, by unfold Mi.perm; rw [w1, z1], .cons w2 z2⟩
    · cases e
theorem argsOf_set {j : Nat} {o : Option T} : ∀ {xs : List (D ⊕ Nat)} {rt : Rt}, j ∉ mutsOf xs → argsOf (rt.set j o) xs = argsOf rt xs
  | [], _, _ => rfl
  | .inl _ :: r, rt, n => by
    unfold argsOf
    rw [argsOf_set (xs := r) n]
  | .inr k :: r, rt, n => by
    have n1 : ¬ (j = k) := fun z => n (by rw [z]; exact List.mem_cons_self)
    have n2 : j ∉ mutsOf r := fun z => n (List.mem_cons_of_mem _ z)
    unfold argsOf
    rw [List.getElem?_set_ne n1, argsOf_set n2]
theorem OwnR.pick {vs : List V} : ∀ {ws : List V} {xs : List (D ⊕ Nat)} {rt : Rt} {F : List Addr} {ts : List T}, OwnR Y.K Y.C h H vs rt F → ArgsV Y h vs ws xs → (mutsOf xs).Nodup → argsOf rt xs = some ts →
    ∃ Fp Fr, Owns Y.K Y.C h H ws ts Fp ∧ (∀ a, a ∈ Fp → a ∈ F) ∧ OwnR Y.K Y.C h H vs (clr rt xs) Fr ∧ (∀ a, a ∈ Fr → a ∈ F) ∧ (∀ a, a ∈ Fp → a ∉ Fr) ∧ ((∀ x ∈ xs, ∃ d, x = .inl d) → Fp = [])
  | _, [], rt, F, ts, o, .nil, _, e => by
    cases e
    exact ⟨[], F, .nil, fun a z => absurd z (by simp), o, fun a z => z, fun a z => absurd z (by simp), fun _ => rfl⟩
  | _, .inl d :: r, rt, F, ts, o, .cons a q, n, e => by
    unfold argsOf at e
    obtain ⟨ts', e1, rfl⟩ := Option.map_eq_some_iff.mp e
    obtain ⟨Fp, Fr, o1, s1, o2, s2, dj, al⟩ := OwnR.pick o q n e1
    exact ⟨[] ++ Fp, Fr, .cons (.cl a) o1 fun a z => absurd z (by simp), s1, o2, s2, dj, fun z => al fun x hx => z x (List.mem_cons_of_mem _ hx)⟩
  | _, .inr k :: r, rt, F, ts, o, .cons a q, n, e => by
    unfold argsOf at e
    split at e
    · rename_i t ht
      obtain ⟨ts', e1, rfl⟩ := Option.map_eq_some_iff.mp e
      have n' : k ∉ mutsOf r ∧ (mutsOf r).Nodup := List.nodup_cons.mp n
      obtain ⟨vk, F1, F', e2, ow, o', s1, s2, s3⟩ := o.take1 ht
      have ha : vs[k]? = some _ := a
      rw [e2] at ha
      cases ha
      obtain ⟨Fp, Fr, o1, a1, o2, a2, dj, al⟩ := OwnR.pick o' q n'.2 ((argsOf_set n'.1).trans e1)
      refine ⟨F1 ++ Fp, Fr, .cons ow o1 fun b z z' => s3 b z (a1 b z'), fun b z => ?_, o2, fun b z => s2 b (a2 b z), fun b z z' => ?_, fun z => ?_⟩
      · exact (List.mem_append.mp z).elim (s1 b) fun z => s2 b (a1 b z)
      · rcases List.mem_append.mp z with z | z
        · exact s3 b z (a2 b z')
        · exact dj b z z'
      · obtain ⟨d, hd⟩ := z _ List.mem_cons_self
        cases hd
    · cases e
theorem OwnR.backTo {vs : List V} : ∀ {ws : List V} {xs : List (D ⊕ Nat)} {rt : Rt} {F G : List Addr} {ts : List T} {g : Hp}, OwnR Y.K Y.C h H vs rt F → Owns Y.K Y.C h H ws ts G → ArgsV Y g vs ws xs → vs.length = rt.length → (∀ a, a ∈ G → a ∉ F) →
    ∃ F', OwnR Y.K Y.C h H vs (backOf rt xs ts) F' ∧ ∀ a, a ∈ F' → a ∈ F ∨ a ∈ G
  | _, [], rt, F, G, ts, g, o, q, .nil, _, _ => by
    cases q
    exact ⟨F, o, fun a z => .inl z⟩
  | _, .inl d :: r, rt, F, _, _, g, o, .cons (F := F0) (G := G0) p q dj0, .cons a aa, l, dj => by
    obtain ⟨F', o', s⟩ := OwnR.backTo (xs := r) o q aa l fun b z => dj b (List.mem_append_right _ z)
    exact ⟨F', o', fun b z => (s b z).imp id fun z => List.mem_append_right _ z⟩
  | _, .inr k :: r, rt, F, _, _, g, o, .cons (v := v) (F := F0) (G := G0) p q dj0, .cons a aa, l, dj => by
    have ha : vs[k]? = some v := a
    have hk : k < rt.length := by rw [← l]; exact (List.getElem?_eq_some_iff.mp ha).1
    obtain ⟨F1, o1, s1⟩ := o.put hk p fun b z => dj b (List.mem_append_left _ z)
    have hvs : vs.set k v = vs := by
      apply List.ext_getElem?
      intro j
      rw [List.getElem?_set]
      by_cases hj : k = j
      · subst hj
        rw [if_pos rfl, if_pos (List.getElem?_eq_some_iff.mp ha).1, ha]
      · rw [if_neg hj]
    rw [hvs] at o1
    obtain ⟨F', o', s⟩ := OwnR.backTo (xs := r) o1 q aa (by rw [List.length_set]; exact l) fun b z z' => by
      rcases s1 b z' with y | y
      · exact dj b (List.mem_append_right _ z) y
      · exact dj0 b y z
    exact ⟨F', o', fun b z => (s b z).elim (fun z => (s1 b z).imp id fun z => List.mem_append_left _ z) fun z => .inr (List.mem_append_right _ z)⟩
theorem Stp.ownR {F F' G : List Addr} {vs : List V} {rt : Rt} (x : Stp F h H F' h' H') (o : OwnR K C h H vs rt G) (dj : ∀ a, a ∈ G → a ∉ F) : OwnR K C h' H' vs rt G ∧ ∀ a, a ∈ G → a ∉ F' := by
  refine ⟨o.stay x.up fun a z => ?_, fun a z z' => ?_⟩
  · obtain ⟨n, u, e⟩ := o.at a z
    refine ⟨(x.keep a u e (dj a z)).trans e.symm, ?_⟩
    cases q : h' a with
    | none => rfl
    | some w =>
      rcases x.new a w n q with y | y
      · exact absurd y (dj a z)
      · rw [y] at e; cases e
  · obtain ⟨n, u, e⟩ := o.at a z
    rcases x.fp a z' with y | y
    · exact dj a z y
    · rw [y] at e; cases e
theorem perm_inl {as : List (D ⊕ Nat)} (hi : ∀ x ∈ as, ∃ d, x = .inl d) : ∀ {pm : List Nat} {ys : List (D ⊕ Nat)}, Mi.perm as pm = some ys → ∀ x ∈ ys, ∃ d, x = .inl d
  | [], ys, e, x, hx => by
    cases e
    cases hx
  | i :: pm, ys, e, x, hx => by
    unfold Mi.perm at e
    split at e
    · rename_i x0 r0 z1 z2
      cases e
      rcases List.mem_cons.mp hx with rfl | hx
      · exact hi _ (List.mem_of_getElem? z1)
      · exact perm_inl hi z2 x hx
    · cases e
def COk (Y : Fx) (σ : L2.St) (H h : Hp) (sl : Sl) (rt' : Rt) (vs : List V) (F : List Addr) (al : Prop) (Q : VK) (t : T) : Prop :=
  ∀ v H' h' F' G, Stp F h H F' h' H' → Rel Y.K Y.C σ H' h' sl rt' vs F' → Own Y.K Y.C h' H' v t G → (∀ a, a ∈ G → a ∉ F') → (∀ a, a ∈ G → a ∈ F ∨ H a = none) → (al → Same H H') → Q v H'
theorem ROk.call {σ : L2.St} {H h H2 h2 : Hp} {sl : Sl} {rt' : Rt} {vs : List V} {F F2 : List Addr} {q : Bool} {al : Prop} {Q : VK} {t : T} (k : ROk Y σ H h sl rt' vs F q Q t) (st : Stp F h H F2 h2 H2) (hq : q = true → Same H H2 ∧ al) : COk Y σ H2 h2 sl rt' vs F2 al Q t :=
  fun v H' h' F' G s2 rl ow dj fr sm => k v H' h' F' G (st.trans s2) rl ow dj (fun a z => (fr a z).elim (st.fp a) (st.back a)) fun z => (hq z).1.trans (sm (hq z).2)
theorem call_core {f : Nat} {pm : List Nat} {xs : List (D ⊕ Nat)} {wsA : List V} {σ : L2.St} {H2 h2 : Hp} {sl : Sl} {rt2 rt' : Rt} {vs : List V} {F2 : List Addr} {tr : T} {Q : VK} (rl2 : Rel Y.K Y.C σ H2 h2 sl rt2 vs F2) (av : ArgsV Y h2 vs wsA xs)
    (e : callGo Y.F f pm xs rt2 = some (tr, rt')) (k : COk Y σ H2 h2 sl rt' vs F2 (∀ x ∈ xs, ∃ d, x = .inl d) Q tr) : ∃ ws, Mi.perm wsA pm = some ws ∧ spF Y.K Y.C Y.F f ws H2 Q := by
  unfold callGo at e
  split at e
  · cases e
  · rename_i ys e3
    split at e
    · rename_i nd
      split at e
      · cases e
      · rename_i ts e4
        split at e
        · cases e
        · rename_i r ts' e5
          split at e
          · rename_i hlen
            cases e
            obtain ⟨ws, w1, w2⟩ := av.perm e3
            obtain ⟨Fp, Fr, o1, s1, o2, s2, dj, al⟩ := rl2.own.pick w2 nd e4
            refine ⟨ws, w1, h2, ts, Fp, _, ts', rl2.sub, o1, e5, ?_⟩
            intro v H' h' F' G st sub ow' ov' dj' fr'
            obtain ⟨o3, dj3⟩ := st.ownR o2 fun a z z' => dj a z' z
            obtain ⟨F3, o4, s4⟩ := o3.backTo ow' w2 o3.length fun a z z' => dj3 a z' z
            have stAll : Stp F2 h2 H2 F3 h' H' := by
              refine ⟨fun a o e n => st.keep a o e fun z => n (s1 a z), st.up, fun a o n e => (st.new a o n e).imp (s1 a) id, fun a z => ?_⟩
              rcases s4 a z with y | y
              · exact .inl (s2 a y)
              · exact (st.fp a y).imp (s1 a) id
            refine k v H' h' F3 G stAll ⟨sub, o4, fun i s e => ?_, rl2.len⟩ ov' (fun a z z' => ?_) (fun a z => (fr' a z).imp (s1 a) id) fun hi => ?_
            · obtain ⟨u, u1, u2⟩ := rl2.slt i s e
              exact ⟨u, u1, u2.mono st.up⟩
            · rcases s4 a z' with y | y
              · rcases fr' a z with w | w
                · exact dj a w y
                · obtain ⟨_, o, e⟩ := o2.at a y
                  rw [w] at e
                  cases e
              · exact dj' a z y
            · have ef := al (perm_inl hi e3)
              subst ef
              exact fun a o e => st.keep a o e (by simp)
          · cases e
    · cases e
theorem read_call {f : Nat} {es kw : Es} {pm : List Nat} {ta tk : TA} {n m : Nat} (ra : RAA Y es ta) (rk : RAA Y kw tk) (hn : ∀ c sl rt xs rt', evA c sl es rt = some (xs, rt') → xs.length = n) (hm : ∀ c sl rt xs rt', evA c sl kw rt = some (xs, rt') → xs.length = m) :
    RE Y (.call f es kw pm) (tCallU (spF Y.K Y.C Y.F f) n m pm ta tk) := by
  intro np mv sl σ H h rt vs F tr rt' rl hv Q k
  unfold ev at hv
  split at hv
  · cases hv
  · rename_i as rt1 e1
    split at hv
    · cases hv
    · rename_i bs rt2 e2
      refine ra np sl σ H h rt vs F as rt1 rl e1 _ fun ws1 H1 h1 F1 st1 rl1 av1 q1 => ?_
      refine rk np sl σ H1 h1 rt1 vs F1 bs rt2 rl1 e2 _ fun ws2 H2 h2 F2 st2 rl2 av2 q2 => ?_
      refine ⟨av1.length.trans (hn _ _ _ _ _ e1), av2.length.trans (hm _ _ _ _ _ e2), ?_⟩
      refine call_core rl2 ((av1.mono st2.up).append av2) hv (k.call (st1.trans st2) fun hq => ?_)
      unfold E.q at hq
      rw [Bool.and_eq_true] at hq
      obtain ⟨a1, a2⟩ := q1 hq.1
      obtain ⟨b1, b2⟩ := q2 hq.2
      exact ⟨a1.trans b1, fun x m => (List.mem_append.mp m).elim (a2 x) (b2 x)⟩
theorem recv_ok {c : Nat} {ns : List Str} {x : D ⊕ Nat} {w : V} {σ : L2.St} {H h : Hp} {sl : Sl} {rt : Rt} {vs : List V} {F : List Addr} (rl : Rel Y.K Y.C σ H h sl rt vs F) (a : ArgV Y h vs w x) (e : clsOf rt x = some (c, ns)) :
    ∃ a dx fs, w = .ref a ∧ H a = some (.ins (Y.C c) dx fs) ∧ fs.map (·.1) = ns := by
  unfold clsOf at e
  split at e
  · cases e
    cases (show Rep Y.K Y.C h w _ from a) with
    | ins q k r => exact ⟨_, _, _, rfl, rl.sub _ _ q, k⟩
  · split at e
    · rename_i ht
      cases e
      obtain ⟨v, F1, v1, pr⟩ := rl.own.get ht
      have a' : vs[_]? = some w := a
      rw [a'] at v1
      cases v1
      cases pr.1 with
      | ob q n kk r na => exact ⟨_, _, _, rfl, q, kk⟩
    · rename_i ht
      cases e
      obtain ⟨v, F1, v1, pr⟩ := rl.own.get ht
      have a' : vs[_]? = some w := a
      rw [a'] at v1
      cases v1
      cases rep_d pr.1 with
      | ins q kk r => exact ⟨_, _, _, rfl, rl.sub _ _ q, kk⟩
    · cases e
  · cases e
theorem no_field {m : Str} : ∀ {fs : List (Str × V)}, (fs.map (·.1)).contains m = false → fs.lookup m = none
  | [], _ => rfl
  | (n, v) :: fs, h => by
    rw [List.map_cons, List.contains_cons, Bool.or_eq_false_iff] at h
    rw [List.lookup_cons, h.1]
    exact no_field h.2
theorem recv_m {c : Nat} {m : Str} {x : D ⊕ Nat} {w : V} {σ : L2.St} {H h : Hp} {sl : Sl} {rt : Rt} {vs : List V} {F : List Addr} (rl : Rel Y.K Y.C σ H h sl rt vs F) (a : ArgV Y h vs w x) (e : recv c m rt x = true) :
    ∃ a dx fs, w = .ref a ∧ H a = some (.ins (Y.C c) dx fs) ∧ fs.lookup m = none := by
  unfold recv at e
  split at e
  · rename_i c' ns hc
    simp only [Bool.and_eq_true, beq_iff_eq, Bool.not_eq_true'] at e
    obtain ⟨rfl, e⟩ := e
    obtain ⟨a, dx, fs, h1, h2, h3⟩ := recv_ok rl a hc
    exact ⟨a, dx, fs, h1, h2, no_field (by rw [h3]; exact e)⟩
  · cases e
theorem recv_c {c : Nat} {x : D ⊕ Nat} {w : V} {σ : L2.St} {H h : Hp} {sl : Sl} {rt : Rt} {vs : List V} {F : List Addr} (rl : Rel Y.K Y.C σ H h sl rt vs F) (a : ArgV Y h vs w x) (e : isC c rt x = true) : ∃ a dx fs, w = .ref a ∧ H a = some (.ins (Y.C c) dx fs) := by
  unfold isC at e
  split at e
  · rename_i c' ns hc
    have e := beq_iff_eq.mp e
    subst e
    obtain ⟨a, dx, fs, h1, h2, _⟩ := recv_ok rl a hc
    exact ⟨a, dx, fs, h1, h2⟩
  · cases e
theorem Owns.snoc : ∀ {vs : List V} {ts : List T} {F : List Addr} {t : T}, Owns K C h H vs ts F → ts.getLast? = some t →
    ∃ v F1 G, vs[vs.length - 1]? = some v ∧ Owns K C h H vs.dropLast ts.dropLast F1 ∧ Own K C h H v t G ∧ (∀ a, a ∈ F1 → a ∈ F) ∧ (∀ a, a ∈ G → a ∈ F) ∧ ∀ a, a ∈ G → a ∉ F1
  | _, _, _, _, .nil, e => by cases e
  | _, _, _, t, .cons (v := v) (F := F) (G := G) p r dj, e => by
    cases r with
    | nil =>
      cases e
      exact ⟨_, [], F, rfl, .nil, p, fun a z => absurd z (by simp), fun a z => List.mem_append_left _ z, fun a z => by simp⟩
    | cons p2 r2 d2 =>
    obtain ⟨w, F1, G1, e1, o1, o2, s1, s2, s3⟩ := Owns.snoc (.cons p2 r2 d2) (t := t) (by simpa [List.getLast?_cons] using e)
    refine ⟨w, F ++ F1, G1, by simpa using e1, .cons p o1 fun a z z' => dj a z (s1 a z'), o2, fun a z => ?_, fun a z => List.mem_append_right _ (s2 a z), fun a z z' => ?_⟩
    · exact (List.mem_append.mp z).elim (fun z => List.mem_append_left _ z) fun z => List.mem_append_right _ (s1 a z)
    · rcases List.mem_append.mp z' with y | y
      · exact dj a y (s2 a z)
      · exact s3 a z y
end
end Mi
namespace Mi
open PySem PySem.Spec PyProof.Rows L2
section
variable {Y : Fx} {K : PySem.W.Frag} {C : Nat → Addr} {h H h' H' : Hp}
theorem assign_each {e : Expr} {es : List Expr} {env : Env} (n : noStar e = true) : assignEach (e :: es) env = (false, assign e env) :: assignEach es env := by
  cases e <;> first | rfl | cases n
theorem assign_all {env : Env} : ∀ {es : List Expr}, es.all noStar = true → (assignEach es env).length = es.length ∧ (assignEach es env).findIdx? (·.1) = none
  | [], _ => ⟨rfl, rfl⟩
  | e :: es, n => by
    rw [List.all_cons, Bool.and_eq_true] at n
    obtain ⟨h1, h2⟩ := assign_all (env := env) n.2
    rw [assign_each n.1]
    refine ⟨congrArg (· + 1) h1, ?_⟩
    rw [List.findIdx?_cons, if_neg Bool.false_ne_true, h2]
    rfl
def RG (Y : Fx) (tg : Tg) (g : TG) : Prop := ∀ σ H h sl rt vs F v d sl', Rel Y.K Y.C σ H h sl rt vs F → Rep Y.K Y.C h v d → bind sl tg d = some sl' → ∀ Q : L2.St → Hp → Prop,
  (∀ σ', Rel Y.K Y.C σ' H h sl' rt vs F → (∀ own, (∀ i, i ∈ tg.slots → i ∈ own) → wipe σ' own = wipe σ own) → Q σ' H) → g v σ H Q
def RGs (Y : Fx) (tg : List Tg) (g : TGs) : Prop := ∀ σ H h sl rt vs F ws ds sl', Rel Y.K Y.C σ H h sl rt vs F → Reps Y.K Y.C h ws ds → binds sl tg ds = some sl' → ∀ Q : L2.St → Hp → Prop,
  (∀ σ', Rel Y.K Y.C σ' H h sl' rt vs F → (∀ own, (∀ i, i ∈ Tg.slots.slotss tg → i ∈ own) → wipe σ' own = wipe σ own) → Q σ' H) → g ws σ H Q
theorem wipe_set {σ : L2.St} {i : Nat} {o : Option V} : ∀ {own : List Nat}, i ∈ own → wipe (σ.set i o) own = wipe σ own
  | j :: r, m => by
    show (wipe (σ.set i o) r).set j none = (wipe σ r).set j none
    by_cases hm : i ∈ r
    · rw [wipe_set hm]
    · have e : i = j := (List.mem_cons.mp m).resolve_right hm
      subst e
      have f : ∀ r : List Nat, i ∉ r → wipe (σ.set i o) r = (wipe σ r).set i o := by
        intro r
        induction r with
        | nil => intro _; rfl
        | cons k r ih =>
          intro n
          have n1 : i ≠ k := fun z => n (by rw [z]; exact List.mem_cons_self)
          show (wipe (σ.set i o) r).set k none = ((wipe σ r).set k none).set i o
          rw [ih fun z => n (List.mem_cons_of_mem _ z), List.set_comm _ _ n1]
      rw [f r hm, List.set_set]
theorem wipe_wipe {σ : L2.St} {own : List Nat} : wipe (wipe σ own) own = wipe σ own := by
  have f : ∀ r : List Nat, (∀ i ∈ r, i ∈ own) → wipe (wipe σ r) own = wipe σ own := by
    intro r
    induction r with
    | nil => intro _; rfl
    | cons k r ih =>
      intro m
      show wipe ((wipe σ r).set k none) own = _
      rw [wipe_set (m k List.mem_cons_self)]
      exact ih fun i z => m i (List.mem_cons_of_mem _ z)
  exact f own fun _ z => z
theorem wip_some {sl : Sl} {i : Nat} {s : S} : ∀ {vs : List Nat}, (wip sl vs)[i]? = some (some s) → sl[i]? = some (some s) ∧ i ∉ vs
  | [], e => ⟨e, by simp⟩
  | v :: vs, e => by
    have e : ((wip sl vs).set v none)[i]? = some (some s) := e
    rw [List.getElem?_set] at e
    by_cases z : v = i
    · rw [if_pos z] at e
      split at e <;> cases e
    · rw [if_neg z] at e
      obtain ⟨e1, e2⟩ := wip_some e
      exact ⟨e1, by simp only [List.mem_cons, not_or]; exact ⟨fun y => z y.symm, e2⟩⟩
theorem wip_length {sl : Sl} : ∀ {vs : List Nat}, (wip sl vs).length = sl.length
  | [] => rfl
  | v :: vs => by
    show ((wip sl vs).set v none).length = _
    rw [List.length_set, wip_length]
theorem Rel.wip {σ : L2.St} {sl : Sl} {rt : Rt} {vs : List V} {F : List Addr} (r : Rel K C σ H h sl rt vs F) (own : List Nat) : Rel K C (wipe σ own) H h (wip sl own) rt vs F := by
  refine ⟨r.sub, r.own, fun i s e => ?_, by rw [wipe_length, wip_length]; exact r.len⟩
  obtain ⟨e1, e2⟩ := wip_some e
  obtain ⟨v, v1, v2⟩ := r.slt i s e1
  exact ⟨v, by rw [wipe_out e2]; exact v1, v2⟩
theorem Rel.set {σ : L2.St} {sl : Sl} {rt : Rt} {vs : List V} {F : List Addr} {i : Nat} {v : V} {s : S} (r : Rel K C σ H h sl rt vs F) (hs : SRep K C h vs v s) (hi : i < sl.length) : Rel K C (σ.set i (some v)) H h (sl.set i (some s)) rt vs F := by
  refine ⟨r.sub, r.own, fun j s' e => ?_, by rw [List.length_set, List.length_set]; exact r.len⟩
  rw [List.getElem?_set] at e ⊢
  by_cases z : i = j
  · rw [if_pos z] at e ⊢
    rw [if_pos hi] at e
    cases e
    exact ⟨v, by rw [r.len, if_pos hi], hs⟩
  · rw [if_neg z] at e ⊢
    exact r.slt j s' e
def gOr (g1 g2 : TG) : TG := fun v σ H Q => g1 v σ H Q ∨ g2 v σ H Q
theorem pg_or {X : Cx} {tg : Expr} {g1 g2 : TG} (h1 : PG X tg g1) (h2 : PG X tg g2) : PG X tg (gOr g1 g2) := ⟨fun pins s σ H v u Q I r hw => hw.elim (h1.run pins s σ H v u Q I r) (h2.run pins s σ H v u Q I r)⟩
mutual
theorem sndTg : ∀ (tg : Tg) (c : Ck) (a : Expr), okT c tg a = true → ∃ g, (∀ X, Gd Y c X → PG X a g) ∧ RG Y tg g
  | .var i, c, a, ok => by
    unfold okT at ok
    split at ok
    · rename_i x pos
      simp only [Bool.and_eq_true, decide_eq_true_eq] at ok
      refine ⟨gName i, fun X g => ?_, fun σ H h sl rt vs F v d sl' r rp e Q k => ?_⟩
      · have hl : X.env.scope.names.lookup x = c.sc.names.lookup x := by rw [g.sc]
        have ok2 := ok.2
        split at ok2
        · rename_i e
          exact pg_name (by rw [g.N]; exact g.nd) (by rw [g.N]; exact ok.1) (.inl (hl.trans e)) (.inr (hl.trans e))
        · rename_i e
          exact pg_name (by rw [g.N]; exact g.nd) (by rw [g.N]; exact ok.1) (.inr (hl.trans e)) (.inl (g.fn x ok2))
        · cases ok2
      · unfold Mi.bind at e
        split at e
        · rename_i hi
          cases e
          exact k _ (r.set (s := .v d) rp hi) fun own m => wipe_set (m i (List.mem_singleton.mpr rfl))
        · cases e
    · cases ok
  | .tup ts, c, a, ok => by
    unfold okT at ok
    split at ok
    · rename_i es kk pos
      obtain ⟨g, pg, rg, st, ln⟩ := sndTgs ts c es ok
      refine ⟨gOr (gTup Y.K es.length g) (gUnl Y.K es.length g), fun X gd => ?_, fun σ H h sl rt vs F v d sl' r rp e Q k => ?_⟩
      · have z := pg_tup (k := kk) (pos := pos) (n := es.length) gd.calm (pg X gd) (assign_all st).1 (assign_all st).2
        have z2 := pg_unl (k := kk) (pos := pos) (n := es.length) gd.calm (pg X gd) (assign_all st).1 (assign_all st).2
        rw [gd.K] at z z2
        exact pg_or z z2
      · unfold Mi.bind at e
        split at e
        · rename_i xs
          cases rp with
          | tup q rr =>
            have hl : xs.length = es.length := by rw [← ln]; exact (binds_len e).symm
            exact .inl ⟨_, _, rfl, sqT_same r.sub q, rr.length.trans hl, rg σ H h sl rt vs F _ _ sl' r rr e Q k⟩
        · rename_i xs
          cases rp with
          | lst q rr =>
            have hl : xs.length = es.length := by rw [← ln]; exact (binds_len e).symm
            exact .inr ⟨_, _, rfl, SqL.of (r.sub _ _ q), rr.length.trans hl, rg σ H h sl rt vs F _ _ sl' r rr e Q k⟩
        · cases e
    · cases ok
theorem sndTgs : ∀ (tg : List Tg) (c : Ck) (es : List Expr), okTs c tg es = true → ∃ g, (∀ X, Gd Y c X → PGs X es g) ∧ RGs Y tg g ∧ es.all noStar = true ∧ tg.length = es.length
  | [], c, [], ok => by
    refine ⟨gNil, fun X g => pgs_nil, fun σ H h sl rt vs F ws ds sl' r rp e Q k => ?_, rfl, rfl⟩
    cases rp with
    | nil =>
      unfold binds at e
      cases e
      exact ⟨rfl, k σ r fun _ _ => rfl⟩
    | cons _ _ => cases e
  | t :: ts, c, e0 :: es, ok => by
    unfold okTs at ok
    simp only [Bool.and_eq_true] at ok
    obtain ⟨g1, p1, r1⟩ := sndTg t c e0 ok.1.2
    obtain ⟨g2, p2, r2, st, ln⟩ := sndTgs ts c es ok.2
    refine ⟨gCons g1 g2, fun X g => pgs_cons (p1 X g) (p2 X g) (by rw [assign_each ok.1.1]; rfl), fun σ H h sl rt vs F ws ds sl' r rp e Q k => ?_, by rw [List.all_cons, ok.1.1, st]; rfl, congrArg (· + 1) ln⟩
    cases rp with
    | nil => cases e
    | cons a rp =>
      unfold binds at e
      split at e
      · rename_i sl1 e1
        refine ⟨_, _, rfl, r1 σ H h sl rt vs F _ _ sl1 r a e1 _ fun σ1 rl1 w1 => ?_⟩
        refine r2 σ1 H h sl1 rt vs F _ _ sl' rl1 rp e _ fun σ2 rl2 w2 => k σ2 rl2 fun own m => ?_
        rw [w2 own fun i z => m i (List.mem_append_right _ z), w1 own fun i z => m i (List.mem_append_left _ z)]
      · cases e
  | [], c, _ :: _, ok => by cases ok
  | _ :: _, c, [], ok => by cases ok
theorem binds_len : ∀ {tg : List Tg} {xs : List D} {sl sl' : Sl}, binds sl tg xs = some sl' → tg.length = xs.length
  | [], [], _, _, _ => rfl
  | _ :: _, [], _, _, e => by cases e
  | [], _ :: _, _, _, e => by cases e
  | t :: ts, x :: xs, sl, sl', e => by
    unfold binds at e
    split at e
    · exact congrArg (· + 1) (binds_len e)
    · cases e
end
theorem Stp.out {F F' : List Addr} {L : Addr} {o : HO} (x : Stp F h H F' h' H') (e : H L = some o) (n : L ∉ F) (q : h L = none) : H' L = some o ∧ L ∉ F' ∧ h' L = none := by
  refine ⟨x.keep L o e n, fun z => ?_, ?_⟩
  · rcases x.fp L z with y | y
    · exact n y
    · rw [y] at e; cases e
  · cases w : h' L with
    | none => rfl
    | some u =>
      rcases x.new L u q w with y | y
      · exact absurd y n
      · rw [y] at e; cases e
theorem Stp.updL {F F' : List Addr} {L : Addr} {o : HO} (x : Stp F h H F' h' H') (n : H L = none) : Stp F h H F' h' (upd H' L o) := by
  refine ⟨fun a u e z => ?_, x.up, x.new, x.fp⟩
  rw [upd_ne (ne_of_none e n)]
  exact x.keep a u e z
theorem Owns.append1 : ∀ {vs : List V} {ts : List T} {F G : List Addr} {v : V} {t : T}, Owns K C h H vs ts F → Own K C h H v t G → (∀ a, a ∈ G → a ∉ F) → ∃ F', Owns K C h H (vs ++ [v]) (ts ++ [t]) F' ∧ ∀ a, a ∈ F' → a ∈ F ∨ a ∈ G
  | _, _, _, G, _, _, .nil, o, _ => ⟨G ++ [], .cons o .nil (fun a z => by simp), fun a z => .inr (by simpa using z)⟩
  | _, _, _, G, _, _, .cons (F := F0) (G := G0) p r dj, o, d => by
    obtain ⟨F', o', s⟩ := Owns.append1 r o fun a z z' => d a z (List.mem_append_right _ z')
    refine ⟨F0 ++ F', .cons p o' fun a z z' => ?_, fun a z => ?_⟩
    · rcases s a z' with y | y
      · exact dj a z y
      · exact d a y (List.mem_append_left _ z)
    · rcases List.mem_append.mp z with z | z
      · exact .inl (List.mem_append_left _ z)
      · exact (s a z).imp (fun z => List.mem_append_right _ z) id
def del (H : Hp) (L : Addr) : Hp := fun a => if a = L then none else H a
theorem del_sub {L : Addr} : Same (del H L) H := fun a o e => by
  unfold del at e
  split at e
  · cases e
  · exact e
theorem del_of {L : Addr} (s : Same h H) (n : h L = none) : Same h (del H L) := fun a o e => by
  unfold del
  rw [if_neg (ne_of_none e n)]
  exact s a o e
theorem del_to {L : Addr} (s : ∀ a o, a ≠ L → H a = some o → H' a = some o) : Same (del H L) (del H' L) := fun a o e => by
  unfold del at e ⊢
  split at e
  · cases e
  · rename_i n
    rw [if_neg n]
    exact s a o n e
theorem read_lc {own : List Nat} {tg : Tg} {it : It} {cond elt : E} {wi : TI} {g : TG} {tt : TT} {te : TE} (ri : RI Y it wi) (rg : RG Y tg g) (rc : RT Y cond tt) (re : RE Y elt te) (hs : ∀ i, i ∈ tg.slots → i ∈ own)
    (hq : it.clo = true ∨ (cond.q && elt.q) = true) : RE Y (.lc own tg it cond elt) (tLc wi g tt te own) := by
  intro np mv sl σ H h rt vs F tr rt' rl hv Q k
  unfold ev at hv
  split at hv
  · cases hv
  · rename_i xs rt1 e1
    split at hv
    · rename_i ts rt2 e2
      cases hv
      refine ri np sl σ H h rt vs F xs rt1 rl e1 _ fun J H1 h1 F1 S st1 rl1 wk s1 clo q1 => ?_
      intro L hL
      let P : Nat → Hp → Prop := fun i H' => ∃ h' F' accV accT G rti, Stp F1 h1 H1 F' h' H' ∧ Rel Y.K Y.C (wipe σ own) H' h' (Mi.wip sl own) rti vs F' ∧ S h' (del H' L) ∧ H' L = some (.lst accV) ∧ h' L = none ∧ L ∉ F' ∧ Owns Y.K Y.C h' H' accV accT G ∧ L ∉ G ∧
        (∀ a, a ∈ G → a ∉ F') ∧ (∀ a, a ∈ G → a ∈ F1 ∨ H1 a = none) ∧
        lcGo (fun x => bind (Mi.wip sl own) tg x) (fun sl rt => tstOf (ev (cfg Y np) false sl cond rt)) (fun sl rt => ev (cfg Y np) false sl elt rt) (xs.drop i) accT rti = some (ts, rt') ∧ ((cond.q && elt.q) = true → Same H1 H')
      refine ⟨fun i m H' => m = xs.length - i ∧ i ≤ xs.length ∧ P i H', ⟨xs.length, by simp, Nat.zero_le _, ?_⟩, ?_⟩
      · have g0 : Grew h1 H1 h1 (upd H1 L (.lst [])) := upd_grew0 rl1.sub hL
        refine ⟨h1, F1, [], [], [], rt1, g0.stp, (g0.rel rl1).wip own, wk.up h1 H1 h1 _ s1 (Same.refl _) (del_of g0.sub (rl1.sub.free hL)) (fun a o e => del_of g0.big hL a o e), upd_same, rl1.sub.free hL, fun z => ?_, .nil, by simp, fun a z => absurd z (by simp), fun a z => absurd z (by simp), e2, fun _ => g0.big⟩
        obtain ⟨_, o, e⟩ := rl1.own.at L z
        rw [hL] at e
        cases e
      · rintro i m H2 ⟨rfl, hi, h2, F2, accV, accT, G, rti, st2, rl2, sd, eL, nL, LF, ow, LG, dj, fr, go, qq⟩
        have s2 : S h2 H2 := wk.up h2 (del H2 L) h2 H2 sd (Same.refl _) rl2.sub del_sub
        by_cases hlt : i < xs.length
        · right
          refine ⟨wk.go i h2 H2 s2 rl2.sub hlt, P (i + 1), fun H' p => ⟨xs.length - (i + 1), by omega, rfl, hlt, p⟩, fun x H3 hy => ?_⟩
          obtain ⟨d, h3, d1, g3, d2⟩ := wk.yl i h2 H2 x H3 s2 rl2.sub hy hlt
          have rl3 := g3.rel rl2
          have hd : xs.drop i = d :: xs.drop (i + 1) := by
            obtain ⟨hh, he⟩ := List.getElem?_eq_some_iff.mp d1
            rw [List.drop_eq_getElem_cons hh, he]
          rw [hd] at go
          unfold lcGo at go
          split at go
          · cases go
          · rename_i sl4 e4
            refine rg (wipe σ own) H3 h3 _ rti vs F2 x d sl4 rl3 d2 e4 _ fun σ4 rl4 w4 => ?_
            refine ⟨by rw [w4 own hs]; exact wipe_wipe, ?_⟩
            split at go
            · cases go
            · -- the test fails
              rename_i rt5 e5
              refine rc np sl4 σ4 H3 h3 rti vs F2 false rt5 rl4 e5 _ fun H5 h5 F5 st5 rl5 q5 => ?_
              have o3 := g3.stp (F := F2).out eL LF nL
              have o5 := st5.out o3.1 o3.2.1 o3.2.2
              obtain ⟨ow3, dj3⟩ := g3.stp (F := F2).owns ow dj
              obtain ⟨ow5, dj5⟩ := st5.owns ow3 dj3
              have up5 : Same h2 h5 := g3.sml.trans st5.up
              refine ⟨h5, F5, accV, accT, G, rt5, (st2.trans g3.stp).trans st5, ⟨rl5.sub, rl5.own, fun j s e => ?_, rl2.len⟩, ?_, o5.1, o5.2.2, o5.2.1, ow5, LG, dj5, fr, go, fun z => ?_⟩
              · obtain ⟨v, v1, v2⟩ := rl2.slt j s e
                exact ⟨v, v1, v2.mono up5⟩
              · rcases hq with z | z
                · exact clo z h2 (del H2 L) h5 (del H5 L) sd up5 (del_of rl5.sub o5.2.2)
                · rw [Bool.and_eq_true] at z
                  exact wk.up h2 (del H2 L) h5 (del H5 L) sd up5 (del_of rl5.sub o5.2.2) (del_to fun a o _ e => q5 z.1 a o (g3.big a o e))
              · have z' := z
                rw [Bool.and_eq_true] at z'
                exact ((qq z).trans g3.big).trans (q5 z'.1)
            · -- it holds
              rename_i rt5 e5
              refine rc np sl4 σ4 H3 h3 rti vs F2 true rt5 rl4 e5 _ fun H5 h5 F5 st5 rl5 q5 => ?_
              have o3 := g3.stp (F := F2).out eL LF nL
              have o5 := st5.out o3.1 o3.2.1 o3.2.2
              obtain ⟨ow3, dj3⟩ := g3.stp (F := F2).owns ow dj
              obtain ⟨ow5, dj5⟩ := st5.owns ow3 dj3
              split at go
              · cases go
              · rename_i t rt6 e6
                split at go
                · rename_i hz
                  refine re np false sl4 σ4 H5 h5 rt5 vs F5 t rt6 rl5 e6 _ fun v H6 h6 F6 G6 st6 rl6 ow6 dj6 fr6 q6 => ?_
                  have o6 := st6.out o5.1 o5.2.1 o5.2.2
                  obtain ⟨ow6', dj6'⟩ := st6.owns ow5 dj5
                  refine ⟨accV, o6.1, by rw [ow.length]; exact hz, ?_⟩
                  have stA : Stp F1 h1 H1 F6 h6 H6 := ((st2.trans g3.stp).trans st5).trans st6
                  have LG6 : L ∉ G6 := fun z => by
                    rcases fr6 L z with y | y
                    · exact o5.2.1 y
                    · rw [o5.1] at y; cases y
                  have up6 : Same h2 h6 := (g3.sml.trans st5.up).trans st6.up
                  have ne : ∀ a, a ≠ L → (upd H6 L (.lst (accV ++ [v]))) a = H6 a := fun a z => upd_ne z
                  have sub7 : Same h6 (upd H6 L (.lst (accV ++ [v]))) := fun a o e => by
                    rw [ne a fun z => by rw [z, o6.2.2] at e; cases e]
                    exact rl6.sub a o e
                  obtain ⟨F7, ow7, s7⟩ := ow6'.append1 ow6 fun a z z' => by
                    rcases fr6 a z with y | y
                    · exact dj5 a z' y
                    · obtain ⟨_, o, e⟩ := ow5.at a z'
                      rw [y] at e; cases e
                  have LF7 : L ∉ F7 := fun z => (s7 L z).elim LG LG6
                  refine ⟨h6, F6, accV ++ [v], accT ++ [t], F7, rt6, stA.updL hL, ⟨sub7, ?_, fun j s e => ?_, rl2.len⟩, ?_, upd_same, o6.2.2, o6.2.1, ?_, LF7, fun a z => ?_, fun a z => ?_, go, fun z => ?_⟩
                  · exact rl6.own.stay (Same.refl _) fun a z => ⟨ne a fun y => o6.2.1 (y ▸ z), (rl6.own.at a z).1⟩
                  · obtain ⟨v, v1, v2⟩ := rl2.slt j s e
                    exact ⟨v, v1, v2.mono up6⟩
                  · rcases hq with z | z
                    · exact clo z h2 (del H2 L) h6 _ sd up6 (del_of sub7 o6.2.2)
                    · rw [Bool.and_eq_true] at z
                      exact wk.up h2 (del H2 L) h6 _ sd up6 (del_of sub7 o6.2.2) (del_to fun a o n e => (ne a n).trans (q6 z.2 a o (q5 z.1 a o (g3.big a o e))))
                  · exact ow7.stay (Same.refl _) fun a z => ⟨ne a fun y => LF7 (y ▸ z), (ow7.at a z).1⟩
                  · exact (s7 a z).elim (dj6' a) (dj6 a)
                  · rcases s7 a z with y | y
                    · exact fr a y
                    · rcases fr6 a y with y | y
                      · rcases ((st2.trans g3.stp).trans st5).fp a y with w | w
                        · exact .inl w
                        · exact .inr w
                      · exact ((st2.trans g3.stp).trans st5).back a y
                  · have z' := z
                    rw [Bool.and_eq_true] at z'
                    intro a o e
                    rw [ne a (ne_of_none e hL)]
                    exact q6 z'.2 a o (q5 z'.1 a o (g3.big a o (qq z a o e)))
                · cases go
        · left
          have e : i = xs.length := by omega
          subst e
          rw [List.drop_length] at go
          unfold lcGo at go
          cases go
          refine ⟨wk.stop h2 H2 s2 rl2.sub, ?_⟩
          refine k (.ref L) H2 h2 F2 (L :: G) (st1.trans st2) ⟨rl2.sub, rl2.own, fun j s e => ?_, rl1.len⟩ (.ls eL nL ow LG) (fun a z => ?_) (fun a z => ?_) fun z => ?_
          · obtain ⟨v, v1, v2⟩ := rl1.slt j s e
            exact ⟨v, v1, v2.mono st2.up⟩
          · rcases List.mem_cons.mp z with rfl | z
            · exact LF
            · exact dj a z
          · rcases List.mem_cons.mp z with rfl | z
            · exact st1.back _ hL
            · rcases fr a z with y | y
              · rcases st1.fp a y with w | w
                · exact .inl w
                · exact .inr w
              · exact st1.back a y
          · unfold E.q at z
            simp only [Bool.and_eq_true] at z
            exact (q1 z.1.1).trans (qq (by rw [z.1.2, z.2]; rfl))
    · cases hv
theorem read_lc2 {own own1 : List Nat} {tg tg1 : Tg} {it it1 : It} {elt : E} {wi wi1 : TI} {g g1 : TG} {te : TE} (ri : RI Y it wi) (rg : RG Y tg g) (ri1 : RI Y it1 wi1) (rg1 : RG Y tg1 g1) (re : RE Y elt te) (hs : ∀ i, i ∈ tg.slots → i ∈ own) (hs1 : ∀ i, i ∈ tg1.slots → i ∈ own1)
    (c0 : it.clo = true) (c1 : it1.clo = true) : RE Y (.lc2 own own1 tg it tg1 it1 elt) (tLc2 wi g tYes wi1 g1 tYes te own own1) := by
  intro np mv sl σ H h rt vs F tr rt' rl hv Q k
  unfold ev at hv
  split at hv
  · cases hv
  · rename_i xs rt1 e1
    split at hv
    · rename_i ts rt2 e2
      cases hv
      refine ri np sl σ H h rt vs F xs rt1 rl e1 _ fun J H1 h1 F1 S st1 rl1 wk s1 clo q1 => ?_
      intro L hL
      let P : Nat → Hp → Prop := fun i H' => ∃ h' F' accV accT G rti, Stp F1 h1 H1 F' h' H' ∧ Rel Y.K Y.C (wipe σ own) H' h' (Mi.wip sl own) rti vs F' ∧ S h' (del H' L) ∧ H' L = some (.lst accV) ∧ h' L = none ∧ L ∉ F' ∧ Owns Y.K Y.C h' H' accV accT G ∧ L ∉ G ∧
        (∀ a, a ∈ G → a ∉ F') ∧ (∀ a, a ∈ G → a ∈ F1 ∨ H1 a = none) ∧
        lc2Go (fun x => bind (Mi.wip sl own) tg x) (fun sl rt => evI (cfg Y np) sl it1 rt) (fun sl x => bind (Mi.wip sl own1) tg1 x) (fun sl rt => ev (cfg Y np) false sl elt rt) (xs.drop i) accT rti = some (ts, rt') ∧ ((it1.q && elt.q) = true → Same H1 H')
      refine ⟨fun i m H' => m = xs.length - i ∧ i ≤ xs.length ∧ P i H', ⟨xs.length, by simp, Nat.zero_le _, ?_⟩, ?_⟩
      · have g0 : Grew h1 H1 h1 (upd H1 L (.lst [])) := upd_grew0 rl1.sub hL
        refine ⟨h1, F1, [], [], [], rt1, g0.stp, (g0.rel rl1).wip own, wk.up h1 H1 h1 _ s1 (Same.refl _) (del_of g0.sub (rl1.sub.free hL)) (fun a o e => del_of g0.big hL a o e), upd_same, rl1.sub.free hL, fun z => ?_, .nil, by simp, fun a z => absurd z (by simp), fun a z => absurd z (by simp), e2, fun _ => g0.big⟩
        obtain ⟨_, o, e⟩ := rl1.own.at L z
        rw [hL] at e
        cases e
      · rintro i m H2 ⟨rfl, hi, h2, F2, accV, accT, G, rti, st2, rl2, sd, eL, nL, LF, ow, LG, dj, fr, go, qq⟩
        have s2 : S h2 H2 := wk.up h2 (del H2 L) h2 H2 sd (Same.refl _) rl2.sub del_sub
        by_cases hlt : i < xs.length
        · right
          refine ⟨wk.go i h2 H2 s2 rl2.sub hlt, P (i + 1), fun H' p => ⟨xs.length - (i + 1), by omega, rfl, hlt, p⟩, fun x H3 hy => ?_⟩
          obtain ⟨d, h3, d1, g3, d2⟩ := wk.yl i h2 H2 x H3 s2 rl2.sub hy hlt
          have rl3 := g3.rel rl2
          have hd : xs.drop i = d :: xs.drop (i + 1) := by
            obtain ⟨hh, he⟩ := List.getElem?_eq_some_iff.mp d1
            rw [List.drop_eq_getElem_cons hh, he]
          rw [hd] at go
          unfold lc2Go at go
          split at go
          · cases go
          · rename_i sl4 e4
            refine rg (wipe σ own) H3 h3 _ rti vs F2 x d sl4 rl3 d2 e4 _ fun σ4 rl4 w4 => ?_
            refine ⟨by rw [w4 own hs]; exact wipe_wipe, ?_⟩
            unfold tYes
            simp only [if_true]
            split at go
            · cases go
            · rename_i ys rt4 e4i
              split at go
              · cases go
              · rename_i accE rtE e5
                refine ri1 np sl4 σ4 H3 h3 rti vs F2 ys rt4 rl4 e4i _ fun J1 H4 h4 F4 S1 st4 rl4' wk1 s1' clo1 q4 => ?_
                have o3 := g3.stp (F := F2).out eL LF nL
                have o4 := st4.out o3.1 o3.2.1 o3.2.2
                obtain ⟨ow3, dj3⟩ := g3.stp (F := F2).owns ow dj
                obtain ⟨ow4, dj4⟩ := st4.owns ow3 dj3
                let P1 : Nat → Hp → Prop := fun j H' => ∃ h' F' aV aT G' rtj, Stp F1 h1 H1 F' h' H' ∧ Rel Y.K Y.C (wipe σ4 own1) H' h' (Mi.wip sl4 own1) rtj vs F' ∧ S1 h' (del H' L) ∧ H' L = some (.lst aV) ∧ h' L = none ∧ L ∉ F' ∧ Owns Y.K Y.C h' H' aV aT G' ∧ L ∉ G' ∧
                  (∀ a, a ∈ G' → a ∉ F') ∧ (∀ a, a ∈ G' → a ∈ F1 ∨ H1 a = none) ∧
                  lcGo (fun x => bind (Mi.wip sl4 own1) tg1 x) (fun _ rt => some (true, rt)) (fun sl rt => ev (cfg Y np) false sl elt rt) (ys.drop j) aT rtj = some (accE, rtE) ∧ Same h2 h' ∧ ((it1.q && elt.q) = true → Same H1 H')
                have SA : Stp F1 h1 H1 F4 h4 H4 := (st2.trans g3.stp).trans st4
                refine ⟨fun j k H' => k = ys.length - j ∧ j ≤ ys.length ∧ P1 j H', ⟨ys.length, by simp, Nat.zero_le _, ?_⟩, ?_⟩
                · refine ⟨h4, F4, accV, accT, G, rt4, SA, rl4'.wip own1, clo1 c1 h4 H4 h4 _ s1' (Same.refl _) (del_of rl4'.sub o4.2.2), o4.1, o4.2.2, o4.2.1, ow4, LG, dj4, fr, e5, g3.sml.trans st4.up, fun z => ?_⟩
                  have z' := z
                  rw [Bool.and_eq_true] at z'
                  exact ((qq z).trans g3.big).trans (q4 z'.1)
                · rintro j k H5 ⟨rfl, hj, h5, F5, aV, aT, G5, rtj, st5, rl5, sd5, eL5, nL5, LF5, ow5, LG5, dj5, fr5, go5, up5, qq5⟩
                  have s5 : S1 h5 H5 := wk1.up h5 (del H5 L) h5 H5 sd5 (Same.refl _) rl5.sub del_sub
                  by_cases hlt5 : j < ys.length
                  · right
                    refine ⟨wk1.go j h5 H5 s5 rl5.sub hlt5, P1 (j + 1), fun H' p => ⟨ys.length - (j + 1), by omega, rfl, hlt5, p⟩, fun x5 H6 hy5 => ?_⟩
                    obtain ⟨d5, h6, d51, g6, d52⟩ := wk1.yl j h5 H5 x5 H6 s5 rl5.sub hy5 hlt5
                    have rl6 := g6.rel rl5
                    have hd5 : ys.drop j = d5 :: ys.drop (j + 1) := by
                      obtain ⟨hh, he⟩ := List.getElem?_eq_some_iff.mp d51
                      rw [List.drop_eq_getElem_cons hh, he]
                    rw [hd5] at go5
                    unfold lcGo at go5
                    split at go5
                    · cases go5
                    · rename_i sl7 e7
                      refine rg1 (wipe σ4 own1) H6 h6 _ rtj vs F5 x5 d5 sl7 rl6 d52 e7 _ fun σ7 rl7 w7 => ?_
                      refine ⟨by rw [w7 own1 hs1]; exact wipe_wipe, ?_⟩
                      simp only at go5
                      have o6 := g6.stp (F := F5).out eL5 LF5 nL5
                      obtain ⟨ow6, dj6⟩ := g6.stp (F := F5).owns ow5 dj5
                      split at go5
                      · cases go5
                      · rename_i t rt8 e8
                        split at go5
                        · rename_i hz
                          refine re np false sl7 σ7 H6 h6 rtj vs F5 t rt8 rl7 e8 _ fun v H8 h8 F8 G8 st8 rl8 ow8 dj8 fr8 q8 => ?_
                          have o8 := st8.out o6.1 o6.2.1 o6.2.2
                          obtain ⟨ow8', dj8'⟩ := st8.owns ow6 dj6
                          refine ⟨aV, o8.1, by rw [ow5.length]; exact hz, ?_⟩
                          have stA : Stp F1 h1 H1 F8 h8 H8 := (st5.trans g6.stp).trans st8
                          have LG8 : L ∉ G8 := fun z => by
                            rcases fr8 L z with y | y
                            · exact o6.2.1 y
                            · rw [o6.1] at y; cases y
                          have up8 : Same h5 h8 := g6.sml.trans st8.up
                          have ne : ∀ a, a ≠ L → (upd H8 L (.lst (aV ++ [v]))) a = H8 a := fun a z => upd_ne z
                          have sub9 : Same h8 (upd H8 L (.lst (aV ++ [v]))) := fun a o e => by
                            rw [ne a fun z => by rw [z, o8.2.2] at e; cases e]
                            exact rl8.sub a o e
                          obtain ⟨F9, ow9, s9⟩ := ow8'.append1 ow8 fun a z z' => by
                            rcases fr8 a z with y | y
                            · exact dj6 a z' y
                            · obtain ⟨_, o, e⟩ := ow6.at a z'
                              rw [y] at e; cases e
                          have LF9 : L ∉ F9 := fun z => (s9 L z).elim LG5 LG8
                          refine ⟨h8, F8, aV ++ [v], aT ++ [t], F9, rt8, stA.updL hL, ⟨sub9, ?_, fun j s e => ?_, rl5.len⟩, ?_, upd_same, o8.2.2, o8.2.1, ?_, LF9, fun a z => ?_, fun a z => ?_, go5, up5.trans up8, fun z => ?_⟩
                          · exact rl8.own.stay (Same.refl _) fun a z => ⟨ne a fun y => o8.2.1 (y ▸ z), (rl8.own.at a z).1⟩
                          · obtain ⟨v, v1, v2⟩ := rl5.slt j s e
                            exact ⟨v, v1, v2.mono up8⟩
                          · exact clo1 c1 h5 (del H5 L) h8 _ sd5 up8 (del_of sub9 o8.2.2)
                          · exact ow9.stay (Same.refl _) fun a z => ⟨ne a fun y => LF9 (y ▸ z), (ow9.at a z).1⟩
                          · exact (s9 a z).elim (dj8' a) (dj8 a)
                          · rcases s9 a z with y | y
                            · exact fr5 a y
                            · rcases fr8 a y with y | y
                              · rcases (st5.trans g6.stp).fp a y with w | w
                                · exact .inl w
                                · exact .inr w
                              · exact (st5.trans g6.stp).back a y
                          · have z' := z
                            rw [Bool.and_eq_true] at z'
                            intro a o e
                            rw [ne a (ne_of_none e hL)]
                            exact q8 z'.2 a o (g6.big a o (qq5 z a o e))
                        · cases go5
                  · left
                    have e : j = ys.length := by omega
                    subst e
                    rw [List.drop_length] at go5
                    unfold lcGo at go5
                    cases go5
                    refine ⟨wk1.stop h5 H5 s5 rl5.sub, ?_⟩
                    refine ⟨h5, F5, aV, accE, G5, rtE, st5, ⟨rl5.sub, rl5.own, fun j s e => ?_, rl2.len⟩, clo c0 h2 (del H2 L) h5 _ sd up5 (del_of rl5.sub nL5), eL5, nL5, LF5, ow5, LG5, dj5, fr5, go, qq5⟩
                    obtain ⟨v, v1, v2⟩ := rl2.slt j s e
                    exact ⟨v, v1, v2.mono up5⟩
        · left
          have e : i = xs.length := by omega
          subst e
          rw [List.drop_length] at go
          unfold lc2Go at go
          cases go
          refine ⟨wk.stop h2 H2 s2 rl2.sub, ?_⟩
          refine k (.ref L) H2 h2 F2 (L :: G) (st1.trans st2) ⟨rl2.sub, rl2.own, fun j s e => ?_, rl1.len⟩ (.ls eL nL ow LG) (fun a z => ?_) (fun a z => ?_) fun z => ?_
          · obtain ⟨v, v1, v2⟩ := rl1.slt j s e
            exact ⟨v, v1, v2.mono st2.up⟩
          · rcases List.mem_cons.mp z with rfl | z
            · exact LF
            · exact dj a z
          · rcases List.mem_cons.mp z with rfl | z
            · exact st1.back _ hL
            · rcases fr a z with y | y
              · rcases st1.fp a y with w | w
                · exact .inl w
                · exact .inr w
              · exact st1.back a y
          · unfold E.q at z
            simp only [Bool.and_eq_true] at z
            exact (q1 z.1.1).trans (qq (by rw [z.1.2, z.2]; rfl))
    · cases hv
end
end Mi
namespace Mi
open PySem PySem.Spec PyProof.Rows L2
section
variable {Y : Fx} {c : Ck} {X : Cx} {K : PySem.W.Frag} {C : Nat → Addr} {h H h' H' : Hp}
theorem write_at {σ : L2.St} {sl : Sl} {rt rt' : Rt} {vs : List V} {F F1 G F2 : List Addr} {p : P} {a : Addr} {o : HO} {u t' : T} (r : Rel Y.K Y.C σ H h sl rt vs F)
    (pr : Part Y.K Y.C h H F (.ref a) u F1 fun t' h' H' F' => ∀ rt', upP sl rt p t' = some rt' → OwnR Y.K Y.C h' H' vs rt' F') (aF : a ∈ F1) (ow : Own Y.K Y.C h (upd H a o) (.ref a) t' F2) (sub : ∀ b, b ∈ F2 → b ∈ F1 ∨ b ∈ G) (dj : ∀ b, b ∈ G → b ∉ F)
    (fr : ∀ b, b ∈ G → ∃ o, H b = some o) (e : upP sl rt p t' = some rt') : ∃ F', Rel Y.K Y.C σ (upd H a o) h sl rt' vs F' ∧ (∀ b, b ∈ F' → b ∈ F ∨ b ∈ G) ∧ Stp (F ++ G) h H F' h (upd H a o) := by
  obtain ⟨_, s1, w⟩ := pr
  obtain ⟨F', w1, w2⟩ := w h (upd H a o) t' F2 (Same.refl _) (fun b m n => ⟨upd_ne fun e => n (e ▸ aF), (r.own.at b m).1⟩) ow fun b m => (sub b m).imp id (dj b)
  have s2 : ∀ b, b ∈ F' → b ∈ F ∨ b ∈ G := fun b m => (w2 b m).elim .inl fun m => (sub b m).imp (s1 b) id
  have na : h a = none := (r.own.at a (s1 a aF)).1
  refine ⟨F', ⟨fun b ob e => ?_, w1 rt' e, r.slt, r.len⟩, s2, fun b ob e n => ?_, Same.refl _, fun b ob n e => ?_, fun b m => .inl (List.mem_append.mpr (s2 b m))⟩
  · rw [upd_ne fun e' => by rw [e', na] at e; cases e]
    exact r.sub b ob e
  · have hb : b ≠ a := fun e' => n (List.mem_append_left _ (by rw [e']; exact s1 a aF))
    rw [upd_ne hb]
    exact e
  · rw [n] at e
    cases e
theorem var_at {i : Nat} {σ : L2.St} {sl : Sl} {rt : Rt} {vs : List V} {F : List Addr} {u : T} {v : V} (rl : Rel Y.K Y.C σ H h sl rt vs F) (e : σ[i]? = some (some v)) (hp : pt sl rt (.var i) = some u) : AtP Y σ H h sl rt vs F (.var i) v u := by
  unfold pt at hp
  split at hp
  · rename_i d hs
    cases hp
    obtain ⟨w, w1, w2⟩ := rl.slt i _ hs
    rw [e] at w1
    cases w1
    refine ⟨[], ⟨.cl w2, fun a z => absurd z (by simp), fun h' H' t' F2 s fr o nw => ⟨F, fun rt' hr => ?_, fun a z => .inl z⟩⟩, fun a z => absurd z (by simp)⟩
    unfold upP at hr
    rw [hs] at hr
    cases hr
  · rename_i k hs
    obtain ⟨w, w1, w2⟩ := rl.slt i _ hs
    rw [e] at w1
    cases w1
    split at hp
    · rename_i t ht
      cases hp
      obtain ⟨vk, F1, e1, pr⟩ := rl.own.get ht
      have w2 : vs[k]? = some v := w2
      rw [w2] at e1
      cases e1
      refine ⟨F1, pr.mono (fun a z => z) (fun h' H' t' F2 F' _ _ x y _ => ⟨F', fun rt' hr => ?_, y⟩), fun a z k' tk vk Fk e2 e3 e4 o4 => ?_⟩
      · unfold upP at hr
        rw [hs] at hr
        simp only at hr
        split at hr
        · cases hr
          exact x
        · cases hr
      · have e2 : sl[i]? = some (some (.r k')) := e2
        rw [hs] at e2
        cases e2
        rw [ht] at e3
        cases e3
        rw [w2] at e4
        cases e4
        rw [o4.uniq pr.1]
        exact z
    · cases hp
  · cases hp
theorem owns_cl : ∀ {vs : List V} {ds : List D}, Reps K C h vs ds → Owns K C h H vs (cls ds) []
  | _, _, .nil => .nil
  | _, _, .cons a r => by
    have := Owns.cons (H := H) (.cl a) (owns_cl r) fun a m => absurd m (by simp)
    exact this
theorem reps_erase : ∀ {vs : List V} {ds : List D} (n : Nat), Reps K C h vs ds → Reps K C h (vs.eraseIdx n) (ds.eraseIdx n)
  | _, _, _, .nil => by simp; exact .nil
  | _, _, 0, .cons a r => r
  | _, _, n + 1, .cons a r => .cons a (reps_erase n r)
theorem popi_fin {i : Nat} {σ : L2.St} {sl : Sl} {rt rt' : Rt} {vs : List V} {F : List Addr} {o : V} {ts : List T} {ds : List D} {n : Nat} {d : D} (rl : Rel Y.K Y.C σ H h sl rt vs F) (at0 : AtP Y σ H h sl rt vs F (.var i) o (.ls ts)) (el : T.leaves ts = some ds) (hd : ds[n]? = some d)
    (e : upP sl rt (.var i) (.ls (cls (ds.eraseIdx n))) = some rt') : ∃ a xs z F', o = .ref a ∧ H a = some (.lst xs) ∧ xs.length = ds.length ∧ xs[n]? = some z ∧ Rep Y.K Y.C h z d ∧ Rel Y.K Y.C σ (upd H a (.lst (xs.eraseIdx n))) h sl rt' vs F' ∧ Stp F h H F' h (upd H a (.lst (xs.eraseIdx n))) := by
  obtain ⟨F0, pr, inn⟩ := at0
  clear inn
  have o0 := pr.1
  cases o0 with
  | ls q nn os na =>
    rename_i a xs F2
    obtain ⟨r, -⟩ := leaves_ok os el
    obtain ⟨z, hz, rz⟩ := r.get hd
    obtain ⟨F4, rl4, s4, st4⟩ := write_at (F2 := [a]) (G := []) rl pr List.mem_cons_self (.ls upd_same nn (owns_cl (reps_erase n r)) (by simp)) (fun b m => .inl (by rw [List.mem_singleton.mp m]; exact List.mem_cons_self)) (fun b m => absurd m (by simp)) (fun b m => absurd m (by simp)) e
    rw [List.append_nil] at st4
    exact ⟨a, xs, z, F4, rfl, q, r.length, hz, rz, rl4, st4⟩
end
end Mi
namespace Mi
open PySem PySem.Spec PyProof.Rows L2
section
variable {Y : Fx} {K : PySem.W.Frag} {C : Nat → Addr} {h H h' H' : Hp}
def kvI (p : Int × Int) : Key × V := (.inl p.1, .int p.2)
theorem putK_newI {acc : List (Int × Int)} {i j : Int} (n : (acc.all fun p => decide (p.1 ≠ i)) = true) : putK (acc.map kvI) (.inl i) (.int j) = (acc ++ [(i, j)]).map kvI := by
  have e : ((acc.map kvI).any fun kv => decide (kv.1 = .inl i)) = false := by
    rw [List.any_eq_false]
    intro x m
    obtain ⟨p, hp, rfl⟩ := List.mem_map.mp m
    have := of_decide_eq_true (List.all_eq_true.mp n p hp)
    intro z
    have z := of_decide_eq_true z
    exact this (Sum.inl.inj z)
  unfold putK
  rw [e, if_neg (by decide), List.map_append]
  rfl
theorem owns_ints : ∀ acc : List (Int × Int), Owns K C h H ((acc.map kvI).map (·.2)) (acc.map fun p => T.cl (.int p.2)) []
  | [] => .nil
  | p :: acc => .cons (F := []) (G := []) (.cl (.int p.2)) (owns_ints acc) (fun a z => by cases z)
theorem read_dc {own : List Nat} {tg : Tg} {it : It} {kx vx : E} {wi : TI} {g : TG} {tk tv : TE} (ri : RI Y it wi) (rg : RG Y tg g) (rk : RE Y kx tk) (re : RE Y vx tv) (hs : ∀ i, i ∈ tg.slots → i ∈ own)
    (hq : it.clo = true) : RE Y (.dcc own tg it kx vx) (tDc wi g tYes tk tv own) := by
  intro np mv sl σ H h rt vs F tr rt' rl hv Q k
  unfold ev at hv
  split at hv
  · cases hv
  · rename_i xs rt1 e1
    split at hv
    · rename_i accE rt2 e2
      cases hv
      refine ri np sl σ H h rt vs F xs rt1 rl e1 _ fun J H1 h1 F1 S st1 rl1 wk s1 clo q1 => ?_
      intro L hL
      let P : Nat → Hp → Prop := fun i H' => ∃ h' F' acc rti, Stp F1 h1 H1 F' h' H' ∧ Rel Y.K Y.C (wipe σ own) H' h' (Mi.wip sl own) rti vs F' ∧ S h' (del H' L) ∧ H' L = some (.dK (acc.map kvI)) ∧ h' L = none ∧ L ∉ F' ∧
        dcGo (fun x => bind (Mi.wip sl own) tg x) (fun sl rt => ev (cfg Y np) false sl kx rt) (fun sl rt => ev (cfg Y np) false sl vx rt) (xs.drop i) acc rti = some (accE, rt') ∧ ((kx.q && vx.q) = true → Same H1 H')
      refine ⟨fun i m H' => m = xs.length - i ∧ i ≤ xs.length ∧ P i H', ⟨xs.length, by simp, Nat.zero_le _, ?_⟩, ?_⟩
      · have g0 : Grew h1 H1 h1 (upd H1 L (.dK [])) := upd_grew0 rl1.sub hL
        refine ⟨h1, F1, [], rt1, g0.stp, (g0.rel rl1).wip own, wk.up h1 H1 h1 _ s1 (Same.refl _) (del_of g0.sub (rl1.sub.free hL)) (fun a o e => del_of g0.big hL a o e), upd_same, rl1.sub.free hL, fun z => ?_, e2, fun _ => g0.big⟩
        obtain ⟨_, o, e⟩ := rl1.own.at L z
        rw [hL] at e
        cases e
      · rintro i m H2 ⟨rfl, hi, h2, F2, acc, rti, st2, rl2, sd, eL, nL, LF, go, qq⟩
        have s2 : S h2 H2 := wk.up h2 (del H2 L) h2 H2 sd (Same.refl _) rl2.sub del_sub
        by_cases hlt : i < xs.length
        · right
          refine ⟨wk.go i h2 H2 s2 rl2.sub hlt, P (i + 1), fun H' p => ⟨xs.length - (i + 1), by omega, rfl, hlt, p⟩, fun x H3 hy => ?_⟩
          obtain ⟨d, h3, d1, g3, d2⟩ := wk.yl i h2 H2 x H3 s2 rl2.sub hy hlt
          have rl3 := g3.rel rl2
          have hd : xs.drop i = d :: xs.drop (i + 1) := by
            obtain ⟨hh, he⟩ := List.getElem?_eq_some_iff.mp d1
            rw [List.drop_eq_getElem_cons hh, he]
          rw [hd] at go
          unfold dcGo at go
          split at go
          · cases go
          · rename_i sl4 e4
            refine rg (wipe σ own) H3 h3 _ rti vs F2 x d sl4 rl3 d2 e4 _ fun σ4 rl4 w4 => ?_
            refine ⟨by rw [w4 own hs]; exact wipe_wipe, ?_⟩
            split at go
            · rename_i ki rt5 e5
              show tk σ4 H3 _
              refine rk.d rl4 e5 fun v H5 h5 F5 st5 rl5 r5 q5 => ?_
              split at go
              · rename_i vj rt6 e6
                refine re.d rl5 e6 fun w H6 h6 F6 st6 rl6 r6 q6 => ?_
                split at go
                · rename_i hz
                  have r5 : Rep Y.K Y.C h5 v (.int ki) := r5
                  have r6 : Rep Y.K Y.C h6 w (.int vj) := r6
                  cases r5
                  cases r6
                  have o3 := g3.stp (F := F2).out eL LF nL
                  have o5 := st5.out o3.1 o3.2.1 o3.2.2
                  have o6 := st6.out o5.1 o5.2.1 o5.2.2
                  refine ⟨acc.map kvI, .inl ki, rfl, o6.1, by rw [List.length_map]; exact hz.1, ?_⟩
                  rw [putK_newI hz.2]
                  have stA : Stp F1 h1 H1 F6 h6 H6 := ((st2.trans g3.stp).trans st5).trans st6
                  have up6 : Same h2 h6 := (g3.sml.trans st5.up).trans st6.up
                  have ne : ∀ a, a ≠ L → (upd H6 L (.dK ((acc ++ [(ki, vj)]).map kvI))) a = H6 a := fun a z => upd_ne z
                  have sub7 : Same h6 (upd H6 L (.dK ((acc ++ [(ki, vj)]).map kvI))) := fun a o e => by
                    rw [ne a fun z => by rw [z, o6.2.2] at e; cases e]
                    exact rl6.sub a o e
                  refine ⟨h6, F6, acc ++ [(ki, vj)], _, stA.updL hL, ⟨sub7, ?_, fun j s e => ?_, rl2.len⟩, ?_, upd_same, o6.2.2, o6.2.1, go, fun z => ?_⟩
                  · exact rl6.own.stay (Same.refl _) fun a z => ⟨ne a fun y => o6.2.1 (y ▸ z), (rl6.own.at a z).1⟩
                  · obtain ⟨v, v1, v2⟩ := rl2.slt j s e
                    exact ⟨v, v1, v2.mono up6⟩
                  · exact clo hq h2 (del H2 L) h6 _ sd up6 (del_of sub7 o6.2.2)
                  · have z' := z
                    rw [Bool.and_eq_true] at z'
                    intro a o e
                    rw [ne a (ne_of_none e hL)]
                    exact q6 z'.2 a o (q5 z'.1 a o (g3.big a o (qq z a o e)))
                · cases go
              · cases go
            · cases go
        · left
          have e : i = xs.length := by omega
          subst e
          rw [List.drop_length] at go
          unfold dcGo at go
          cases go
          refine ⟨wk.stop h2 H2 s2 rl2.sub, ?_⟩
          refine k (.ref L) H2 h2 F2 (L :: []) (st1.trans st2) ⟨rl2.sub, rl2.own, fun j s e => ?_, rl1.len⟩ (.dc eL nL (by rw [List.map_map]; rfl) (owns_ints accE) (fun z => by cases z)) (fun a z => ?_) (fun a z => ?_) fun z => ?_
          · obtain ⟨v, v1, v2⟩ := rl1.slt j s e
            exact ⟨v, v1, v2.mono st2.up⟩
          · rw [List.mem_singleton.mp z]
            exact LF
          · rw [List.mem_singleton.mp z]
            exact st1.back _ hL
          · have z' := z
            rw [show (E.dcc own tg it kx vx).q = (it.q && (kx.q && vx.q)) from rfl, Bool.and_eq_true] at z'
            exact (q1 z'.1).trans (qq z'.2)
    · cases hv
end
end Mi
namespace Mi
open PySem PySem.Spec PyProof.Rows L2
section
variable {Y : Fx} {σ : L2.St} {H h H1 h1 : Hp} {sl : Sl} {rt rt1 rt2 rt' : Rt} {vs : List V} {F G1 : List Addr} {a b : E} {ta tb : TE} {tA tB' : TT}
theorem ROk.thn {q qa qb : Bool} {Q : VK} {t : T} (k : ROk Y σ H h sl rt' vs F q Q t) (st : Stp F h H G1 h1 H1) (s : qa = true → Same H H1) (hq : q = true → qa = true ∧ qb = true) : ROk Y σ H1 h1 sl rt' vs G1 qb Q t :=
  fun v H' h' F' G st2 rl ow dj fr qq => k v H' h' F' G (st.trans st2) rl ow dj (fun a z => (fr a z).elim (st.fp a) (st.back a)) fun z => (s (hq z).1).trans (qq (hq z).2)
theorem BOk.thn {q qa qb : Bool} {Q : Bool → Hp → Prop} {t : Bool} (k : BOk Y σ H h sl rt' vs F q Q t) (st : Stp F h H G1 h1 H1) (s : qa = true → Same H H1) (hq : q = true → qa = true ∧ qb = true) : BOk Y σ H1 h1 sl rt' vs G1 qb Q t :=
  fun H' h' F' st2 rl qq => k H' h' F' (st.trans st2) rl fun z => (s (hq z).1).trans (qq (hq z).2)
theorem and_tt {x y : Bool} (h : (x && y) = true) : x = true ∧ y = true := by rwa [Bool.and_eq_true] at h
theorem tst_eq {o : Option (T × Rt)} {b : Bool} (e : tstOf o = some (b, rt')) : o = some (.cl (.bl b), rt') := by
  unfold tstOf at e
  split at e
  · cases e; rfl
  · cases e
theorem ROk.bl {q qa : Bool} {Q : VK} {c : Bool} (k : ROk Y σ H h sl rt' vs F q Q (.cl (.bl c))) (st : Stp F h H G1 h1 H1) (rl : Rel Y.K Y.C σ H1 h1 sl rt' vs G1) (s : q = true → Same H H1) : Q (.bl c) H1 :=
  k.val st rl s (fun z => z) (.bl c)
theorem re_c {e : E} {d : D} {v : V} (hh : ∀ np mv sl rt, ev (cfg Y np) mv sl e rt = some (.cl d, rt)) (rp : ∀ h, Rep Y.K Y.C h v d) : RE Y e (tC v) := by
  intro np mv sl σ H h rt vs F tr rt' rl hv Q k
  rw [hh] at hv
  cases hv
  exact k.val (q1 := true) Stp.refl rl (fun _ => Same.refl H) (fun _ => rfl) (rp h)
theorem rt_of {e : E} {t : TE} (re : RE Y e t) : RT Y e (tB t) := by
  intro np sl σ H h rt vs F b rt' rl hv Q k
  refine re np false sl σ H h rt vs F _ _ rl (tst_eq hv) _ fun v H' h' F' G st rl' ow dj fr qq => ?_
  have rp := rep_d ow
  cases rp
  exact ⟨b, rfl, k H' h' F' st rl' qq⟩
theorem two (ra : RE Y a ta) (rb : RE Y b tb) {np : Nat} {x y : T} {R : V → V → Hp → Prop} (rl : Rel Y.K Y.C σ H h sl rt vs F) (e1 : ev (cfg Y np) false sl a rt = some (x, rt1)) (e2 : ev (cfg Y np) false sl b rt1 = some (y, rt2))
    (k : ∀ v w H2 h2 F2, Stp F h H F2 h2 H2 → Rel Y.K Y.C σ H2 h2 sl rt2 vs F2 → Rep Y.K Y.C h2 v x.d → Rep Y.K Y.C h2 w y.d → ((a.q && b.q) = true → Same H H2) → R v w H2) : ta σ H fun v H1 => tb σ H1 fun w H2 => R v w H2 := by
  refine ra.d rl e1 fun v H1 h1 F1 st1 rl1 r1 q1 => ?_
  refine rb.d rl1 e2 fun w H2 h2 F2 st2 rl2 r2 q2 => ?_
  exact k v w H2 h2 F2 (st1.trans st2) rl2 (r1.mono st2.up) r2 fun z => (q1 (and_tt z).1).trans (q2 (and_tt z).2)
theorem re_bin {op : BOp} (ra : RE Y a ta) (rb : RE Y b tb) : RE Y (.bin op a b) (tOp (rB Y.K Y.C op) ta tb) := by
  intro np mv sl σ H h rt vs F tr rt' rl hv Q k
  unfold ev at hv
  split at hv
  · cases hv
  · rename_i x rt1 e1
    split at hv
    · cases hv
    · rename_i y rt2 e2
      obtain ⟨t, e3, e4⟩ := Option.map_eq_some_iff.mp hv
      cases e4
      exact two ra rb rl e1 e2 fun v w H2 h2 F2 st rl2 r1 r2 s => ⟨h2, x.d, y.d, _, rl2.sub, r1, r2, e3, k.made st rl2 s fun z => z⟩
theorem re_cmp {op : COp} (ra : RE Y a ta) (rb : RE Y b tb) : RE Y (.cmp op a b) (tOp (rC Y.K Y.C op) ta tb) := by
  intro np mv sl σ H h rt vs F tr rt' rl hv Q k
  unfold ev at hv
  split at hv
  · cases hv
  · rename_i x rt1 e1
    split at hv
    · cases hv
    · rename_i y rt2 e2
      obtain ⟨t, e3, e4⟩ := Option.map_eq_some_iff.mp hv
      cases e4
      exact two ra rb rl e1 e2 fun v w H2 h2 F2 st rl2 r1 r2 s => ⟨h2, x.d, y.d, _, rl2.sub, r1, r2, e3, k.val st rl2 s (fun z => z) (.bl _)⟩
theorem re_ix (ra : RE Y a ta) (rb : RE Y b tb) : RE Y (.ix a b) (tOp (rIxA Y.K Y.C) ta tb) := by
  intro np mv sl σ H h rt vs F tr rt' rl hv Q k
  unfold ev at hv
  split at hv
  · cases hv
  · rename_i x rt1 e1
    split at hv
    · cases hv
    · rename_i y rt2 e2
      obtain ⟨t, e3, e4⟩ := Option.map_eq_some_iff.mp hv
      cases e4
      exact two ra rb rl e1 e2 fun v w H2 h2 F2 st rl2 r1 r2 s => ⟨h2, x.d, y.d, _, rl2.sub, r1, r2, e3, fun z rz => k.val st rl2 s (fun z => z) rz⟩
theorem re_f2 {f : Mi.F2} (ra : RE Y a ta) (rb : RE Y b tb) : RE Y (.f2 f a b) (tCB (rF2 Y.K Y.C f) (tCons ta (tCons tb tNil))) := by
  intro np mv sl σ H h rt vs F tr rt' rl hv Q k
  unfold ev at hv
  split at hv
  · cases hv
  · rename_i x rt1 e1
    split at hv
    · cases hv
    · rename_i y rt2 e2
      obtain ⟨t, e3, e4⟩ := Option.map_eq_some_iff.mp hv
      cases e4
      exact two ra rb rl e1 e2 fun v w H2 h2 F2 st rl2 r1 r2 s => ⟨h2, v, x.d, w, y.d, _, rfl, rl2.sub, r1, r2, e3, k.made st rl2 s fun z => z⟩
theorem re_neg (ra : RE Y a ta) : RE Y (.neg a) (tUn (rU fun i => .int (-i)) ta) := by
  intro np mv sl σ H h rt vs F tr rt' rl hv Q k
  unfold ev at hv
  split at hv
  · rename_i i rt1 e1
    cases hv
    refine ra.d rl e1 fun v H1 h1 F1 st1 rl1 r1 q1 => ?_
    cases r1
    exact ⟨i, rfl, k.val st1 rl1 q1 (fun z => z) (.int _)⟩
  · cases hv
theorem re_not (ra : RE Y a ta) : RE Y (.not a) (tNotV ta) := by
  intro np mv sl σ H h rt vs F tr rt' rl hv Q k
  unfold ev at hv
  split at hv
  · rename_i i rt1 e1
    cases hv
    refine ra.d rl e1 fun v H1 h1 F1 st1 rl1 r1 q1 => ?_
    cases r1
    exact ⟨i, rfl, k.val st1 rl1 q1 (fun z => z) (.bl _)⟩
  · cases hv
theorem rt_not (ra : RT Y a tA) : RT Y (.not a) (tNot tA) := by
  intro np sl σ H h rt vs F bb rt' rl hv Q k
  have hv := tst_eq hv
  unfold ev at hv
  split at hv
  · rename_i i rt1 e1
    cases hv
    exact ra np sl σ H h rt vs F i _ rl (by rw [e1]; rfl) _ fun H1 h1 F1 st1 rl1 q1 => k H1 h1 F1 st1 rl1 q1
  · cases hv
theorem re_and (ra : RE Y a ta) (rb : RE Y b tb) : RE Y (.and a b) (tAndV ta tb) := by
  intro np mv sl σ H h rt vs F tr rt' rl hv Q k
  unfold ev at hv
  split at hv
  · rename_i rt1 e1
    refine ra.d rl e1 fun v H1 h1 F1 st1 rl1 r1 q1 => ?_
    cases r1
    refine ⟨true, rfl, ?_⟩
    rw [if_pos rfl]
    exact rb np false sl σ H1 h1 rt1 vs F1 _ _ rl1 hv Q (k.thn st1 q1 and_tt)
  · rename_i rt1 e1
    cases hv
    refine ra.d rl e1 fun v H1 h1 F1 st1 rl1 r1 q1 => ?_
    cases r1
    refine ⟨false, rfl, ?_⟩
    rw [if_neg Bool.false_ne_true]
    exact k.bl (qa := true) st1 rl1 fun z => q1 (and_tt z).1
  · cases hv
theorem re_or (ra : RE Y a ta) (rb : RE Y b tb) : RE Y (.or a b) (tOrV ta tb) := by
  intro np mv sl σ H h rt vs F tr rt' rl hv Q k
  unfold ev at hv
  split at hv
  · rename_i rt1 e1
    cases hv
    refine ra.d rl e1 fun v H1 h1 F1 st1 rl1 r1 q1 => ?_
    cases r1
    refine ⟨true, rfl, ?_⟩
    rw [if_pos rfl]
    exact k.bl (qa := true) st1 rl1 fun z => q1 (and_tt z).1
  · rename_i rt1 e1
    refine ra.d rl e1 fun v H1 h1 F1 st1 rl1 r1 q1 => ?_
    cases r1
    refine ⟨false, rfl, ?_⟩
    rw [if_neg Bool.false_ne_true]
    exact rb np false sl σ H1 h1 rt1 vs F1 _ _ rl1 hv Q (k.thn st1 q1 and_tt)
  · cases hv
theorem rt_and (ra : RT Y a tA) (rb : RT Y b tB') : RT Y (.and a b) (tAnd tA tB') := by
  intro np sl σ H h rt vs F bb rt' rl hv Q k
  have hv := tst_eq hv
  unfold ev at hv
  split at hv
  · rename_i rt1 e1
    refine ra np sl σ H h rt vs F true _ rl (by rw [e1]; rfl) _ fun H1 h1 F1 st1 rl1 q1 => ?_
    rw [if_pos rfl]
    exact rb np sl σ H1 h1 rt1 vs F1 bb _ rl1 (by rw [hv]; rfl) Q (k.thn st1 q1 and_tt)
  · rename_i rt1 e1
    cases hv
    refine ra np sl σ H h rt vs F false _ rl (by rw [e1]; rfl) _ fun H1 h1 F1 st1 rl1 q1 => ?_
    rw [if_neg Bool.false_ne_true]
    exact k H1 h1 F1 st1 rl1 fun z => q1 (and_tt z).1
  · cases hv
theorem rt_or (ra : RT Y a tA) (rb : RT Y b tB') : RT Y (.or a b) (tOr tA tB') := by
  intro np sl σ H h rt vs F bb rt' rl hv Q k
  have hv := tst_eq hv
  unfold ev at hv
  split at hv
  · rename_i rt1 e1
    cases hv
    refine ra np sl σ H h rt vs F true _ rl (by rw [e1]; rfl) _ fun H1 h1 F1 st1 rl1 q1 => ?_
    rw [if_pos rfl]
    exact k H1 h1 F1 st1 rl1 fun z => q1 (and_tt z).1
  · rename_i rt1 e1
    refine ra np sl σ H h rt vs F false _ rl (by rw [e1]; rfl) _ fun H1 h1 F1 st1 rl1 q1 => ?_
    rw [if_neg Bool.false_ne_true]
    exact rb np sl σ H1 h1 rt1 vs F1 bb _ rl1 (by rw [hv]; rfl) Q (k.thn st1 q1 and_tt)
  · cases hv
theorem re_ife {t : E} (rt0 : RT Y t tA) (ra : RE Y a ta) (rb : RE Y b tb) : RE Y (.ife t a b) (tIf tA ta tb) := by
  intro np mv sl σ H h rt vs F tr rt' rl hv Q k
  have hq : ∀ {z : Bool}, (t.q && a.q && b.q) = true → t.q = true ∧ (if z then a.q else b.q) = true := fun {z} y => by
    have y1 := and_tt y
    have y2 := and_tt y1.1
    cases z
    · exact ⟨y2.1, y1.2⟩
    · exact ⟨y2.1, y2.2⟩
  unfold ev at hv
  split at hv
  · rename_i rt1 e1
    refine rt0 np sl σ H h rt vs F true _ rl (by rw [e1]; rfl) _ fun H1 h1 F1 st1 rl1 q1 => ?_
    rw [if_pos rfl]
    exact ra np mv sl σ H1 h1 rt1 vs F1 _ _ rl1 hv Q (k.thn st1 q1 (hq (z := true)))
  · rename_i rt1 e1
    refine rt0 np sl σ H h rt vs F false _ rl (by rw [e1]; rfl) _ fun H1 h1 F1 st1 rl1 q1 => ?_
    rw [if_neg Bool.false_ne_true]
    exact rb np mv sl σ H1 h1 rt1 vs F1 _ _ rl1 hv Q (k.thn st1 q1 (hq (z := false)))
  · cases hv
theorem re_tup {es : Es} {t : TA} (ra : RAs Y es t) : RE Y (.tup es) (tTup t) := by
  intro np mv sl σ H h rt vs F tr rt' rl hv Q k
  unfold ev at hv
  split at hv
  · rename_i ts rt1 e1
    split at hv
    · rename_i hz
      cases hv
      refine ra np false sl σ H h rt vs F ts _ rl e1 _ fun ws H1 h1 F1 G st1 rl1 ow dj fr q1 => ⟨by rw [ow.length]; exact hz, fun p hp => ?_⟩
      obtain ⟨rl2, rp⟩ := rl1.shuts ow dj
      exact Made.tup rl2.sub (k.made (q1 := es.q) (st1.shuts ow fr) rl2 q1 fun z => z) rp hp
    · cases hv
  · cases hv
theorem re_lst {es : Es} {t : TA} (ra : RAs Y es t) : RE Y (.lst es) (tLst t) := by
  intro np mv sl σ H h rt vs F tr rt' rl hv Q k
  unfold ev at hv
  split at hv
  · rename_i ts rt1 e1
    split at hv
    · rename_i hz
      cases hv
      refine ra np mv sl σ H h rt vs F ts _ rl e1 _ fun ws H1 h1 F1 G st1 rl1 ow dj fr q1 => ⟨by rw [ow.length]; exact hz, fun p hp => ?_⟩
      have g0 : Grew h1 H1 h1 (upd H1 p (.lst ws)) := upd_grew0 rl1.sub hp
      have hnG : p ∉ G := fun z => by
        obtain ⟨_, o, e⟩ := ow.at p z
        rw [hp] at e; cases e
      refine k (.ref p) _ h1 F1 (p :: G) (st1.trans g0.stp) (g0.rel rl1) (.ls upd_same (rl1.sub.free hp) (ow.stay (Same.refl _) fun a z => ⟨upd_ne fun e => hnG (e ▸ z), (ow.at a z).1⟩) hnG) (fun a z => ?_) (fun a z => ?_) fun z => (q1 z).trans g0.big
      · rcases List.mem_cons.mp z with rfl | z
        · intro z'
          obtain ⟨_, o, e⟩ := rl1.own.at a z'
          rw [hp] at e; cases e
        · exact dj a z
      · rcases List.mem_cons.mp z with rfl | z
        · exact st1.back _ hp
        · exact fr a z
    · cases hv
  · cases hv
theorem re_rev (ra : RE Y a ta) : RE Y (.rev a) (tRevL Y.K ta) := by
  intro np mv sl σ H h rt vs F tr rt' rl hv Q k
  unfold ev at hv
  split at hv
  · cases hv
  · rename_i x rt1 e1
    obtain ⟨t, e3, e4⟩ := Option.map_eq_some_iff.mp hv
    cases e4
    refine ra.d rl e1 fun v H1 h1 F1 st1 rl1 r1 q1 => ?_
    unfold revD at e3
    split at e3
    · rename_i xs ex
      cases e3
      rw [ex] at r1
      cases r1 with
      | lst q s => exact ⟨_, _, rfl, SqL.of (rl1.sub _ _ q), fun p hp => Made.lstD rl1.sub (k.made st1 rl1 q1 fun z => z) s.reverse hp⟩
    · cases e3
theorem re_at (y : Y.Ok) {f : Str} (hf : f ∈ Y.I.fld) (ra : RE Y a ta) : RE Y (.at a f) (tFld Y.K ta f) := by
  intro np mv sl σ H h rt vs F tr rt' rl hv Q k
  unfold ev at hv
  split at hv
  · cases hv
  · rename_i x rt1 e1
    obtain ⟨t, e3, e4⟩ := Option.map_eq_some_iff.mp hv
    cases e4
    refine ra.d rl e1 fun v H1 h1 F1 st1 rl1 r1 q1 => ?_
    unfold atD at e3
    split at e3
    · rename_i cc ns ds ex
      rw [ex] at r1
      cases r1 with
      | ins q hk s =>
        rw [← hk] at e3
        obtain ⟨z, z1, z2⟩ := look_fs s e3
        exact ⟨_, _, _, _, z, rfl, rl1.sub _ _ q, (y.fld _ _ hf).1, (y.fld _ _ hf).2, z1, k.val st1 rl1 q1 (fun z => z) z2⟩
    · cases e3
theorem re_f1 {f : Mi.F1} (ra : RE Y a ta) : RE Y (.f1 f a) (tCB (rF Y.K Y.C f) (tCons ta tNil)) := by
  intro np mv sl σ H h rt vs F tr rt' rl hv Q k
  unfold ev at hv
  split at hv
  · cases hv
  · rename_i x rt1 e1
    obtain ⟨t, e3, e4⟩ := Option.map_eq_some_iff.mp hv
    cases e4
    exact ra.d rl e1 fun v H1 h1 F1 st1 rl1 r1 q1 => ⟨h1, v, x.d, _, rfl, rl1.sub, .rep r1, e3, k.made st1 rl1 q1 fun z => z⟩
theorem re_f1p {f : Mi.F1} {p : P} (ra : ∀ sl rt, TPs Y sl rt p ta) : RE Y (.f1p f p) (tCB (rF Y.K Y.C f) (tCons ta tNil)) := by
  intro np mv sl σ H h rt vs F tr rt' rl hv Q k
  unfold ev at hv
  split at hv
  · cases hv
  · rename_i x hp
    split at hv
    · cases hv
    · rename_i ds hi
      obtain ⟨t, e3, e4⟩ := Option.map_eq_some_iff.mp hv
      cases e4
      refine ra sl rt σ H h vs F rl _ hp _ fun v at0 => ?_
      obtain ⟨F1, pr, _⟩ := at0
      exact ⟨h, v, x.d, _, rfl, rl.sub, lie_of pr.1 hi, e3, k.made (q1 := true) Stp.refl rl (fun _ => Same.refl H) fun _ => rfl⟩
theorem re_x {x : X0} {t : TE} (ra : ∀ sl rt, TXs Y sl rt x t) : RE Y (.x x) t := by
  intro np mv sl σ H h rt vs F tr rt' rl hv Q k
  unfold ev at hv
  split at hv
  · rename_i d hd
    cases hv
    exact ra sl rt σ H h vs F rl d hd Q fun v rv => k.val (q1 := true) Stp.refl rl (fun _ => Same.refl H) (fun _ => rfl) rv
  · cases hv
theorem re_emp {n : Bool} {p : P} (ra : ∀ sl rt, TPs Y sl rt p ta) : RE Y (.emp n p) (tOp (rC Y.K Y.C (if n then .ne else .eq)) ta (tLst tNil)) := by
  intro np mv sl σ H h rt vs F tr rt' rl hv Q k
  unfold ev at hv
  split at hv
  · rename_i u hp
    obtain ⟨b, e1, e2⟩ := Option.map_eq_some_iff.mp hv
    cases e2
    refine ra sl rt σ H h vs F rl _ hp _ fun v at0 => ?_
    obtain ⟨F1, pr, _⟩ := at0
    refine ⟨Nat.zero_le _, fun p hp => ?_⟩
    have e3 : Same h (ov h H F1) := ov_same fun a z => (pr.1.at a z).1
    have rv := pr.1.rep e3 fun a z => ov_in z
    have g : Grew (ov h H F1) H (upd (ov h H F1) p (.lst [])) (upd H p (.lst [])) := upd_grew (ov_sub rl.sub) hp
    have g0 : Grew h H h (upd H p (.lst [])) := upd_grew0 rl.sub hp
    have fin : ∀ c : Bool, c = (if n then !b else b) → Q (.bl c) (upd H p (.lst [])) := fun c e => by
      subst e
      exact k.bl (qa := true) g0.stp (g0.rel rl) fun _ => g0.big
    refine ⟨upd (ov h H F1) p (.lst []), u.d, .lst [], if n then !b else b, g.sub, rv.mono g.sml, .lst upd_same .nil, ?_, fin _ rfl⟩
    cases n
    · exact e1
    · show (eqD _ _).map _ = _
      rw [e1]
      rfl
  · cases hv
theorem re_dn : RE Y .dn tDNewK := by
  intro np mv sl σ H h rt vs F tr rt' rl hv Q k
  unfold ev at hv
  cases hv
  intro p hp
  have g0 : Grew h H h (upd H p (.dK [])) := upd_grew0 rl.sub hp
  have pF : p ∉ F := fun z => by
    obtain ⟨_, o, e⟩ := rl.own.at p z
    rw [hp] at e
    cases e
  refine k (.ref p) (upd H p (.dK [])) h F [p] g0.stp (g0.rel rl) (.dc (kvs := []) upd_same (rl.sub.free hp) rfl .nil (fun z => by cases z)) (fun b z => ?_) (fun b z => ?_) fun z b o e => ?_
  · rw [List.mem_singleton.mp z]
    exact pF
  · rw [List.mem_singleton.mp z]
    exact .inr hp
  · rw [upd_ne (ne_of_none e hp)]
    exact e
theorem re_idx (ra : RE Y a ta) (rb : RE Y b tb) : RE Y (.idx a b) (tBM Y.K "list" (rIndex Y.K) ta (tCons tb tNil)) := by
  intro np mv sl σ H h rt vs F tr rt' rl hv Q k
  unfold ev at hv
  split at hv
  · cases hv
  · rename_i x rt1 e1
    split at hv
    · cases hv
    · rename_i y rt2 e2
      obtain ⟨n, e3, e4⟩ := Option.map_eq_some_iff.mp hv
      cases e4
      refine ra.d rl e1 fun v H1 h1 F1 st1 rl1 r1 q1 => ?_
      unfold idxD at e3
      split at e3
      · rename_i ys i ex ey
        obtain ⟨ns, e5, e6⟩ := Option.bind_eq_some_iff.mp e3
        rw [ex] at r1
        cases r1 with
        | lst z r =>
          rename_i p xs
          have hx := intsOf_ok r e5
          subst hx
          refine ⟨.inl ⟨rfl, _, SqL.of (rl1.sub _ _ z)⟩, ?_⟩
          refine rb.d rl1 e2 fun w H2 h2 F2 st2 rl2 r2 q2 => ?_
          rw [ey] at r2
          cases r2
          obtain ⟨hj, hp, hm⟩ := List.findIdx?_eq_some_iff_getElem.mp e6
          refine ⟨p, _, .int i, n, .int i, rfl, rfl, SqL.of (rl2.sub _ _ (st2.up _ _ z)), rfl, flat_ints ns, ?_, by unfold eqV; exact beq_self_eq_true _, fun m z' hm1 hm2 => ?_, ?_⟩
          · rw [List.getElem?_map, List.getElem?_eq_getElem hj]
            rw [eq_of_beq hp]
            rfl
          · rw [List.getElem?_map, List.getElem?_eq_getElem (by omega)] at hm2
            cases hm2
            have := hm m hm1
            show (_ == _) = false
            simpa using this
          · exact k.val (st1.trans st2) rl2 (fun z => (q1 (and_tt z).1).trans (q2 (and_tt z).2)) (fun z => z) (.int _)
      · cases e3
theorem re_inn {n : Bool} {p : P} (ra : RE Y a ta) (rb : ∀ sl rt, TPs Y sl rt p tb) : RE Y (.inn n a p) (tOp (rM Y.K Y.C n) ta tb) := by
  intro np mv sl σ H h rt vs F tr rt' rl hv Q k
  unfold ev at hv
  split at hv
  · cases hv
  · rename_i x rt1 e1
    split at hv
    · cases hv
    · rename_i u hp
      obtain ⟨b, e3, e4⟩ := Option.map_eq_some_iff.mp hv
      cases e4
      refine ra.d rl e1 fun v H1 h1 F1 st1 rl1 r1 q1 => ?_
      refine rb sl _ σ H1 h1 vs F1 rl1 _ hp _ fun w at0 => ?_
      obtain ⟨F2, pr, _⟩ := at0
      have e5 : Same h1 (ov h1 H1 F2) := ov_same fun a z => (pr.1.at a z).1
      have rv := pr.1.rep e5 fun a z => ov_in z
      exact ⟨ov h1 H1 F2, x.d, u.d, b, ov_sub rl1.sub, r1.mono e5, rv, e3, k.val st1 rl1 q1 (fun z => z) (.bl _)⟩
theorem re_pop {p : P} (ra : ∀ sl rt, TPs Y sl rt p ta) : RE Y (.pop p) (tBM0 Y.K "list" rPop ta) := by
  intro np mv sl σ H h rt vs F tr rt' rl hv Q k
  unfold ev at hv
  split at hv
  · rename_i ts hp
    split at hv
    · rename_i t ht
      obtain ⟨rt2, e1, e2⟩ := Option.map_eq_some_iff.mp hv
      cases e2
      refine ra sl rt σ H h vs F rl _ hp _ fun v at0 => ?_
      obtain ⟨F1, pr, _⟩ := at0
      obtain ⟨o, s1, w⟩ := pr
      cases o with
      | ls q n os na =>
        rename_i a xs F0 _
        obtain ⟨z, F2, G, z1, z2, z3, z4, z5, z6⟩ := os.snoc ht
        refine ⟨.inl ⟨rfl, xs, SqL.of q⟩, a, xs, z, rfl, rfl, q, z1, ?_⟩
        have na2 : a ∉ F2 := fun m => na (z4 a m)
        have naG : a ∉ G := fun m => na (z5 a m)
        have aF : a ∈ F := s1 a List.mem_cons_self
        have inF : ∀ b, b ∈ a :: F2 → b ∈ a :: F0 := fun b m => (List.mem_cons.mp m).elim (fun e => e ▸ List.mem_cons_self) fun m => List.mem_cons_of_mem _ (z4 b m)
        have go : ∀ g : Hp, Same h g → (∀ b, b ∈ F → b ∉ G → g b = none) → ∃ F', OwnR Y.K Y.C g (upd H a (.lst xs.dropLast)) vs rt' F' ∧ ∀ b, b ∈ F' → b ∈ F := fun g e gn => by
          obtain ⟨F', w1, w2⟩ := w g (upd H a (.lst xs.dropLast)) (.ls ts.dropLast) (a :: F2) e (fun b m n' => ⟨upd_ne fun e => n' (e ▸ List.mem_cons_self), gn b m fun mg => n' (List.mem_cons_of_mem _ (z5 b mg))⟩)
            (.ls upd_same (gn a aF naG) (z2.stay e fun b m => ⟨upd_ne fun e => na2 (e ▸ m), gn b (s1 b (List.mem_cons_of_mem _ (z4 b m))) fun mg => z6 b mg m⟩) na2) fun b m => .inl (inF b m)
          exact ⟨F', w1 rt' e1, fun b m => (w2 b m).elim id fun m => s1 b (inF b m)⟩
        obtain ⟨F', o1, i1⟩ := go h (Same.refl _) fun b m _ => (rl.own.at b m).1
        obtain ⟨F3, o2, _⟩ := go (ov h H G) (ov_same fun b m => (z3.at b m).1) fun b m n' => by rw [ov_out n']; exact (rl.own.at b m).1
        have e3 := o1.uniq o2
        subst e3
        refine k z (upd H a (.lst xs.dropLast)) h F' G ⟨fun b o e n' => ?_, Same.refl _, fun b o n e => ?_, fun b m => Or.inl (i1 b m)⟩ ⟨fun b o e => ?_, o1, rl.slt, rl.len⟩ (z3.stay (Same.refl _) fun b m => ⟨upd_ne fun e => naG (e ▸ m), (z3.at b m).1⟩) (fun b m m' => ?_) (fun b m => .inl (s1 b (List.mem_cons_of_mem _ (z5 b m)))) fun hq => by cases hq
        · have hb : b ≠ a := fun e' => n' (by rw [e']; exact aF)
          rw [upd_ne hb]
          exact e
        · rw [n] at e
          cases e
        · rw [upd_ne fun e' => by rw [e'] at e; rw [n] at e; cases e]
          exact rl.sub b o e
        · have := (o2.at b m').1
          rw [ov_in m] at this
          obtain ⟨_, o, e⟩ := z3.at b m
          rw [this] at e
          cases e
    · cases hv
  · cases hv
theorem rgOk_ok {a b : Int} (h : rgOk a b = true) : RgOk a b := by
  unfold rgOk at h
  simp only [Bool.and_eq_true, decide_eq_true_eq] at h
  exact ⟨h.1.1.1.1, h.1.1.1.2, h.1.1.2, h.1.2, h.2⟩
theorem rgV_reps {K : PySem.W.Frag} {C : Nat → Addr} (a b : Int) : Reps K C h (rgV a b) (rngD a (b - a).toNat) := by
  unfold rgV rngD
  generalize List.range (b - a).toNat = l
  induction l with
  | nil => exact .nil
  | cons x r ih => exact .cons (.int _) ih
def tRgB (tu : Bool) (te : L2.St → Hp → (Int → Int → Hp → Prop) → Prop) : TE := if tu then tTupRg te else tLstRg te
theorem re_lrg1 {tu : Bool} (ra : RE Y a ta) : RE Y (.lrg1 tu a) (tRgB tu (tRg1 ta)) := by
  intro np mv sl σ H h rt vs F tr rt' rl hv Q k
  unfold ev at hv
  split at hv
  · rename_i n rt1 e1
    split at hv
    · rename_i hr
      cases hv
      cases tu with
      | true =>
        refine ra.d rl e1 fun v H1 h1 F1 st1 rl1 r1 q1 => ?_
        cases r1
        refine ⟨n, rfl, rgOk_ok hr, fun p hp => Made.tup rl1.sub (k.made st1 rl1 q1 fun z => z) ?_ hp⟩
        have := rgV_reps (K := Y.K) (C := Y.C) (h := h1) 0 n
        rwa [Int.sub_zero] at this
      | false =>
        refine ra.d rl e1 fun v H1 h1 F1 st1 rl1 r1 q1 => ?_
        cases r1
        refine ⟨n, rfl, rgOk_ok hr, fun p hp => Made.lstD rl1.sub (k.made st1 rl1 q1 fun z => z) ?_ hp⟩
        have := rgV_reps (K := Y.K) (C := Y.C) (h := h1) 0 n
        rwa [Int.sub_zero] at this
    · cases hv
  · cases hv
theorem re_lrg2 {tu : Bool} (ra : RE Y a ta) (rb : RE Y b tb) : RE Y (.lrg2 tu a b) (tRgB tu (tRg2 ta tb)) := by
  intro np mv sl σ H h rt vs F tr rt' rl hv Q k
  unfold ev at hv
  split at hv
  · rename_i m rt1 e1
    split at hv
    · rename_i n rt2 e2
      split at hv
      · rename_i hr
        cases hv
        cases tu with
        | true =>
          refine two ra rb rl e1 e2 fun v w H2 h2 F2 st rl2 r1 r2 s => ?_
          cases r1
          cases r2
          exact ⟨m, n, rfl, rfl, rgOk_ok hr, fun p hp => Made.tup rl2.sub (k.made st rl2 s fun z => z) (rgV_reps m n) hp⟩
        | false =>
          refine two ra rb rl e1 e2 fun v w H2 h2 F2 st rl2 r1 r2 s => ?_
          cases r1
          cases r2
          exact ⟨m, n, rfl, rfl, rgOk_ok hr, fun p hp => Made.lstD rl2.sub (k.made st rl2 s fun z => z) (rgV_reps m n) hp⟩
      · cases hv
    · cases hv
  · cases hv
def xPart (sl : Sl) (rt : Rt) (o : Option X0) : Option (Option Int) := match o with | none => some none | some e => (x0 sl rt e).bind fun d => optI (some d)
def TOs (Y : Fx) (o : Option X0) (t : TO) : Prop := ∀ sl rt σ H h vs F, Rel Y.K Y.C σ H h sl rt vs F → ∀ i, xPart sl rt o = some i → ∀ Q : Option Int → Hp → Prop, Q i H → t σ H Q
theorem to_some {x : X0} (ra : ∀ sl rt, TXs Y sl rt x ta) : TOs Y (some x) (tPart ta) := by
  intro sl rt σ H h vs F rl i hi Q q
  obtain ⟨d, hd, hi⟩ := Option.bind_eq_some_iff.mp hi
  refine ra sl rt σ H h vs F rl d hd _ fun v rv => ?_
  unfold optI at hi
  split at hi
  · rename_i e
    cases e
  · rename_i e
    cases e
    cases hi
    cases rv
    exact ⟨_, rfl, q⟩
  · cases hi
theorem re_sl {lo hi : Option X0} {tl th : TO} (ra : RE Y a ta) (rl0 : TOs Y lo tl) (rh0 : TOs Y hi th) : RE Y (.sl a lo hi) (tSl (rSlA' Y.K Y.C) ta tl th) := by
  intro np mv sl σ H h rt vs F tr rt' rl hv Q k
  unfold ev at hv
  split at hv
  · cases hv
  · rename_i x rt1 e1
    have hv : (match xPart sl rt1 lo, xPart sl rt1 hi with | some l, some h => (slD x.d l h).map fun t => (t, rt1) | _, _ => none) = some (tr, rt') := hv
    split at hv
    · rename_i l u el eu
      obtain ⟨t, e3, e4⟩ := Option.map_eq_some_iff.mp hv
      cases e4
      refine ra.d rl e1 fun v H1 h1 F1 st1 rl1 r1 q1 => ?_
      exact rl0 _ _ _ _ _ _ _ rl1 _ el _ (rh0 _ _ _ _ _ _ _ rl1 _ eu _ ⟨h1, x.d, _, rl1.sub, .rep r1, e3, k.made st1 rl1 q1 fun z => z⟩)
    · cases hv
theorem re_chn {o p : COp} {d : E} {td : TE} (ra : RE Y a ta) (rb : RE Y b tb) (rd : RE Y d td) : RE Y (.chn o p a b d) (tChain (rC Y.K Y.C o) (rC Y.K Y.C p) ta tb td) := by
  intro np mv sl σ H h rt vs F tr rt' rl hv Q k
  unfold ev at hv
  split at hv
  · cases hv
  · rename_i x rt1 e1
    split at hv
    · cases hv
    · rename_i y rt2 e2
      split at hv
      · rename_i e3
        split at hv
        · cases hv
        · rename_i z rt3 e4
          obtain ⟨t, e5, e6⟩ := Option.map_eq_some_iff.mp hv
          cases e6
          refine two ra rb rl e1 e2 fun v w H2 h2 F2 st rl2 r1 r2 s => ⟨h2, x.d, y.d, _, rl2.sub, r1, r2, e3, true, rfl, ?_⟩
          rw [if_pos rfl]
          refine rd.d rl2 e4 fun u H3 h3 F3 st3 rl3 r3 q3 => ⟨h3, y.d, z.d, _, rl3.sub, r2.mono st3.up, r3, e5, ?_⟩
          exact k.val (q1 := a.q && b.q && d.q) (st.trans st3) rl3 (fun z => (s (and_tt z).1).trans (q3 (and_tt z).2)) (fun z => z) (.bl _)
      · rename_i e3
        cases hv
        refine two ra rb rl e1 e2 fun v w H2 h2 F2 st rl2 r1 r2 s => ⟨h2, x.d, y.d, _, rl2.sub, r1, r2, e3, false, rfl, ?_⟩
        rw [if_neg Bool.false_ne_true]
        exact k.val (q1 := a.q && b.q && d.q) st rl2 (fun z => s (and_tt z).1) (fun z => z) (.bl _)
      · cases hv
theorem reps_keys : ∀ kvs : List (Key × V), Reps Y.K Y.C h (kvs.map fun kv => kV kv.1) ((kvs.map (·.1)).map keyD)
  | [] => .nil
  | (.inl i, v) :: r => .cons (.int i) (reps_keys r)
  | (.inr s, v) :: r => .cons (.str s) (reps_keys r)
theorem re_kls {p : P} (ra : ∀ sl rt, TPs Y sl rt p ta) : RE Y (.kls p) (tCB (fun xs H Q => ∃ (a : Addr) (kvs : List (Key × V)), xs = [.ref a] ∧ Rd H a (.dK kvs) ∧ ∀ p, H p = none → Q (.ref p) (upd H p (.lst (kvs.map fun kv => kV kv.1)))) (tCons ta tNil)) := by
  intro np mv sl σ H h rt vs F tr rt' rl hv Q k
  unfold ev at hv
  split at hv
  · rename_i ks ts hp
    cases hv
    refine ra sl rt σ H h vs F rl _ hp _ fun v at0 => ?_
    obtain ⟨F1, pr, _⟩ := at0
    cases pr.1 with
    | dc q n hk os na =>
      subst hk
      exact ⟨_, _, rfl, .inl q, fun p n => Made.lstD rl.sub (k.made (q1 := true) Stp.refl rl (fun _ => Same.refl H) fun _ => rfl) (reps_keys _) n⟩
  · rename_i ks ds hp
    cases hv
    refine ra sl rt σ H h vs F rl _ hp _ fun v at0 => ?_
    obtain ⟨F1, pr, _⟩ := at0
    cases pr.1 with
    | cl r =>
      cases r with
      | dct q hk rr =>
        subst hk
        exact ⟨_, _, rfl, rd_same rl.sub q, fun p n => Made.lstD rl.sub (k.made (q1 := true) Stp.refl rl (fun _ => Same.refl H) fun _ => rfl) (reps_keys _) n⟩
  · cases hv
theorem re_popi {i : Nat} (re : RE Y a ta) : RE Y (.popi i a) (tBM Y.K "list" rPopAt (tVar i) (tCons ta tNil)) := by
  intro np mv sl σ H h rt vs F tr rt' rl hv Q k
  unfold ev at hv
  split at hv
  · rename_i ts0 hp0
    split at hv
    · rename_i j rt1 e1
      split at hv
      · rename_i ts hp
        split at hv
        · rename_i ds el
          split at hv
          · rename_i hj
            rw [Bool.and_eq_true, decide_eq_true_iff, decide_eq_true_iff] at hj
            split at hv
            · rename_i n hn
              split at hv
              · rename_i d hd
                obtain ⟨rt2, e2, e3⟩ := Option.map_eq_some_iff.mp hv
                cases e3
                have hs : ∃ s, sl[i]? = some (some s) := by
                  unfold pt at hp0
                  split at hp0
                  · rename_i hs; exact ⟨_, hs⟩
                  · rename_i hs; exact ⟨_, hs⟩
                  · cases hp0
                obtain ⟨s0, hs⟩ := hs
                obtain ⟨v, v1, _⟩ := rl.slt i _ hs
                refine ⟨v, v1, ?_, ?_⟩
                · obtain ⟨F0, pr, _⟩ := var_at rl v1 hp0
                  cases pr.1 with
                  | ls q n os na => exact .inl ⟨rfl, _, SqL.of q⟩
                · refine re.d rl e1 fun w H1 h1 F1 st1 rl1 r1 q1 => ?_
                  cases r1
                  obtain ⟨p, xs, z, F4, rfl, q, hl, hz, rz, rl4, st4⟩ := popi_fin rl1 (var_at rl1 v1 hp) el hd e2
                  exact ⟨p, xs, j, n, z, rfl, rfl, q, hj.1, hj.2, by rw [hl]; exact (ixN_seq hn).1, hz, k z _ h1 F4 [] (st1.trans st4) rl4 (.cl rz) (fun b m => absurd m (by simp)) (fun b m => absurd m (by simp)) fun hq => by cases hq⟩
              · cases hv
            · cases hv
          · cases hv
        · cases hv
      · cases hv
    · cases hv
  · cases hv
end
end Mi
namespace Mi
open PySem PySem.Spec PyProof.Rows L2
section
variable {Y : Fx} {c : Ck} {σ : L2.St} {H h H1 h1 : Hp} {sl : Sl} {rt rt1 rt2 rt' : Rt} {vs : List V} {F G1 : List Addr} {a b : E} {ta tb to tk : TE}
def RA1 (Y : Fx) (o : Es) (t : TE) : Prop := ∀ np sl σ H h rt vs F x rt', Rel Y.K Y.C σ H h sl rt vs F → evA (cfg Y np) sl o rt = some ([x], rt') → ∀ Q : VK,
  (∀ w H' h' F', Stp F h H F' h' H' → Rel Y.K Y.C σ H' h' sl rt' vs F' → ArgV Y h' vs w x → (o.q = true → Same H H' ∧ ∃ d, x = .inl d) → Q w H') → t σ H Q
theorem ra1_cons {e : E} (re : RE Y e to) : RA1 Y (.cons e .nil) to := by
  intro np sl σ H h rt vs F x rt' rl hv Q k
  unfold evA at hv
  split at hv
  · cases hv
  · rename_i t rt1 e1
    unfold evA at hv
    cases hv
    refine re.d rl e1 fun v H1 h1 F1 st1 rl1 r1 q1 => k v H1 h1 F1 st1 rl1 r1 fun z => ?_
    exact ⟨q1 (and_tt z).1, _, rfl⟩
theorem ra1_mut {i : Nat} : RA1 Y (.mut i .nil) (tVar i) := by
  intro np sl σ H h rt vs F x rt' rl hv Q k
  unfold evA at hv
  split at hv
  · rename_i kk e1
    unfold evA at hv
    cases hv
    obtain ⟨v, v1, v2⟩ := rl.slt i _ e1
    exact ⟨v, v1, k v H h F Stp.refl rl v2 fun z => by cases z⟩
  · rename_i d e1
    unfold evA at hv
    cases hv
    obtain ⟨v, v1, v2⟩ := rl.slt i _ e1
    exact ⟨v, v1, k v H h F Stp.refl rl v2 fun z => by cases z⟩
  · cases hv
theorem and_inl {x : D ⊕ Nat} {as bs : List (D ⊕ Nat)} (h1 : ∃ d, x = .inl d) (h2 : ∀ x ∈ as, ∃ d, x = .inl d) (h3 : ∀ x ∈ bs, ∃ d, x = .inl d) : ∀ y ∈ x :: (as ++ bs), ∃ d, y = .inl d := fun y m => by
  rcases List.mem_cons.mp m with rfl | m
  · exact h1
  · exact (List.mem_append.mp m).elim (h2 y) (h3 y)
theorem re_meth {cc f : Nat} {m : Str} {o es kw : Es} {pm : List Nat} {ta tk : TA} {n nk : Nat} (ro : RA1 Y o to) (ra : RAA Y es ta) (rk : RAA Y kw tk) (hn : ∀ c sl rt xs rt', evA c sl es rt = some (xs, rt') → xs.length + 1 = n)
    (hm : ∀ c sl rt xs rt', evA c sl kw rt = some (xs, rt') → xs.length = nk) : RE Y (.meth cc m f o es kw pm) (tMethU (Y.C cc) m (spF Y.K Y.C Y.F f) n nk pm to ta tk) := by
  intro np mv sl σ H h rt vs F tr rt' rl hv Q k
  unfold ev at hv
  split at hv
  · rename_i x rt0 e0
    split at hv
    · rename_i hr
      split at hv
      · cases hv
      · rename_i as rt1 e1
        split at hv
        · cases hv
        · rename_i bs rt2 e2
          refine ro np sl σ H h rt vs F x rt0 rl e0 _ fun w H0 h0 F0 st0 rl0 av0 q0 => ?_
          obtain ⟨a, dx, fs, rfl, ea, l⟩ := recv_m rl0 av0 hr
          refine ⟨a, dx, fs, rfl, ea, l, ?_⟩
          refine ra np sl σ H0 h0 rt0 vs F0 as rt1 rl0 e1 _ fun ws1 H1 h1 F1 st1 rl1 av1 q1 => ?_
          refine rk np sl σ H1 h1 rt1 vs F1 bs rt2 rl1 e2 _ fun ws2 H2 h2 F2 st2 rl2 av2 q2 => ?_
          refine ⟨by rw [av1.length]; exact hn _ _ _ _ _ e1, av2.length.trans (hm _ _ _ _ _ e2), ?_⟩
          refine call_core rl2 (.cons (av0.mono (st1.up.trans st2.up)) ((av1.mono st2.up).append av2)) hv (k.call ((st0.trans st1).trans st2) fun hq => ?_)
          have hq := and_tt (show (o.q && (es.q && kw.q)) = true from hq)
          obtain ⟨a0, b0⟩ := q0 hq.1
          obtain ⟨a1, b1⟩ := q1 (and_tt hq.2).1
          obtain ⟨a2, b2⟩ := q2 (and_tt hq.2).2
          exact ⟨(a0.trans a1).trans a2, and_inl b0 b1 b2⟩
    · cases hv
  · cases hv
theorem one_inl {x : D ⊕ Nat} (h1 : ∃ d, x = .inl d) : ∀ y ∈ [x], ∃ d, y = .inl d := fun y m => by rw [List.mem_singleton.mp m]; exact h1
theorem re_prop {cc f : Nat} {m : Str} {o : Es} (ro : RA1 Y o to) : RE Y (.prop cc m f o) (tPropU (Y.C cc) (spF Y.K Y.C Y.F f) to) := by
  intro np mv sl σ H h rt vs F tr rt' rl hv Q k
  unfold ev at hv
  split at hv
  · rename_i x rt0 e0
    split at hv
    · rename_i hr
      refine ro np sl σ H h rt vs F x rt0 rl e0 _ fun w H0 h0 F0 st0 rl0 av0 q0 => ?_
      obtain ⟨a, dx, fs, rfl, ea⟩ := recv_c rl0 av0 hr
      refine ⟨a, dx, fs, rfl, ea, ?_⟩
      obtain ⟨ws, w1, w2⟩ := call_core (Q := Q) rl0 (.cons av0 .nil) hv (k.call st0 fun hq => ⟨(q0 hq).1, one_inl (q0 hq).2⟩)
      cases w1
      exact w2
    · cases hv
  · cases hv
theorem re_olen {cc f : Nat} {o : Es} (ro : RA1 Y o to) : RE Y (.olen cc f o) (tCB (rOLen (Y.C cc) (spF Y.K Y.C Y.F f)) (tCons to tNil)) := by
  intro np mv sl σ H h rt vs F tr rt' rl hv Q k
  unfold ev at hv
  split at hv
  · rename_i x rt0 e0
    split at hv
    · rename_i hr
      split at hv
      · rename_i n rt2 e2
        split at hv
        · rename_i hb
          cases hv
          refine ro np sl σ H h rt vs F x rt0 rl e0 _ fun w H0 h0 F0 st0 rl0 av0 q0 => ?_
          obtain ⟨a, dx, fs, rfl, ea⟩ := recv_c rl0 av0 hr
          refine ⟨a, dx, fs, rfl, ea, ?_⟩
          have k0 := k.call st0 fun hq => ⟨(q0 hq).1, one_inl (q0 hq).2⟩
          obtain ⟨ws, w1, w2⟩ := call_core (Q := fun v H' => ∃ n, v = .int n ∧ 0 ≤ n ∧ n < 2 ^ 63 ∧ Q (.int n) H') rl0 (.cons av0 .nil) e2 fun v H' h' F' G s2 rl2 ow dj fr sm => by
            have rp := rep_d ow
            cases rp
            exact ⟨n, rfl, hb.1, hb.2, k0 _ H' h' F' G s2 rl2 ow dj fr sm⟩
          cases w1
          exact w2
        · cases hv
      · cases hv
    · cases hv
  · cases hv
theorem two_inl {x y : D} : ∀ z ∈ ([.inl x, .inl y] : List (D ⊕ Nat)), ∃ d, z = .inl d := fun z m => by
  rcases List.mem_cons.mp m with rfl | m
  · exact ⟨_, rfl⟩
  · rw [List.mem_singleton.mp m]; exact ⟨_, rfl⟩
theorem re_oeq {cc f : Nat} (ra : RE Y a ta) (rb : RE Y b tb) : RE Y (.oeq cc f a b) (tOp (rOEq (Y.C cc) (spF Y.K Y.C Y.F f)) ta tb) := by
  intro np mv sl σ H h rt vs F tr rt' rl hv Q k
  unfold ev at hv
  split at hv
  · cases hv
  · rename_i x rt1 e1
    split at hv
    · cases hv
    · rename_i y rt2 e2
      split at hv
      · rename_i hc
        have hc := and_tt hc
        split at hv
        · rename_i v rt3 e3
          cases hv
          refine two ra rb rl e1 e2 fun v1 w1 H2 h2 F2 st rl2 r1 r2 s => ?_
          obtain ⟨a1, dx, fs, rfl, ea⟩ := recv_c (x := .inl x.d) rl2 r1 hc.1
          obtain ⟨b1, dy, fy, rfl, eb⟩ := recv_c (x := .inl y.d) rl2 r2 hc.2
          refine ⟨a1, dx, fs, b1, dy, fy, rfl, rfl, ea, eb, ?_⟩
          have k0 := k.call st fun hq => ⟨s hq, two_inl (x := x.d) (y := y.d)⟩
          obtain ⟨ws, w1, w2⟩ := call_core (Q := fun w H' => ∃ t, w = .bl t ∧ Q (.bl t) H') (xs := [.inl x.d, .inl y.d]) rl2 (.cons (x := .inl x.d) r1 (.cons (x := .inl y.d) r2 .nil)) e3 fun v' H' h' F' G s2 rl2 ow dj fr sm => by
            have rp := rep_d ow
            cases rp
            exact ⟨v, rfl, k0 _ H' h' F' G s2 rl2 ow dj fr sm⟩
          cases w1
          exact w2
        · cases hv
      · cases hv
theorem allD_ok : ∀ {xs : List (D ⊕ Nat)} {ds : List D}, allD xs = some ds → xs = ds.map .inl
  | [], ds, e => by cases e; rfl
  | .inl d :: r, ds, e => by
    obtain ⟨es, e1, rfl⟩ := Option.map_eq_some_iff.mp (show (allD r).map (d :: ·) = some ds from e)
    rw [allD_ok e1]
    rfl
  | .inr _ :: _, _, e => by cases e
theorem perm_owns {h H : Hp} {vs zs : List V} {ds : List D} {v0 : V} {t0 : T} (a : ArgsV Y h vs zs (ds.map .inl)) : ∀ {pm : List Nat} {us : List T}, 0 ∉ pm → perm (t0 :: ds.map T.cl) pm = some us → ∃ ws, perm (v0 :: zs) pm = some ws ∧ Owns Y.K Y.C h H ws us []
  | [], us, _, e => by
    cases e
    exact ⟨[], rfl, .nil⟩
  | i :: pm, us, n, e => by
    unfold perm at e
    split at e
    · rename_i t us' e1 e2
      cases e
      obtain ⟨ws, w1, w2⟩ := perm_owns a (fun z => n (List.mem_cons_of_mem _ z)) e2
      cases i with
      | zero => exact absurd List.mem_cons_self n
      | succ j =>
        rw [List.getElem?_cons_succ, List.getElem?_map] at e1
        obtain ⟨d, d1, rfl⟩ := Option.map_eq_some_iff.mp e1
        obtain ⟨w, w3, w4⟩ := a.get (i := j) (x := .inl d) (by rw [List.getElem?_map, d1]; rfl)
        refine ⟨w :: ws, ?_, .cons (F := []) (G := []) (.cl w4) w2 fun a z => absurd z (by simp)⟩
        unfold perm
        rw [List.getElem?_cons_succ, w3, w1]
    · cases e
theorem mk_core {cc f : Nat} {pm : List Nat} {xs : List (D ⊕ Nat)} {t : T} {σ : L2.St} {H h H2 h2 : Hp} {sl : Sl} {rt2 : Rt} {vs wsA : List V} {F F2 : List Addr} {q qq : Bool} {Q : VK} (k : ROk Y σ H h sl rt2 vs F q Q t) (st12 : Stp F h H F2 h2 H2) (rl2 : Rel Y.K Y.C σ H2 h2 sl rt2 vs F2)
    (qs : qq = true → Same H H2) (hqq : q = true → qq = true) (av : ArgsV Y h2 vs wsA xs) (e3 : mkGo Y.F cc f pm xs = some t) {x dx : Addr} (hx : H2 x = none) (hdx : H2 dx = none) (ne : dx ≠ x) :
    ∃ ws, perm (.ref x :: wsA) pm = some ws ∧ spF Y.K Y.C Y.F f ws (upd (upd H2 dx (.own x)) x (.ins (Y.C cc) dx [])) fun v H3 => v = .non ∧ Q (.ref x) H3 := by
  unfold mkGo at e3
  split at e3
  · cases e3
  · rename_i ds ed
    rw [allD_ok ed] at av
    split at e3
    · cases e3
    · rename_i us eu
      split at e3
      · rename_i hp
        split at e3
        · rename_i t' ts' ef
          split at e3
          · cases e3
            cases pm with
            | nil => cases hp.1
            | cons i pm =>
              have hi : i = 0 := by simpa using hp.1
              subst hi
              unfold perm at eu
              rw [List.getElem?_cons_zero] at eu
              split at eu
              · rename_i t0 us' e5 e6
                cases eu
                cases e5
                have eHn : ∀ {b : Addr}, b ≠ x → b ≠ dx → upd (upd H2 dx (.own x)) x (.ins (Y.C cc) dx []) b = H2 b := fun {b} z1 z2 => by rw [upd_ne z1, upd_ne z2]
                have sHn : Same H2 (upd (upd H2 dx (.own x)) x (.ins (Y.C cc) dx [])) := fun b o e => by
                  rw [eHn (ne_of_none e hx) (ne_of_none e hdx)]
                  exact e
                obtain ⟨ws, w1, w2⟩ := perm_owns (H := upd (upd H2 dx (.own x)) x (.ins (Y.C cc) dx [])) (v0 := .ref x) (pm := pm) av hp.2 e6
                refine ⟨.ref x :: ws, by unfold perm; rw [List.getElem?_cons_zero, w1], h2, _, _, _, _, rl2.sub.trans sHn,
                  .cons (F := [x]) (G := []) (.ob (F := []) (ns := []) upd_same (rl2.sub.free hx) rfl .nil (by simp)) w2 fun a _ z => absurd z (by simp), ef, ?_⟩
                intro v H' h' F' G st sub ow' ov' dj' fr'
                have rv := rep_d ov'
                cases rv
                refine ⟨rfl, ?_⟩
                have back : ∀ b, b ∈ [x] ++ ([] : List Addr) ∨ upd (upd H2 dx (.own x)) x (.ins (Y.C cc) dx []) b = none → H2 b = none := fun b z => by
                  rcases z with z | z
                  · have : b = x := by simpa using z
                    rw [this]
                    exact hx
                  · cases q : H2 b with
                    | none => rfl
                    | some o => rw [sHn b o q] at z; cases z
                have g : Grew h2 H2 h' H' := ⟨fun b o e => st.keep b o (sHn b o e) fun z => (by
                    have : b = x := by simpa using z
                    rw [this, hx] at e
                    cases e), st.up, sub, fun b o n e => back b (st.new b o n e)⟩
                cases ow' with
                | cons p r dj =>
                  refine k.made st12 rl2 qs hqq _ h' H' _ g p fun b z => back b (st.fp b (List.mem_append_left _ z))
              · cases eu
          · cases e3
        · cases e3
      · cases e3
theorem re_mk {cc f : Nat} {es kw : Es} {pm : List Nat} {ta tk : TA} {n nk : Nat} (ra : RAA Y es ta) (rk : RAA Y kw tk) (hn : ∀ c sl rt xs rt', evA c sl es rt = some (xs, rt') → xs.length + 1 = n)
    (hm : ∀ c sl rt xs rt', evA c sl kw rt = some (xs, rt') → xs.length = nk) : RE Y (.mk cc f es kw pm) (tMakeU (Y.C cc) (spF Y.K Y.C Y.F f) n nk pm ta tk) := by
  intro np mv sl σ H h rt vs F tr rt' rl hv Q k
  unfold ev at hv
  split at hv
  · cases hv
  · rename_i as rt1 e1
    split at hv
    · cases hv
    · rename_i bs rt2 e2
      obtain ⟨t, e3, e4⟩ := Option.map_eq_some_iff.mp hv
      cases e4
      refine ra np sl σ H h rt vs F as rt1 rl e1 _ fun ws1 H1 h1 F1 st1 rl1 av1 q1 => ?_
      refine rk np sl σ H1 h1 rt1 vs F1 bs _ rl1 e2 _ fun ws2 H2 h2 F2 st2 rl2 av2 q2 => ?_
      refine ⟨by rw [av1.length]; exact hn _ _ _ _ _ e1, av2.length.trans (hm _ _ _ _ _ e2), fun x dx hx hdx ne => ?_⟩
      have av : ArgsV Y h2 vs (ws1 ++ ws2) (as ++ bs) := (av1.mono st2.up).append av2
      exact mk_core (qq := (E.mk cc f es kw pm).q) k (st1.trans st2) rl2 (fun z => (q1 (and_tt z).1).1.trans (q2 (and_tt z).2).1) (fun z => z) av e3 hx hdx ne
def RPs (Y : Fx) (ks : List Key) (es : Es) (trs : List (TE × TE)) : Prop := ∀ np mv sl σ H h rt vs F ts rt', Rel Y.K Y.C σ H h sl rt vs F → evs (cfg Y np) mv sl es rt = some (ts, rt') → ∀ Q : List (V × V) → Hp → Prop,
  (∀ ws H' h' F' G, Stp F h H F' h' H' → Rel Y.K Y.C σ H' h' sl rt' vs F' → Owns Y.K Y.C h' H' ws ts G → (∀ a, a ∈ G → a ∉ F') → (∀ a, a ∈ G → a ∈ F ∨ H a = none) → (es.q = true → Same H H') → Q ((ks.map kV).zip ws) H') → tPairs trs σ H Q
theorem rps_nil : RPs Y [] .nil [] := by
  intro np mv sl σ H h rt vs F ts rt' rl hv Q k
  unfold evs at hv
  cases hv
  exact k [] H h F [] Stp.refl rl .nil (fun a z => absurd z (by simp)) (fun a z => absurd z (by simp)) fun _ => Same.refl _
theorem rps_cons {kk : Key} {ks : List Key} {e : E} {r : Es} {te : TE} {trs : List (TE × TE)} (re : RE Y e te) (rr : RPs Y ks r trs) : RPs Y (kk :: ks) (.cons e r) ((tC (kV kk), te) :: trs) := by
  intro np mv sl σ H h rt vs F ts rt' rl hv Q k
  unfold evs at hv
  split at hv
  · cases hv
  · rename_i x rt1 e1
    split at hv
    · cases hv
    · rename_i ts2 rt2 e2
      cases hv
      refine re np mv sl σ H h rt vs F _ _ rl e1 _ fun v H1 h1 F1 G st1 rl1 ow dj fr q1 => ?_
      refine rr np mv sl σ H1 h1 rt1 vs F1 ts2 _ rl1 e2 _ fun ws H2 h2 F2 G2 st2 rl2 ow2 dj2 fr2 q2 => ?_
      obtain ⟨ow3, dj3⟩ := st2.own ow dj
      refine k (v :: ws) H2 h2 F2 (G ++ G2) (st1.trans st2) rl2 (.cons ow3 ow2 fun a z z' => ?_) (fun a z => (List.mem_append.mp z).elim (dj3 a) (dj2 a)) (fun a z => (List.mem_append.mp z).elim (fr a) fun z => (fr2 a z).elim (st1.fp a) (st1.back a)) fun z => (q1 (and_tt z).1).trans (q2 (and_tt z).2)
      rcases fr2 a z' with w | w
      · exact dj a z w
      · obtain ⟨_, o, e⟩ := ow.at a z
        rw [w] at e
        cases e
theorem putK_new {kvs : List (Key × V)} {k : Key} {v : V} (n : k ∉ kvs.map (·.1)) : putK kvs k v = kvs ++ [(k, v)] := by
  unfold putK
  rw [if_neg]
  intro h
  obtain ⟨x, m, e⟩ := List.any_eq_true.mp h
  exact n (List.mem_map.mpr ⟨x, m, of_decide_eq_true e⟩)
theorem merge_new : ∀ {more kvs : List (Key × V)}, (more.map (·.1)).Nodup → (∀ k ∈ more.map (·.1), k ∉ kvs.map (·.1)) → mergeK kvs more = kvs ++ more
  | [], kvs, _, _ => by simp [mergeK]
  | p :: r, kvs, nd, dj => by
    rw [List.map_cons, List.nodup_cons] at nd
    have e1 : mergeK kvs (p :: r) = mergeK (putK kvs p.1 p.2) r := rfl
    rw [e1, putK_new (dj p.1 (by simp)), merge_new nd.2, List.append_assoc]
    · rfl
    · intro k m m'
      rw [List.map_append] at m'
      rcases List.mem_append.mp m' with z | z
      · exact dj k (by rw [List.map_cons]; exact List.mem_cons_of_mem _ m) z
      · have : k = p.1 := by simpa using z
        exact nd.1 (this ▸ m)
theorem zip_kV : ∀ {ks : List Key} {ws : List V}, (ks.map kV).zip ws = (ks.zip ws).map fun kv => (kV kv.1, kv.2)
  | [], ws => by simp
  | k :: ks, [] => by simp
  | k :: ks, w :: ws => by simp [zip_kV (ks := ks) (ws := ws)]
theorem re_dct {ks : List Key} {es : Es} {trs : List (TE × TE)} (ra : RPs Y ks es trs) : RE Y (.dct ks es) (tDisp trs) := by
  intro np mv sl σ H h rt vs F tr rt' rl hv Q k
  unfold ev at hv
  split at hv
  · rename_i ts rt1 e1
    split at hv
    · rename_i hz
      cases hv
      obtain ⟨z1, z2, z3, z4⟩ := hz
      intro p hp
      have g0 : Grew h H h (upd H p (.dK [])) := upd_grew0 rl.sub hp
      have pF : p ∉ F := fun z => by
        obtain ⟨_, o, e⟩ := rl.own.at p z
        rw [hp] at e
        cases e
      have p0 : ¬ (p ∈ F ∨ upd H p (.dK []) p = none) := fun z => z.elim pF fun z => by rw [upd_same] at z; cases z
      refine ra np mv sl σ _ h rt vs F ts _ (g0.rel rl) e1 _ fun ws H2 h2 F2 G st rl2 ow dj fr sm => ?_
      have lw : ws.length = ks.length := ow.length.trans z1
      have pG : p ∉ G := fun z => p0 (fr p z)
      have pF2 : p ∉ F2 := fun z => p0 (st.fp p z)
      have ph2 : h2 p = none := by
        cases q : h2 p with
        | none => rfl
        | some o => exact absurd (st.new p o (rl.sub.free hp) q) p0
      have h2p : H2 p = some (.dK []) := st.keep p _ upd_same pF
      refine ⟨h2p, ks.zip ws, zip_kV, by rw [List.length_zip]; omega, ?_⟩
      have e2 : (ks.zip ws).map (·.1) = ks := List.map_fst_zip (by omega)
      have e3 : (ks.zip ws).map (·.2) = ws := List.map_snd_zip (by omega)
      rw [merge_new (by rw [e2]; exact z2) (by simp), List.nil_append]
      have keepH : ∀ b, b ≠ p → upd H2 p (.dK (ks.zip ws)) b = H2 b := fun b z => upd_ne z
      refine k (.ref p) _ h2 F2 (p :: G) ⟨fun b o e n => ?_, st.up, fun b o n e => ?_, fun b z => ?_⟩ ⟨fun b o e => ?_, rl2.own.stay (Same.refl _) fun b z => ⟨keepH b fun e => pF2 (e ▸ z), (rl2.own.at b z).1⟩, rl2.slt, rl2.len⟩
        (.dc upd_same ph2 e2 (by rw [e3]; exact ow.stay (Same.refl _) fun b z => ⟨keepH b fun e => pG (e ▸ z), (ow.at b z).1⟩) pG) (fun b z => ?_) (fun b z => ?_) fun z b o e => ?_
      · have nb : b ≠ p := ne_of_none e hp
        rw [keepH b nb]
        exact st.keep b o (g0.big b o e) n
      · rcases st.new b o n e with z | z
        · exact .inl z
        · exact .inr (g0.big.free z)
      · rcases st.fp b z with z | z
        · exact .inl z
        · exact .inr (g0.big.free z)
      · rw [keepH b (ne_of_none e ph2)]
        exact rl2.sub b o e
      · rcases List.mem_cons.mp z with rfl | z
        · exact pF2
        · exact dj b z
      · rcases List.mem_cons.mp z with rfl | z
        · exact .inr hp
        · exact (fr b z).imp id fun z => g0.big.free z
      · rw [keepH b (ne_of_none e hp)]
        exact sm z b o (g0.big b o e)
    · cases hv
  · cases hv
def tyS : D → String
  | .non => "NoneType" | .bl _ => "bool" | .int _ => "int" | .str _ => "str" | .tup _ => "tuple" | .lst _ => "list" | .scr _ => "list" | .dct _ _ => "dict" | .ins _ _ _ => ""
def D.isIns : D → Bool
  | .ins _ _ _ => true
  | _ => false
theorem tyx_of {K : PySem.W.Frag} {C : Nat → Addr} {h H : Hp} {v : V} {d : D} (r : Rep K C h v d) (e : Same h H) (n : d.isIns = false) : TyX K H v (.type (tyS d)) := by
  cases r with
  | non => exact .base .non
  | bl b => exact .base (.bl b)
  | int i => exact .base (.int i)
  | str x => exact .base (.str x)
  | tup q _ =>
    rcases q with (q | ⟨o, q⟩) | ⟨o, its, n, q, c, _⟩
    · exact .base (.tup (e _ _ q))
    · exact .fTuple (e _ _ q)
    · exact .kTuple q c
  | lst q _ => exact .base (.lst (e _ _ q))
  | scr q =>
    rcases q with (q | ⟨o, q⟩) | ⟨o, its, n, q, c, _⟩
    · exact .base (.lst (e _ _ q))
    · exact .base (.frz (e _ _ q))
    · exact .kList q c
  | dct q _ _ =>
    rcases q with q | ⟨o, q⟩
    · exact .base (.dK (e _ _ q))
    · exact .fDict (e _ _ q)
  | ins _ _ _ => cases n
def TyFit (Y : Fx) (t : Ty) (cv : V) (cu : Value) : Prop := ClsV cv cu ∧ RelV cv cu ∧ ∀ h H v d b, Same h H → Rep Y.K Y.C h v d → isiD t d = some b → ∃ tt, TyX Y.K H v tt ∧ PySem.W.kitOne Y.K tt cu = some b
theorem kit_tab : ∀ m ∈ ["NoneType", "bool", "int", "str", "tuple", "list", "dict"], ∀ n ∈ ["bool", "int", "str", "tuple", "list", "dict"],
    kitB m n = some ((Str.ofString m == Str.ofString n) || (Str.ofString m == Str.ofString "bool" && Str.ofString n == Str.ofString "int")) := by decide +kernel
theorem tyD_of {d : D} (n : d.isIns = false) : tyD d = .inl (Str.ofString (tyS d)) ∧ tyS d ∈ ["NoneType", "bool", "int", "str", "tuple", "list", "dict"] := by
  cases d <;> first
    | (cases n; done)
    | exact ⟨rfl, by simp [tyS]⟩
theorem fit_bi {n : Str} {s : String} (hs : n = Str.ofString s) (hn : s ∈ ["bool", "int", "str", "tuple", "list", "dict"]) : TyFit Y (.bi n) (.ty s) (.type s) := by
  refine ⟨.ty s, rfl, fun h H v d b e r q => ?_⟩
  have ni : d.isIns = false := by
    cases d <;> first | rfl | (cases q; done)
  refine ⟨_, tyx_of r e ni, kit_ty ?_⟩
  obtain ⟨t1, t2⟩ := tyD_of ni
  rw [kit_tab _ t2 _ hn, ← q]
  have e0 : isiD (.bi n) d = (match tyD d with | .inl m => some (m == n || (m == ("bool" : Str) && n == ("int" : Str))) | .inr _ => none) := rfl
  rw [e0, t1, hs]
theorem fit_own (y : Y.Ok) (hi : Y.I.isc = true) {k : Nat} {x : Str} (hx : Y.I.cls[k]? = some x) : TyFit Y (.own k Y.I.cls.length) (.ref (Y.C k)) (.ref (Y.C k)) := by
  obtain ⟨i1, i2⟩ := y.isi hi
  have hk : k < Y.I.cls.length := (List.getElem?_eq_some_iff.mp hx).1
  have ne : Y.I.cls ≠ [] := fun z => by rw [z] at hk; cases hk
  refine ⟨.own _, rfl, fun h H v d b e r q => ?_⟩
  cases hd : d.isIns with
  | false =>
    refine ⟨_, tyx_of r e hd, ?_⟩
    obtain ⟨b1, b2, b3, b4, b5, b6, b7⟩ := (i1 k).ib
    cases d <;> first
      | (cases hd; done)
      | (cases q; assumption)
  | true =>
    cases r with
    | ins q1 hk1 s1 =>
      rename_i a dx cc fs ns ds
      have q : (if cc < Y.I.cls.length then some (cc == k) else none) = some b := q
      split at q
      · rename_i hc
        cases q
        exact ⟨.ref (Y.C cc), .base (.ins (e _ _ q1) (y.cls ne cc) (i1 cc).ha (i1 cc).hn (i1 cc).ht (i1 cc).hm), i2 k cc hk hc⟩
      · cases q
    | _ => cases hd
theorem re_isi {t : Ty} {cv : V} {cu : Value} (ft : TyFit Y t cv cu) (ra : RE Y a ta) : RE Y (.isi t a) (tCB (rIsi Y.K) (tCons ta (tCons (tC cv) tNil))) := by
  intro np mv sl σ H h rt vs F tr rt' rl hv Q k
  unfold ev at hv
  split at hv
  · cases hv
  · rename_i x rt1 e1
    obtain ⟨b, e3, e4⟩ := Option.map_eq_some_iff.mp hv
    cases e4
    refine ra.d rl e1 fun v H1 h1 F1 st1 rl1 r1 q1 => ?_
    obtain ⟨tt, t1, t2⟩ := ft.2.2 h1 H1 v x.d b rl1.sub r1 e3
    exact ⟨v, cv, tt, cu, b, rfl, ft.1, t1, t2, k.bl (qa := true) st1 rl1 q1⟩
theorem sub_isi (y : Y.Ok) {t : Ty} {e : Expr} (h : okTy Y.I c t e = true) : ∃ cv cu, TyFit Y t cv cu ∧ ∀ X, Gd Y c X → PE X e (tC cv) := by
  cases t with
  | bi n =>
    have h : okTyB c n e = true := h
    cases e with
    | Name x pos =>
      have h : (decide (x = n) && glo c n && (["bool", "int", "str", "tuple", "list", "dict"] : List Str).contains n) = true := h
      simp only [Bool.and_eq_true, decide_eq_true_eq] at h
      obtain ⟨⟨rfl, h1⟩, h2⟩ := h
      have hn : x = "bool" ∨ x = "int" ∨ x = "str" ∨ x = "tuple" ∨ x = "list" ∨ x = "dict" := by simpa using h2
      rcases hn with rfl | rfl | rfl | rfl | rfl | rfl
      all_goals exact ⟨_, _, fit_bi rfl (by simp), fun X g => pe_bltn (g.glo h1) (g.blt y (by decide +kernel)) (by decide +kernel) rfl⟩
    | _ => cases h
  | own k n =>
    have h : okTyO Y.I c k n e = true := h
    cases e with
    | Name x pos =>
      have h : (decide (Y.I.cls[k]? = some x) && glo c x && plainN x && Y.I.isc && decide (n = Y.I.cls.length) && decide (k < n)) = true := h
      simp only [Bool.and_eq_true, decide_eq_true_eq] at h
      obtain ⟨⟨⟨⟨⟨h1, h2⟩, h3⟩, h4⟩, rfl⟩, h6⟩ := h
      unfold plainN at h3
      simp only [Bool.and_eq_true, Bool.not_eq_true', decide_eq_true_eq] at h3
      exact ⟨_, _, fit_own y h4 h1, fun X g => pe_glob (g.glo h2) (by rw [g.mg]; exact y.cnm k x h1) rfl h3.1.1⟩
    | _ => cases h
theorem Owns.consCls {K : PySem.W.Frag} {C : Nat → Addr} {h H : Hp} {ys : List V} {ts : List T} {G : List Addr} (o : Owns K C h H ys ts G) : ∀ {xs : List V} {ds : List D}, Reps K C h xs ds → Owns K C h H (xs ++ ys) (cls ds ++ ts) G
  | _, _, .nil => o
  | _, _, .cons a r => .cons (F := []) (.cl a) (Owns.consCls o r) fun _ z => absurd z (by simp)
theorem seq_items {K : PySem.W.Frag} {C : Nat → Addr} {h H : Hp} {v : V} {d : D} {ds : List D} (e : Same h H) (r : Rep K C h v d) (q : d.items = some ds) : ∃ p xs, v = .ref p ∧ (SqT K H p xs ∨ SqL K H p xs) ∧ Reps K C h xs ds := by
  unfold D.items at q
  split at q
  · cases q
    cases r with
    | lst q s => exact ⟨_, _, rfl, .inr (SqL.of (e _ _ q)), s⟩
  · cases q
    cases r with
    | tup q s => exact ⟨_, _, rfl, .inl (sqT_same e q), s⟩
  · cases q
    cases r with
    | scr q => exact ⟨_, _, rfl, .inr (e.seq q), reps_ints _⟩
  · cases q
theorem ras_star {e : E} {r : Es} {te : TE} {t : TA} (re : RE Y e te) (rr : RAs Y r t) : RAs Y (.star e r) (StX.tStar Y.K te t) := by
  intro np mv sl σ H h rt vs F ts rt' rl hv Q k
  unfold evs at hv
  split at hv
  · cases hv
  · rename_i x rt1 e1
    split at hv
    · cases hv
    · rename_i ds hd
      split at hv
      · cases hv
      · rename_i ts2 rt2 e2
        cases hv
        refine re.d rl e1 fun v H1 h1 F1 st1 rl1 r1 q1 => ?_
        obtain ⟨p, xs, rfl, s1, s2⟩ := seq_items rl1.sub r1 hd
        refine ⟨p, xs, rfl, s1, ?_⟩
        refine rr np mv sl σ H1 h1 rt1 vs F1 ts2 _ rl1 e2 _ fun ws H2 h2 F2 G2 st2 rl2 ow2 dj2 fr2 q2 => ?_
        exact k _ H2 h2 F2 G2 (st1.trans st2) rl2 (ow2.consCls (s2.mono st2.up)) dj2 (fun a z => (fr2 a z).elim (st1.fp a) (st1.back a)) fun z => (q1 (and_tt z).1).trans (q2 (and_tt z).2)
theorem argsV_of {h : Hp} {vs : List V} : ∀ {ws : List V} {ds : List D}, Reps Y.K Y.C h ws ds → ArgsV Y h vs ws (ds.map .inl)
  | _, _, .nil => .nil
  | _, _, .cons a r => .cons a (argsV_of r)
theorem re_mkS {cc f : Nat} {e : E} {pm : List Nat} {te : TE} (re : RE Y e te) : RE Y (.mkS cc f e pm) (tMakeS Y.K (Y.C cc) (spF Y.K Y.C Y.F f) pm.length pm te) := by
  intro np mv sl σ H h rt vs F tr rt' rl hv Q k
  unfold ev at hv
  split at hv
  · cases hv
  · rename_i x rt1 e1
    split at hv
    · cases hv
    · rename_i ds hd
      split at hv
      · rename_i hl
        obtain ⟨t, e3, e4⟩ := Option.map_eq_some_iff.mp hv
        cases e4
        refine re.d rl e1 fun v H1 h1 F1 st1 rl1 r1 q1 => ?_
        obtain ⟨p, xs, rfl, s1, s2⟩ := seq_items rl1.sub r1 hd
        refine ⟨p, xs, rfl, s1, by rw [s2.length]; exact hl, fun x dx hx hdx ne => ?_⟩
        rw [List.append_nil]
        exact mk_core (qq := e.q) k st1 rl1 q1 (fun z => z) (argsV_of s2) e3 hx hdx ne
      · cases hv
theorem Reps.pickK {K : PySem.W.Frag} {C : Nat → Addr} {h : Hp} {vs : List V} {ds : List D} (r : Reps K C h vs ds) (i k : Nat) : Reps K C h (HT.pickK vs i k) (HT.pickK ds i k) := by
  unfold HT.pickK
  rw [r.length]
  generalize List.range ((ds.length - i + (k - 1)) / k) = L
  induction L with
  | nil => exact .nil
  | cons m L ih =>
    rw [List.filterMap_cons, List.filterMap_cons]
    cases e : ds[i + m * k]? with
    | none =>
      have : vs[i + m * k]? = none := by
        rw [List.getElem?_eq_none_iff] at e ⊢
        rw [r.length]
        exact e
      rw [this]
      exact ih
    | some d =>
      obtain ⟨v, e2, rv⟩ := r.get e
      rw [e2]
      exact .cons rv ih
theorem re_sls {a : E} {ta : TE} {lo : Option X0} {st : X0} {tl ts : TO} (ra : RE Y a ta) (rl0 : TOs Y lo tl) (rs0 : TOs Y (some st) ts) : RE Y (.sls a lo st) (tSlK Y.K ta tl ts) := by
  intro np mv sl σ H h rt vs F tr rt' rl hv Q k
  unfold ev at hv
  split at hv
  · cases hv
  · rename_i x rt1 e1
    have hv : (match xPart sl rt1 lo, x0 sl rt1 st with | some l, some (.int k) => if 1 ≤ k then (slkD x.d l k.toNat).map fun t => (t, rt1) else none | _, _ => none) = some (tr, rt') := hv
    split at hv
    · rename_i l kk el eu
      split at hv
      · rename_i hk
        obtain ⟨t, e3, e4⟩ := Option.map_eq_some_iff.mp hv
        cases e4
        have eu2 : xPart sl rt' (some st) = some (some kk) := by
          show (x0 sl rt' st).bind _ = _
          rw [eu]
          rfl
        refine ra.d rl e1 fun v H1 h1 F1 st1 rl1 r1 q1 => ?_
        refine rl0 _ _ _ _ _ _ _ rl1 _ el _ (rs0 _ _ _ _ _ _ _ rl1 _ eu2 _ ⟨kk.toNat, by rw [Int.toNat_of_nonneg (by omega)], by omega, ?_⟩)
        unfold slkD at e3
        split at e3
        · rename_i ds ed
          cases e3
          rw [ed] at r1
          cases r1 with
          | lst q s =>
            left
            refine ⟨_, _, rfl, SqL.of (rl1.sub _ _ q), fun p hp => ?_⟩
            rw [s.length]
            exact Made.lstD rl1.sub (k.made st1 rl1 q1 fun z => z) (Reps.pickK s _ _) hp
        · rename_i ds ed
          cases e3
          rw [ed] at r1
          cases r1 with
          | tup q s =>
            right
            refine ⟨_, _, rfl, sqT_same rl1.sub q, fun hw => ?_, fun _ p hp => ?_⟩
            · rw [s.length] at hw
              rw [hw.1, hw.2, HT.pickK_whole] at k
              exact k.val st1 rl1 q1 (fun z => z) (.tup q s)
            · rw [s.length]
              exact Made.tup rl1.sub (k.made st1 rl1 q1 fun z => z) (Reps.pickK s _ _) hp
        · cases e3
      · cases hv
    · cases hv
theorem allD_reps {h : Hp} {vs : List V} : ∀ {ws : List V} {xs : List (D ⊕ Nat)} {ds : List D}, ArgsV Y h vs ws xs → allD xs = some ds → Reps Y.K Y.C h ws ds
  | _, [], ds, .nil, e => by cases e; exact .nil
  | _, .inl d :: r, ds, .cons a q, e => by
    unfold allD at e
    obtain ⟨ds', e1, rfl⟩ := Option.map_eq_some_iff.mp e
    exact .cons a (allD_reps q e1)
  | _, .inr k :: r, ds, .cons a q, e => by cases e
theorem re_methS {cc f : Nat} {m : Str} {o es : Es} {ta : TA} (ro : RA1 Y o to) (ra : RAA Y es ta) : RE Y (.methS cc m f o es) (tMethSt (Y.C cc) m (spF Y.K Y.C Y.F f) to ta) := by
  intro np mv sl σ H h rt vs F tr rt' rl hv Q k
  unfold ev at hv
  split at hv
  · rename_i x rt0 e0
    split at hv
    · rename_i hr
      split at hv
      · cases hv
      · rename_i as rt1 e1
        split at hv
        · rename_i ds ed
          split at hv
          · rename_i hz
            refine ro np sl σ H h rt vs F x rt0 rl e0 _ fun w H0 h0 F0 st0 rl0 av0 q0 => ?_
            obtain ⟨a, dx, fs, rfl, ea, l⟩ := recv_m rl0 av0 hr
            refine ⟨a, dx, fs, rfl, ea, l, ?_⟩
            refine ra np sl σ H0 h0 rt0 vs F0 as rt1 rl0 e1 _ fun ws1 H1 h1 F1 st1 rl1 av1 q1 => ?_
            have rp := allD_reps av1 ed
            refine ⟨by rw [rp.length]; have : sizeLine = 16777216 := rfl; omega, fun p hp => ?_⟩
            have md : Made Y.K Y.C h1 H1 (fun v H' => spF Y.K Y.C Y.F f [.ref a, v] H' Q) (.cl (.tup ds)) := by
              intro w h' H' G g ow nw
              have rl2 := g.rel rl1
              have hv2 : callGo Y.F f [0, 1] [x, .inl (.tup ds)] rt1 = some (tr, rt') := hv
              have hk : COk Y σ H' h' sl rt' vs F1 (∀ y ∈ [x, .inl (.tup ds)], ∃ d, y = .inl d) Q tr := k.call ((st0.trans st1).trans g.stp) fun hq => by
                have hq := and_tt (show (o.q && es.q) = true from hq)
                obtain ⟨a0, b0⟩ := q0 hq.1
                obtain ⟨a1, b1⟩ := q1 hq.2
                refine ⟨(a0.trans a1).trans g.big, fun y m => ?_⟩
                rcases List.mem_cons.mp m with rfl | m
                · exact b0
                · rw [List.mem_singleton.mp m]; exact ⟨_, rfl⟩
              obtain ⟨ws, w1, w2⟩ := call_core (wsA := [.ref a, w]) rl2 (.cons ((av0.mono st1.up).mono g.sml) (.cons (show ArgV Y h' vs w (.inl (.tup ds)) from rep_d ow) .nil)) hv2 hk
              cases w1
              exact w2
            exact Made.tup rl1.sub md rp hp
          · cases hv
        · cases hv
    · cases hv
  · cases hv
theorem re_callS {f : Nat} {es : Es} {ta : TA} (ra : RAA Y es ta) : RE Y (.callS f es) (tCallSt (spF Y.K Y.C Y.F f) ta) := by
  intro np mv sl σ H h rt vs F tr rt' rl hv Q k
  unfold ev at hv
  split at hv
  · cases hv
  · rename_i as rt1 e1
    split at hv
    · rename_i ds ed
      split at hv
      · rename_i hz
        refine ra np sl σ H h rt vs F as rt1 rl e1 _ fun ws1 H1 h1 F1 st1 rl1 av1 q1 => ?_
        have rp := allD_reps av1 ed
        refine ⟨by rw [rp.length]; have : sizeLine = 16777216 := rfl; omega, fun p hp => ?_⟩
        have md : Made Y.K Y.C h1 H1 (fun v H' => spF Y.K Y.C Y.F f [v] H' Q) (.cl (.tup ds)) := by
          intro w h' H' G g ow nw
          have rl2 := g.rel rl1
          have hk : COk Y σ H' h' sl rt' vs F1 (∀ y ∈ [(Sum.inl (D.tup ds) : D ⊕ Nat)], ∃ d, y = .inl d) Q tr := k.call (st1.trans g.stp) fun hq => by
            obtain ⟨a1, b1⟩ := q1 hq
            refine ⟨a1.trans g.big, fun y m => ?_⟩
            rw [List.mem_singleton.mp m]
            exact ⟨_, rfl⟩
          obtain ⟨ws, w1, w2⟩ := call_core (wsA := [w]) rl2 (.cons (show ArgV Y h' vs w (.inl (.tup ds)) from rep_d ow) .nil) hv hk
          cases w1
          exact w2
        exact Made.tup rl1.sub md rp hp
      · cases hv
    · cases hv
theorem re_oop {a b : E} {ta tb : TE} {cc f : Nat} {op : BOp} (ra : RE Y a ta) (rb : RE Y b tb) : RE Y (.oop cc f op a b) (tOp (rOOp (Y.C cc) (spF Y.K Y.C Y.F f)) ta tb) := by
  intro np mv sl σ H h rt vs F tr rt' rl hv Q k
  unfold ev at hv
  split at hv
  · cases hv
  · rename_i x rt1 e1
    split at hv
    · cases hv
    · rename_i y rt2 e2
      split at hv
      · rename_i hc
        have hc := and_tt hc
        split at hv
        · rename_i c' ns ts rt3 e3
          cases hv
          refine two ra rb rl e1 e2 fun v1 w1 H2 h2 F2 st rl2 r1 r2 s => ?_
          obtain ⟨a1, dx, fs, rfl, ea⟩ := recv_c (x := .inl x.d) rl2 r1 hc.1
          obtain ⟨b1, dy, fy, rfl, eb⟩ := recv_c (x := .inl y.d) rl2 r2 hc.2
          refine ⟨a1, dx, fs, b1, dy, fy, rfl, rfl, ea, eb, ?_⟩
          have k0 := k.call st fun hq => ⟨s hq, two_inl (x := x.d) (y := y.d)⟩
          obtain ⟨ws, w1, w2⟩ := call_core (Q := fun w H' => ∃ p, w = .ref p ∧ Q (.ref p) H') (xs := [.inl x.d, .inl y.d]) rl2 (.cons (x := .inl x.d) r1 (.cons (x := .inl y.d) r2 .nil)) e3 fun v' H' h' F' G s2 rl2 ow dj fr sm => by
            cases ow with
            | ob q n kk r na => exact ⟨_, rfl, k0 _ H' h' F' _ s2 rl2 (.ob q n kk r na) dj fr sm⟩
          cases w1
          exact w2
        · cases hv
      · cases hv
theorem args_reps {h : Hp} {vs : List V} : ∀ {ws : List V} {dv : List Dv}, Reps Y.K Y.C h ws (dv.map Dv.d) → ArgsV Y h vs ws (dv.map fun d => .inl d.d)
  | _, [], .nil => .nil
  | _, d :: dv, .cons a r => .cons (x := .inl d.d) a (args_reps r)
theorem dv_inl {dv : List Dv} : ∀ y ∈ (dv.map fun d => (.inl d.d : D ⊕ Nat)), ∃ d, y = .inl d := fun y m => by
  obtain ⟨d, -, rfl⟩ := List.mem_map.mp m
  exact ⟨_, rfl⟩
theorem re_methD {cc f : Nat} {m : Str} {o es kw : Es} {dv : List Dv} {dvs : List V} {pm : List Nat} {ta tk : TA} {n nk : Nat} (rd : ∀ h, Reps Y.K Y.C h dvs (dv.map Dv.d)) (ro : RA1 Y o to) (ra : RAA Y es ta) (rk : RAA Y kw tk) (hn : ∀ c sl rt xs rt', evA c sl es rt = some (xs, rt') → xs.length + 1 = n)
    (hm : ∀ c sl rt xs rt', evA c sl kw rt = some (xs, rt') → xs.length = nk) : RE Y (.methD cc m f o es kw dv pm) (tMethD (Y.C cc) m (spF Y.K Y.C Y.F f) n nk dvs pm to ta tk) := by
  intro np mv sl σ H h rt vs F tr rt' rl hv Q k
  unfold ev at hv
  split at hv
  · rename_i x rt0 e0
    split at hv
    · rename_i hr
      split at hv
      · cases hv
      · rename_i as rt1 e1
        split at hv
        · cases hv
        · rename_i bs rt2 e2
          refine ro np sl σ H h rt vs F x rt0 rl e0 _ fun w H0 h0 F0 st0 rl0 av0 q0 => ?_
          obtain ⟨a, dx, fs, rfl, ea, l⟩ := recv_m rl0 av0 hr
          refine ⟨a, dx, fs, rfl, ea, l, ?_⟩
          refine ra np sl σ H0 h0 rt0 vs F0 as rt1 rl0 e1 _ fun ws1 H1 h1 F1 st1 rl1 av1 q1 => ?_
          refine rk np sl σ H1 h1 rt1 vs F1 bs rt2 rl1 e2 _ fun ws2 H2 h2 F2 st2 rl2 av2 q2 => ?_
          refine ⟨by rw [av1.length]; exact hn _ _ _ _ _ e1, av2.length.trans (hm _ _ _ _ _ e2), ?_⟩
          refine call_core rl2 (.cons (av0.mono (st1.up.trans st2.up)) (((av1.mono st2.up).append av2).append (args_reps (rd h2)))) hv (k.call ((st0.trans st1).trans st2) fun hq => ?_)
          have hq := and_tt (show (o.q && (es.q && kw.q)) = true from hq)
          obtain ⟨a0, b0⟩ := q0 hq.1
          obtain ⟨a1, b1⟩ := q1 (and_tt hq.2).1
          obtain ⟨a2, b2⟩ := q2 (and_tt hq.2).2
          refine ⟨(a0.trans a1).trans a2, fun y m => ?_⟩
          rcases List.mem_cons.mp m with rfl | m
          · exact b0
          · rcases List.mem_append.mp m with m | m
            · exact (List.mem_append.mp m).elim (b1 y) (b2 y)
            · exact dv_inl y m
    · cases hv
  · cases hv
theorem re_mkD {cc f : Nat} {es kw : Es} {dv : List Dv} {dvs : List V} {pm : List Nat} {ta tk : TA} {n nk : Nat} (rd : ∀ h, Reps Y.K Y.C h dvs (dv.map Dv.d)) (ra : RAA Y es ta) (rk : RAA Y kw tk) (hn : ∀ c sl rt xs rt', evA c sl es rt = some (xs, rt') → xs.length + 1 = n)
    (hm : ∀ c sl rt xs rt', evA c sl kw rt = some (xs, rt') → xs.length = nk) : RE Y (.mkD cc f es kw dv pm) (tMakeD (Y.C cc) (spF Y.K Y.C Y.F f) n nk dvs pm ta tk) := by
  intro np mv sl σ H h rt vs F tr rt' rl hv Q k
  unfold ev at hv
  split at hv
  · cases hv
  · rename_i as rt1 e1
    split at hv
    · cases hv
    · rename_i bs rt2 e2
      obtain ⟨t, e3, e4⟩ := Option.map_eq_some_iff.mp hv
      cases e4
      refine ra np sl σ H h rt vs F as rt1 rl e1 _ fun ws1 H1 h1 F1 st1 rl1 av1 q1 => ?_
      refine rk np sl σ H1 h1 rt1 vs F1 bs _ rl1 e2 _ fun ws2 H2 h2 F2 st2 rl2 av2 q2 => ?_
      refine ⟨by rw [av1.length]; exact hn _ _ _ _ _ e1, av2.length.trans (hm _ _ _ _ _ e2), fun x dx hx hdx ne => ?_⟩
      have av : ArgsV Y h2 vs ((ws1 ++ ws2) ++ dvs) ((as ++ bs) ++ dv.map fun d => .inl d.d) := ((av1.mono st2.up).append av2).append (args_reps (rd h2))
      exact mk_core (qq := (E.mkD cc f es kw dv pm).q) k (st1.trans st2) rl2 (fun z => (q1 (and_tt z).1).1.trans (q2 (and_tt z).2).1) (fun z => z) av e3 hx hdx ne
end
end Mi
namespace Mi
open PySem PySem.Spec PyProof.Rows L2
section
variable {Y : Fx} {c : Ck}
def SAs (Y : Fx) (c : Ck) (es : Es) (xs : List Expr) : Prop := ∃ t, (∀ X, Gd Y c X → PA X xs t) ∧ RAs Y es t
def SAA (Y : Fx) (c : Ck) (es : Es) (xs : List Expr) : Prop := ∃ t, (xs = [] → t = tNil) ∧ (∀ X, Gd Y c X → PA X xs t) ∧ RAA Y es t
def SKK (Y : Fx) (c : Ck) (es : Es) (xs : List Keyword) : Prop := ∃ t, (∀ X, Gd Y c X → PK X xs t) ∧ RAA Y es t
def SI (Y : Fx) (c : Ck) (it : It) (tg e : Expr) : Prop := ∃ w, (∀ X, Gd Y c X → PI X tg e w) ∧ RI Y it w
def Both (Y : Fx) (c : Ck) (e : E) (a : Expr) : Prop := SE Y c e a ∧ STs Y c e a
theorem Both.of {e : E} {a : Expr} (s : SE Y c e a) (h : tOk a) : Both Y c e a := ⟨s, test_of s h⟩
theorem shapeP {I : Inf} {p : P} {a : Expr} (h : okP I c p a = true) : tOk a := by
  cases p <;> (unfold okP at h; split at h <;> first | trivial | cases h)
theorem shape0 {I : Inf} {x : X0} {a : Expr} (h : ok0 I c x a = true) : tOk a := by
  cases x with
  | rd p => unfold ok0 at h; exact shapeP h
  | _ => unfold ok0 at h; split at h <;> first | trivial | cases h
theorem fold_plain {e : Expr} {env : Env} (h : noSet e = true) : ∀ x, foldedSetIterable e env x = pure x := by
  cases e <;> first | (intro x; rfl) | cases h
theorem okI_set {I : Inf} {it : It} {t e : Expr} (h : okI I c it t e = true) : noSet e = true := by
  cases it with
  | seq a => unfold okI at h; exact (and_tt h).1
  | pth a => unfold okI at h; exact (and_tt h).1
  | _ => unfold okI at h; split at h <;> first | rfl | cases h
theorem okP_var {I : Inf} {i : Nat} {e : Expr} (h : okP I c (.var i) e = true) : ∃ x pos, e = .Name x pos ∧ c.N[i]? = some x ∧ vis c x = true ∧ plainN x = true := by
  unfold okP at h
  split at h
  · rename_i x pos
    simp only [Bool.and_eq_true, decide_eq_true_eq] at h
    exact ⟨x, pos, rfl, h.1.1, h.1.2, h.2⟩
  · cases h
theorem Gd.blk {X : Cx} (g : Gd Y c X) (s : Shared) (H : Hp) (scope : Scope) (C : Addr) (cl : List (Str × Addr)) (fp : List Addr) : Gd Y (c.blk scope) (X.blk s H scope (compEnvC scope cl C X.env) fp) where
  P := g.P
  w := g.w
  K := g.K
  mg := g.mg
  base := g.base
  sc := by
    show relabel scope X.env = relS scope c.sc
    rw [← g.sc]
    rfl
  N := g.N
  nd := g.nd
  calm := g.calm
  xe := rfl
  grd := g.grd
  room := g.room
  fn := fun x h => h
theorem raa_nil : RAA Y .nil tNil := by
  intro np sl σ H h rt vs F xs rt' rl hv Q k
  unfold evA at hv
  cases hv
  exact k [] H h F Stp.refl rl .nil fun _ => ⟨Same.refl _, fun x z => absurd z (by simp)⟩
theorem raa_cons {e : E} {r : Es} {te : TE} {t : TA} (re : RE Y e te) (rr : RAA Y r t) : RAA Y (.cons e r) (tCons te t) := by
  intro np sl σ H h rt vs F xs rt' rl hv Q k
  unfold evA at hv
  split at hv
  · cases hv
  · rename_i x rt1 e1
    split at hv
    · cases hv
    · rename_i ts rt2 e2
      cases hv
      refine re.d rl e1 fun v H1 h1 F1 st1 rl1 r1 q1 => ?_
      refine rr np sl σ H1 h1 rt1 vs F1 ts _ rl1 e2 _ fun ws H2 h2 F2 st2 rl2 av q2 => ?_
      refine k (v :: ws) H2 h2 F2 (st1.trans st2) rl2 (.cons (Rep.mono st2.up r1) av) fun z => ?_
      obtain ⟨s2, d2⟩ := q2 (and_tt z).2
      exact ⟨(q1 (and_tt z).1).trans s2, fun y m => (List.mem_cons.mp m).elim (fun e => ⟨_, e⟩) (d2 y)⟩
theorem raa_mut {i : Nat} {r : Es} {t : TA} (rr : RAA Y r t) : RAA Y (.mut i r) (tCons (tVar i) t) := by
  intro np sl σ H h rt vs F xs rt' rl hv Q k
  unfold evA at hv
  split at hv
  · rename_i kk e1
    split at hv
    · cases hv
    · rename_i ts rt2 e2
      cases hv
      obtain ⟨v, v1, v2⟩ := rl.slt i _ e1
      refine ⟨v, v1, ?_⟩
      refine rr np sl σ H h rt vs F ts _ rl e2 _ fun ws H2 h2 F2 st2 rl2 av q2 => ?_
      exact k (v :: ws) H2 h2 F2 st2 rl2 (.cons (x := .inr kk) v2 av) fun z => by cases z
  · rename_i d e1
    split at hv
    · cases hv
    · rename_i ts rt2 e2
      cases hv
      obtain ⟨v, v1, v2⟩ := rl.slt i _ e1
      refine ⟨v, v1, ?_⟩
      refine rr np sl σ H h rt vs F ts _ rl e2 _ fun ws H2 h2 F2 st2 rl2 av q2 => ?_
      exact k (v :: ws) H2 h2 F2 st2 rl2 (.cons (x := .inl d) (Rep.mono st2.up v2) av) fun z => by cases z
  · cases hv
def Es.len : Es → Nat
  | .nil => 0
  | .cons _ r => r.len + 1
  | .mut _ r => r.len + 1
  | .star _ r => r.len + 1
theorem evA_length : ∀ (es : Es) (cc : Cfg) (sl : Sl) (rt : Rt) (xs : List (D ⊕ Nat)) (rt' : Rt), evA cc sl es rt = some (xs, rt') → xs.length = es.len
  | .nil, cc, sl, rt, xs, rt', e => by
    unfold evA at e
    cases e
    rfl
  | .cons a r, cc, sl, rt, xs, rt', e => by
    unfold evA at e
    split at e
    · cases e
    · split at e
      · cases e
      · rename_i e2
        cases e
        exact congrArg (· + 1) (evA_length r _ _ _ _ _ e2)
  | .mut i r, cc, sl, rt, xs, rt', e => by
    unfold evA at e
    split at e
    · split at e
      · cases e
      · rename_i e2
        cases e
        exact congrArg (· + 1) (evA_length r _ _ _ _ _ e2)
    · split at e
      · cases e
      · rename_i e2
        cases e
        exact congrArg (· + 1) (evA_length r _ _ _ _ _ e2)
    · cases e
  | .star a r, cc, sl, rt, xs, rt', e => by
    unfold evA at e
    cases e
theorem okEs_len {I : Inf} : ∀ {es : Es} {xs : List Expr}, okEs I c es xs = true → es.len = xs.length
  | .nil, xs, h => by
    unfold okEs at h
    split at h
    · rfl
    · cases h
  | .cons e r, xs, h => by
    unfold okEs at h
    split at h
    · exact congrArg (· + 1) (okEs_len (and_tt h).2)
    · cases h
  | .mut i r, xs, h => by
    unfold okEs at h
    split at h
    · exact congrArg (· + 1) (okEs_len (and_tt h).2)
    · cases h
  | .star e r, xs, h => by
    unfold okEs at h
    split at h
    · exact congrArg (· + 1) (okEs_len (and_tt h).2)
    · cases h
theorem okKs_len {I : Inf} : ∀ {es : Es} {xs : List Keyword}, okKs I c es xs = true → xs.all (fun k => k.arg.isSome) = true → es.len = (kwNames xs).length
  | .nil, xs, h, a => by
    unfold okKs at h
    split at h
    · rfl
    · cases h
  | .cons e r, xs, h, a => by
    unfold okKs at h
    split at h
    · rename_i o x p xs
      rw [List.all_cons, Bool.and_eq_true] at a
      cases o with
      | none => cases a.1
      | some n => exact congrArg (· + 1) (okKs_len (and_tt h).2 a.2)
    · cases h
  | .mut i r, xs, h, a => by
    unfold okKs at h
    split at h
    · rename_i o x p xs
      rw [List.all_cons, Bool.and_eq_true] at a
      cases o with
      | none => cases a.1
      | some n => exact congrArg (· + 1) (okKs_len (and_tt h).2 a.2)
    · cases h
  | .star e r, xs, h, a => by
    unfold okKs at h
    cases h
theorem ri_seq {a : E} {ta : TE} (ra : RE Y a ta) : RI Y (.seq a) (fun σ H R => iList Y.K ta σ H R ∨ iTup Y.K ta σ H R) := by
  intro np sl σ H h rt vs F ds rt' rl hv R k
  unfold evI at hv
  split at hv
  · cases hv
  · rename_i x rt1 e1
    obtain ⟨xs, e2, e3⟩ := Option.map_eq_some_iff.mp hv
    cases e3
    unfold D.items at e2
    split at e2
    · rename_i ys ex
      cases e2
      left
      refine ra.d rl e1 fun v H1 h1 F1 st1 rl1 r1 q1 => ?_
      rw [ex] at r1
      cases r1 with
      | lst q s => exact ⟨_, rfl, ⟨_, SqL.of (rl1.sub _ _ q)⟩, k _ H1 h1 F1 (SLc Y.K Y.C _ _) st1 rl1 (wk_list.imp (fun _ _ e s => s.to e) fun h H h' H' s e1 e2 _ => clo_SLc h H h' H' s e1 e2) ⟨_, SqL.of q, s⟩ (fun _ => clo_SLc) q1⟩
    · rename_i ys ex
      cases e2
      right
      refine ra.d rl e1 fun v H1 h1 F1 st1 rl1 r1 q1 => ?_
      rw [ex] at r1
      cases r1 with
      | tup q s => exact ⟨_, rfl, ⟨_, sqT_same rl1.sub q⟩, k _ H1 h1 F1 (STc Y.K Y.C _ _) st1 rl1 wk_tup ⟨_, q, s⟩ (fun _ => clo_STc) q1⟩
    · rename_i ns ex
      cases e2
      left
      refine ra.d rl e1 fun v H1 h1 F1 st1 rl1 r1 q1 => ?_
      rw [ex] at r1
      cases r1 with
      | scr q => exact ⟨_, rfl, ⟨_, rl1.sub.seq q⟩, k _ H1 h1 F1 (SLc Y.K Y.C _ _) st1 rl1 (wk_list.imp (fun _ _ e s => s.to e) fun h H h' H' s e1 e2 _ => clo_SLc h H h' H' s e1 e2) ⟨_, q, reps_ints _⟩ (fun _ => clo_SLc) q1⟩
    · cases e2
theorem ri_pth {p : P} {ta : TE} (ra : ∀ sl rt, TPs Y sl rt p ta) : RI Y (.pth p) (fun σ H R => iList Y.K ta σ H R ∨ iTup Y.K ta σ H R) := by
  intro np sl σ H h rt vs F ds rt' rl hv R k
  unfold evI at hv
  split at hv
  · cases hv
  · rename_i x hp
    obtain ⟨xs, e2, e3⟩ := Option.map_eq_some_iff.mp hv
    cases e3
    cases x with
    | cl d =>
      have e2 : d.items = some ds := e2
      unfold D.items at e2
      split at e2
      · cases e2
        left
        refine ra sl rt σ H h vs F rl _ hp _ fun v at0 => ?_
        obtain ⟨F1, pr, _⟩ := at0
        have r1 := rep_d pr.1
        cases r1 with
        | lst q s => exact ⟨_, rfl, ⟨_, SqL.of (rl.sub _ _ q)⟩, k _ H h F (SLc Y.K Y.C _ _) Stp.refl rl (wk_list.imp (fun _ _ e s => s.to e) fun h H h' H' s e1 e2 _ => clo_SLc h H h' H' s e1 e2) ⟨_, SqL.of q, s⟩ (fun z => by cases z) fun _ => Same.refl _⟩
      · cases e2
        right
        refine ra sl rt σ H h vs F rl _ hp _ fun v at0 => ?_
        obtain ⟨F1, pr, _⟩ := at0
        have r1 := rep_d pr.1
        cases r1 with
        | tup q s => exact ⟨_, rfl, ⟨_, sqT_same rl.sub q⟩, k _ H h F (STc Y.K Y.C _ _) Stp.refl rl wk_tup ⟨_, q, s⟩ (fun z => by cases z) fun _ => Same.refl _⟩
      · cases e2
        left
        refine ra sl rt σ H h vs F rl _ hp _ fun v at0 => ?_
        obtain ⟨F1, pr, _⟩ := at0
        have r1 := rep_d pr.1
        cases r1 with
        | scr q => exact ⟨_, rfl, ⟨_, rl.sub.seq q⟩, k _ H h F (SLc Y.K Y.C _ _) Stp.refl rl (wk_list.imp (fun _ _ e s => s.to e) fun h H h' H' s e1 e2 _ => clo_SLc h H h' H' s e1 e2) ⟨_, q, reps_ints _⟩ (fun z => by cases z) fun _ => Same.refl _⟩
      · cases e2
    | ls ts =>
      left
      refine ra sl rt σ H h vs F rl _ hp _ fun v at0 => ?_
      obtain ⟨F1, pr, _⟩ := at0
      cases pr.1 with
      | ls q n os na =>
        obtain ⟨s, _⟩ := leaves_ok os e2
        exact ⟨_, rfl, ⟨_, SqL.of q⟩, k _ H h F (SL Y.K Y.C _ _) Stp.refl rl wk_list ⟨_, SqL.of q, s⟩ (fun z => by cases z) fun _ => Same.refl _⟩
    | dc ks ts => cases e2
    | ob cc ns ts => cases e2
theorem inRng_ok {i : Int} (h : inRng i = true) : -(2 ^ 62) ≤ i ∧ i < 2 ^ 62 := by
  unfold inRng at h
  simpa using h
theorem ri_rng1 {a : E} {ta : TE} (ra : RE Y a ta) : RI Y (.rng1 a) (iRng1 (tCons ta tNil)) := by
  intro np sl σ H h rt vs F ds rt' rl hv R k
  unfold evI at hv
  split at hv
  · rename_i n rt1 e1
    split at hv
    · rename_i hr
      cases hv
      refine ra.d rl e1 fun v H1 h1 F1 st1 rl1 r1 q1 => ?_
      cases r1
      exact ⟨n, rfl, (inRng_ok hr).1, (inRng_ok hr).2, k _ H1 h1 F1 (fun _ _ => True) st1 rl1 wk_rng trivial (fun _ _ _ _ _ _ _ _ => trivial) q1⟩
    · cases hv
  · cases hv
theorem ri_rng2 {a b : E} {ta tb : TE} (ra : RE Y a ta) (rb : RE Y b tb) : RI Y (.rng2 a b) (iRng2 (tCons ta (tCons tb tNil))) := by
  intro np sl σ H h rt vs F ds rt' rl hv R k
  unfold evI at hv
  split at hv
  · rename_i m rt1 e1
    split at hv
    · rename_i n rt2 e2
      split at hv
      · rename_i hr
        cases hv
        have hr := and_tt hr
        refine two ra rb rl e1 e2 fun v w H2 h2 F2 st rl2 r1 r2 s => ?_
        cases r1
        cases r2
        exact ⟨m, n, rfl, ⟨(inRng_ok hr.1).1, (inRng_ok hr.1).2, (inRng_ok hr.2).1, (inRng_ok hr.2).2⟩, k _ H2 h2 F2 (fun _ _ => True) st rl2 wk_rng trivial (fun _ _ _ _ _ _ _ _ => trivial) s⟩
      · cases hv
    · cases hv
  · cases hv
theorem ri_enum {a : E} {ta : TE} (ra : RE Y a ta) : RI Y (.enum a) (iEnumA Y.K (tCons ta tNil)) := by
  intro np sl σ H h rt vs F ds rt' rl hv R k
  unfold evI at hv
  split at hv
  · cases hv
  · rename_i x rt1 e1
    split at hv
    · rename_i xs ex
      cases hv
      refine ra.d rl e1 fun v H1 h1 F1 st1 rl1 r1 q1 => ?_
      rw [ex] at r1
      cases r1 with
      | lst q s => exact ⟨_, _, rfl, .inl ⟨SqL.of (rl1.sub _ _ q), k _ H1 h1 F1 (SLc Y.K Y.C _ _) st1 rl1 (wk_enum.imp (fun _ _ e s => s.to e) fun h H h' H' s e1 e2 _ => clo_SLc h H h' H' s e1 e2) ⟨_, SqL.of q, s⟩ (fun _ => clo_SLc) q1⟩⟩
    · rename_i xs ex
      cases hv
      refine ra.d rl e1 fun v H1 h1 F1 st1 rl1 r1 q1 => ?_
      rw [ex] at r1
      cases r1 with
      | tup q s => exact ⟨_, _, rfl, .inr ⟨sqT_same rl1.sub q, k _ H1 h1 F1 (STc Y.K Y.C _ _) st1 rl1 wk_enumT ⟨_, q, s⟩ (fun _ => clo_STc) q1⟩⟩
    · cases hv
theorem ri_enumP {p : P} {ta : TE} (ra : ∀ sl rt, TPs Y sl rt p ta) : RI Y (.enumP p) (iEnum Y.K (tCons ta tNil)) := by
  intro np sl σ H h rt vs F ds rt' rl hv R k
  unfold evI at hv
  split at hv
  · cases hv
  · rename_i x hp
    split at hv
    · rename_i xs e2
      cases hv
      refine ra sl rt σ H h vs F rl _ hp _ fun v at0 => ?_
      obtain ⟨F1, pr, _⟩ := at0
      unfold T.lst at e2
      split at e2
      · cases e2
        have r1 := rep_d pr.1
        cases r1 with
        | lst q s => exact ⟨_, _, rfl, SqL.of (rl.sub _ _ q), k _ H h F (SLc Y.K Y.C _ _) Stp.refl rl (wk_enum.imp (fun _ _ e s => s.to e) fun h H h' H' s e1 e2 _ => clo_SLc h H h' H' s e1 e2) ⟨_, SqL.of q, s⟩ (fun z => by cases z) fun _ => Same.refl _⟩
      · cases pr.1 with
        | ls q n os na =>
          obtain ⟨s, _⟩ := leaves_ok os e2
          exact ⟨_, _, rfl, SqL.of q, k _ H h F (SL Y.K Y.C _ _) Stp.refl rl wk_enum ⟨_, SqL.of q, s⟩ (fun z => by cases z) fun _ => Same.refl _⟩
      · cases e2
    · cases hv
theorem ri_zip {a b : E} {ta tb : TE} (ra : RE Y a ta) (rb : RE Y b tb) : RI Y (.zip a b) (RZ.iZipA Y.K (tCons ta (tCons tb tNil))) := by
  intro np sl σ H h rt vs F ds rt' rl hv R k
  unfold evI at hv
  split at hv
  · cases hv
  · rename_i x rt1 e1
    split at hv
    · cases hv
    · rename_i y rt2 e2
      refine two ra rb rl e1 e2 fun v w H2 h2 F2 st rl2 r1 r2 s => ?_
      split at hv
      · rename_i xs ys ex ey
        cases hv
        rw [ex] at r1
        rw [ey] at r2
        cases r1 with
        | lst q1 s1 =>
        cases r2 with
        | lst q2 s2 => exact ⟨_, _, _, _, rfl, .inl ⟨SqL.of (rl2.sub _ _ q1), SqL.of (rl2.sub _ _ q2), k _ H2 h2 F2 (fun h H => SLc Y.K Y.C _ _ h H ∧ SLc Y.K Y.C _ _ h H) st rl2
            (wk_zip.imp (fun _ _ e s => ⟨s.1.to e, s.2.to e⟩) fun h H h' H' s e1 e2 _ => ⟨clo_SLc h H h' H' s.1 e1 e2, clo_SLc h H h' H' s.2 e1 e2⟩) ⟨⟨_, SqL.of q1, s1⟩, ⟨_, SqL.of q2, s2⟩⟩ (fun _ h H h' H' s e1 e2 => ⟨clo_SLc h H h' H' s.1 e1 e2, clo_SLc h H h' H' s.2 e1 e2⟩) s⟩⟩
      · rename_i xs ys ex ey
        cases hv
        rw [ex] at r1
        rw [ey] at r2
        cases r1 with
        | tup q1 s1 =>
        cases r2 with
        | tup q2 s2 => exact ⟨_, _, _, _, rfl, .inr ⟨sqT_same rl2.sub q1, sqT_same rl2.sub q2, k _ H2 h2 F2 (fun h H => STc Y.K Y.C _ _ h H ∧ STc Y.K Y.C _ _ h H) st rl2 wk_zipT ⟨⟨_, q1, s1⟩, ⟨_, q2, s2⟩⟩ (fun _ h H h' H' s e1 e2 => ⟨clo_STc h H h' H' s.1 e1 e2, clo_STc h H h' H' s.2 e1 e2⟩) s⟩⟩
      · cases hv
theorem keyS_len : ∀ {ks : List Key} {keys : List (Option Expr)}, keyS ks keys = true → ks.length = keys.length
  | [], [], _ => rfl
  | [], _ :: _, h => by cases h
  | .inr _ :: _, [], h => by cases h
  | .inl _ :: _, [], h => by cases h
  | k :: ks, x :: keys, h => by
    have : keyS ks keys = true := by
      unfold keyS at h
      split at h
      · rename_i e _
        cases e
      · rename_i e1 e2
        cases e1
        cases e2
        exact (and_tt h).2
      · rename_i e1 e2
        cases e1
        cases e2
        exact (and_tt h).2
      · cases h
    exact congrArg (· + 1) (keyS_len this)
theorem sndO (y : Y.Ok) {o : Option X0} {e : Option Expr} (h : okO Y.I c o e = true) : ∃ t, (∀ X, Gd Y c X → PO X e t) ∧ TOs Y o t := by
  unfold okO at h
  split at h
  · exact ⟨tNoPart, fun X g => po_none, fun sl rt σ H h vs F rl i hi Q q => by cases hi; exact q⟩
  · obtain ⟨t, pe, re⟩ := sndX y _ _ h
    exact ⟨tPart t, fun X g => po_some (pe X g), to_some re⟩
  · cases h
theorem opIs_eq {op : BOp} {o : Operator} (h : opIs op o = true) : o = op.py := by
  cases op <;> cases o <;> first | rfl | cases h
theorem few' {v : Expr} {cpos : Pos} {env : Env} (h : noStar v = true) : ((backTo cpos (starEach [v] env)).all (fun x => !x.1) && (backToKw cpos (keywordEach [] env)).all (fun x => x.1.isSome)
      && decide (([v] : List Expr).length + ([] : List Keyword).length + (if ([] : List Keyword).isEmpty then 0 else 1) < 30)) = true := by
  rw [star_cons h]
  rfl
theorem cmIs_eq {op : COp} {o : CmpOp} (h : cmIs op o = true) : o = op.py := by
  cases op <;> cases o <;> first | rfl | cases h
theorem nomarkC (op : COp) (b : Expr) (h : cmIs op op.py = true) : behindInMarks op.py b = false := by
  cases op <;> first | exact nomark b | cases h
theorem starB {a b : Expr} {env : Env} (h1 : noStar a = true) (h2 : noStar b = true) : starEach [a, b] env = [(false, eval a env), (false, eval b env)] := by
  rw [star_cons h1, star_cons h2]
  rfl
mutual
theorem sndE (y : Y.Ok) : ∀ (e : E) (c : Ck) (a : Expr), okE Y.I c e a = true → Both Y c e a
  | .int i, c, a, ok => by
    unfold okE at ok
    split at ok
    · have ok := of_decide_eq_true ok
      subst ok
      exact .of ⟨_, fun X g => pe_int, re_c (d := .int i) (fun _ _ _ _ => by unfold ev; rfl) fun _ => .int _⟩ trivial
    · cases ok
  | .bl i, c, a, ok => by
    unfold okE at ok
    split at ok
    · have ok := of_decide_eq_true ok
      subst ok
      exact .of ⟨_, fun X g => pe_bl, re_c (d := .bl i) (fun _ _ _ _ => by unfold ev; rfl) fun _ => .bl _⟩ trivial
    · cases ok
  | .non, c, a, ok => by
    unfold okE at ok
    split at ok
    · exact .of ⟨_, fun X g => pe_non, re_c (d := .non) (fun _ _ _ _ => by unfold ev; rfl) fun _ => .non⟩ trivial
    · cases ok
  | .str i, c, a, ok => by
    unfold okE at ok
    split at ok
    · have ok := of_decide_eq_true ok
      subst ok
      exact .of ⟨_, fun X g => pe_str, re_c (d := .str i) (fun _ _ _ _ => by unfold ev; rfl) fun _ => .str _⟩ trivial
    · cases ok
  | .glb x, c, a, ok => by
    unfold okE at ok
    split at ok
    · simp only [Bool.and_eq_true, decide_eq_true_eq] at ok
      obtain ⟨⟨⟨rfl, h1⟩, h2⟩, h3⟩ := ok
      obtain ⟨d, hd⟩ := Option.isSome_iff_exists.mp h3
      obtain ⟨v, u, e1, e2, e3⟩ := y.glb _ _ hd
      unfold plainN at h2
      simp only [Bool.and_eq_true, Bool.not_eq_true', decide_eq_true_eq] at h2
      refine .of ⟨_, fun X g => pe_glob (g.glo h1) (by rw [g.mg]; exact e1) e2 h2.1.1, re_c (d := d) (fun np mv sl rt => ?_) e3⟩ trivial
      unfold ev
      show (match Y.I.glb.lookup _ with | some d => some (T.cl d, rt) | none => none) = _
      rw [hd]
    · cases ok
  | .x x, c, a, ok => by
    unfold okE at ok
    obtain ⟨t, pe, re⟩ := sndX y x a ok
    exact .of ⟨t, pe, re_x re⟩ (shape0 ok)
  | .get p, c, a, ok => by
    unfold okE at ok
    exact .of (snd_get y p c a ok) (shapeP ok)
  | .bin op a b, c, e, ok => by
    unfold okE at ok
    split at ok
    · rename_i x o z pos
      simp only [Bool.and_eq_true] at ok
      obtain ⟨t1, p1, r1⟩ := (sndE y a c x ok.1.2).1
      obtain ⟨t2, p2, r2⟩ := (sndE y b c z ok.2).1
      cases opIs_eq ok.1.1
      refine .of ⟨_, fun X g => ?_, re_bin r1 r2⟩ trivial
      have q := pe_op (pos := pos) (opB_ok (X := X) (C := Y.C) op) (p1 X g) (p2 X g)
      rw [g.K] at q
      exact q
    · cases ok
  | .neg a, c, e, ok => by
    unfold okE at ok
    split at ok
    · obtain ⟨t1, p1, r1⟩ := (sndE y a c _ ok).1
      exact .of ⟨_, fun X g => pe_un un_neg (p1 X g), re_neg r1⟩ trivial
    · cases ok
  | .cmp op a b, c, e, ok => by
    unfold okE at ok
    split at ok
    · rename_i x o z pos
      simp only [Bool.and_eq_true] at ok
      obtain ⟨t1, p1, r1⟩ := (sndE y a c x ok.1.2).1
      obtain ⟨t2, p2, r2⟩ := (sndE y b c z ok.2).1
      have ho := ok.1.1
      cases cmIs_eq ho
      refine ⟨⟨_, fun X g => ?_, re_cmp r1 r2⟩, fun _ => ⟨_, fun X g => ⟨?_, fun z => by cases z⟩, rt_of (re_cmp r1 r2)⟩⟩
      · have q := pe_cmpR (pos := pos) (opC_ok (X := X) (C := Y.C) g.units op) (p1 X g) (p2 X g) (nomarkC op z ho)
        rw [g.K] at q
        exact q
      · have q := pt_cmpR (pos := pos) (opC_ok (X := X) (C := Y.C) g.units op) (p1 X g) (p2 X g) (nomarkC op z ho)
        rw [g.K] at q
        exact q
    · cases ok
  | .dn, c, e, ok => by
    unfold okE at ok
    split at ok
    · exact .of ⟨_, fun X g => pe_dnewK, re_dn⟩ trivial
    · cases ok
  | .dcc own tg it kx vx, c, e, ok => by
    unfold okE at ok
    split at ok
    · rename_i kk vv t iter scope pos
      simp only [Bool.and_eq_true, decide_eq_true_eq] at ok
      obtain ⟨⟨⟨⟨⟨⟨h1, h2⟩, h3⟩, h4⟩, h6⟩, h7⟩, h8⟩ := ok
      obtain ⟨wi, pi, ri⟩ := sndI y it c t iter h2
      obtain ⟨g0, pg, rg⟩ := sndTg (Y := Y) tg (c.blk scope) t h3
      obtain ⟨⟨tk, pk, rk⟩, _⟩ := sndE y kx (c.blk scope) kk h7
      obtain ⟨⟨te, pe, re⟩, _⟩ := sndE y vx (c.blk scope) vv h8
      refine .of ⟨tDc wi g0 tYes tk te own, fun X g => ?_, read_dc ri rg rk re h6 h4⟩ trivial
      have eo : (ownOf c own).map (·.2) = own := by
        unfold ownOf
        rw [List.map_map]
        exact List.map_id' own
      have q := pe_dc (pos := pos) g.calm (by rw [g.N]; exact g.nd) (pi X g) (by rw [g.N, g.sc]; exact blkOk_by h1) (fun s H C cl fp => pg _ (g.blk s H scope C cl fp)) (fun s H C cl fp => pts_nil) (fun s H C cl fp => pk _ (g.blk s H scope C cl fp)) (fun s H C cl fp => pe _ (g.blk s H scope C cl fp)) (fold_plain (okI_set h2))
      rw [eo] at q
      exact q
    · cases ok
  | .chn o p a b d, c, e, ok => by
    unfold okE at ok
    split at ok
    · rename_i x f g y' z pos
      simp only [Bool.and_eq_true] at ok
      obtain ⟨⟨⟨⟨h1, h2⟩, h3⟩, h4⟩, h5⟩ := ok
      obtain ⟨t1, p1, r1⟩ := (sndE y a c x h3).1
      obtain ⟨t2, p2, r2⟩ := (sndE y b c y' h4).1
      obtain ⟨t3, p3, r3⟩ := (sndE y d c z h5).1
      cases cmIs_eq h1
      cases cmIs_eq h2
      refine ⟨⟨_, fun X g => ?_, re_chn r1 r2 r3⟩, fun _ => ⟨_, fun X g => ⟨?_, fun z => by cases z⟩, rt_of (re_chn r1 r2 r3)⟩⟩
      · have q := pe_chain (pos := pos) (opC_ok (X := X) (C := Y.C) g.units o) (opC_ok (X := X) (C := Y.C) g.units p) (p1 X g) (p2 X g) (p3 X g) (hm := nomarkC p z h2)
        rw [g.K] at q
        exact q
      · have q := pt_chain (pos := pos) (opC_ok (X := X) (C := Y.C) g.units o) (opC_ok (X := X) (C := Y.C) g.units p) (p1 X g) (p2 X g) (p3 X g) (hm := nomarkC p z h2)
        rw [g.K] at q
        exact q
    · cases ok
  | .kls pp, c, e, ok => by
    unfold okE at ok
    split at ok
    · rename_i x p z pos
      simp only [Bool.and_eq_true, decide_eq_true_eq] at ok
      obtain ⟨⟨⟨rfl, h1⟩, h2⟩, h3⟩ := ok
      obtain ⟨t1, p1, r1⟩ := sndP y pp z h3
      obtain ⟨b1, b2, b3, b4⟩ := F1.list.boot
      refine .of ⟨_, fun X g => ?_, re_kls r1⟩ trivial
      exact g.call (p := p) (pos := pos) (call_listD g.calm) h1 (g.blt y b2) b1 b4 b3 (by simpa using h2) (pa_one h2 (p1 X g))
    · cases ok
  | .popi i a, c, e, ok => by
    unfold okE at ok
    split at ok
    · rename_i x m ap v cp
      simp only [Bool.and_eq_true, decide_eq_true_eq] at ok
      obtain ⟨⟨⟨⟨rfl, h1⟩, h2⟩, h3⟩, h4⟩ := ok
      obtain ⟨t2, p2, r2⟩ := (sndE y a c v h4).1
      obtain ⟨nm, px, rfl, o1, o2, o3⟩ := okP_var h2
      refine .of ⟨_, fun X g => ?_, re_popi r2⟩ trivial
      have q := pe_bm (apos := ap) (cpos := cp) PySem.F.plainAttrs_list PySem.F.slot_list_pop PySem.F.type_list_pop (mt_popAt (X := X)) (g.var (pos := px) o1 o2 o3) (pa_one h3 (p2 X g)) (path_base h2) (few' h3) h1 (star_cons h3) rfl
      rw [g.K] at q
      exact q
    · cases ok
  | .idx a b, c, e, ok => by
    unfold okE at ok
    split at ok
    · rename_i x m ap v cp
      simp only [Bool.and_eq_true, decide_eq_true_eq] at ok
      obtain ⟨⟨⟨⟨⟨rfl, h1⟩, h0⟩, h2⟩, h3⟩, h4⟩ := ok
      obtain ⟨t1, p1, r1⟩ := (sndE y a c x h2).1
      obtain ⟨t2, p2, r2⟩ := (sndE y b c v h4).1
      have hb : ∀ env, attributeBase x "index" env (eval x env) = eval x env := fun env => by
        cases a with
        | get p => exact path_base (I := Y.I) (c := c) (p := p) (by unfold okE at h2; exact h2)
        | _ => cases h0
      refine .of ⟨_, fun X g => ?_, re_idx r1 r2⟩ trivial
      have q := pe_bm (apos := ap) (cpos := cp) PySem.F.plainAttrs_list PySem.F.slot_list_index PySem.F.type_list_index (mt_index (X := X)) (p1 X g) (pa_one h3 (p2 X g)) (hb _) (few' h3) h1 (star_cons h3) rfl
      rw [g.K] at q
      exact q
    · cases ok
  | .inn n a p, c, e, ok => by
    unfold okE at ok
    split at ok
    · rename_i x o z pos
      simp only [Bool.and_eq_true] at ok
      obtain ⟨t1, p1, r1⟩ := (sndE y a c x ok.1.2).1
      obtain ⟨t2, p2, r2⟩ := sndP y p z ok.2
      have ho : o = (if n = true then CmpOp.NotIn else CmpOp.In) := by
        have := ok.1.1.1
        cases o <;> cases n <;> first | rfl | cases this
      subst ho
      have hn : behindInMarks (if n = true then CmpOp.NotIn else CmpOp.In) z = false := by
        have := ok.1.1.2
        cases z <;> first | rfl | cases this
      have hu : ∀ X : Cx, X.A.units + 64 < cLine → X.A.units + 1 < cLine := fun X h => by omega
      refine ⟨⟨_, fun X g => ?_, re_inn r1 r2⟩, fun _ => ⟨_, fun X g => ⟨?_, fun z => by cases z⟩, rt_of (re_inn r1 r2)⟩⟩
      · have q := pe_cmpR (pos := pos) (opM_ok (X := X) (C := Y.C) (hu X g.units) n) (p1 X g) (p2 X g) hn
        rw [g.K] at q
        exact q
      · have q := pt_cmpR (pos := pos) (opM_ok (X := X) (C := Y.C) (hu X g.units) n) (p1 X g) (p2 X g) hn
        rw [g.K] at q
        exact q
    · cases ok
  | .emp n p, c, e, ok => by
    unfold okE at ok
    split at ok
    · rename_i x o kp pos
      rw [Bool.and_eq_true] at ok
      obtain ⟨t1, p1, r1⟩ := sndP y p x ok.2
      have ho := ok.1
      cases cmIs_eq ho
      have hn : ∀ b, behindInMarks (COp.py (if n = true then COp.ne else COp.eq)) b = false := fun b => by cases n <;> exact nomark b
      refine ⟨⟨_, fun X g => ?_, re_emp r1⟩, fun _ => ⟨_, fun X g => ⟨?_, fun z => by cases z⟩, rt_of (re_emp r1)⟩⟩
      · have q := pe_cmpR (pos := pos) (opC_ok (X := X) (C := Y.C) g.units (if n = true then COp.ne else COp.eq)) (p1 X g) (pe_lst (pos := kp) pa_nil) (hn _)
        rw [g.K] at q
        exact q
      · have q := pt_cmpR (pos := pos) (opC_ok (X := X) (C := Y.C) g.units (if n = true then COp.ne else COp.eq)) (p1 X g) (pe_lst (pos := kp) pa_nil) (hn _)
        rw [g.K] at q
        exact q
    · cases ok
  | .and a b, c, e, ok => by
    unfold okE at ok
    split at ok
    · rename_i x z pos
      rw [Bool.and_eq_true] at ok
      obtain ⟨⟨t1, p1, r1⟩, s1⟩ := sndE y a c x ok.1
      obtain ⟨⟨t2, p2, r2⟩, s2⟩ := sndE y b c z ok.2
      refine ⟨⟨_, fun X g => pe_and (p1 X g) (pe_one (p2 X g)), re_and r1 r2⟩, fun hn => ?_⟩
      obtain ⟨u1, q1, w1⟩ := s1 (and_tt hn).1
      obtain ⟨u2, q2, w2⟩ := s2 (and_tt hn).2
      exact ⟨_, fun X g => ⟨(pw_and (q1 X g).1 (pw_and1 (q2 X g).1)).pt, fun _ => pw_and (q1 X g).1 (pw_and1 (q2 X g).1)⟩, rt_and w1 w2⟩
    · rename_i x z w r pos
      rw [Bool.and_eq_true] at ok
      obtain ⟨⟨t1, p1, r1⟩, s1⟩ := sndE y a c x ok.1
      obtain ⟨⟨t2, p2, r2⟩, s2⟩ := sndE y b c _ ok.2
      refine ⟨⟨_, fun X g => pe_and (p1 X g) (p2 X g), re_and r1 r2⟩, fun hn => ?_⟩
      obtain ⟨u1, q1, w1⟩ := s1 (and_tt hn).1
      obtain ⟨u2, q2, w2⟩ := s2 (and_tt hn).2
      exact ⟨_, fun X g => ⟨(pw_and (q1 X g).1 ((q2 X g).2 rfl)).pt, fun _ => pw_and (q1 X g).1 ((q2 X g).2 rfl)⟩, rt_and w1 w2⟩
    · cases ok
  | .or a b, c, e, ok => by
    unfold okE at ok
    split at ok
    · rename_i x z pos
      rw [Bool.and_eq_true] at ok
      obtain ⟨⟨t1, p1, r1⟩, s1⟩ := sndE y a c x ok.1
      obtain ⟨⟨t2, p2, r2⟩, s2⟩ := sndE y b c z ok.2
      refine ⟨⟨_, fun X g => pe_or (p1 X g) (pe_one (p2 X g)), re_or r1 r2⟩, fun hn => ?_⟩
      obtain ⟨u1, q1, w1⟩ := s1 (and_tt hn).1
      obtain ⟨u2, q2, w2⟩ := s2 (and_tt hn).2
      exact ⟨_, fun X g => ⟨(pw_or (q1 X g).1 (pw_or1 (q2 X g).1)).pt, fun _ => pw_or (q1 X g).1 (pw_or1 (q2 X g).1)⟩, rt_or w1 w2⟩
    · rename_i x z w r pos
      rw [Bool.and_eq_true] at ok
      obtain ⟨⟨t1, p1, r1⟩, s1⟩ := sndE y a c x ok.1
      obtain ⟨⟨t2, p2, r2⟩, s2⟩ := sndE y b c _ ok.2
      refine ⟨⟨_, fun X g => pe_or (p1 X g) (p2 X g), re_or r1 r2⟩, fun hn => ?_⟩
      obtain ⟨u1, q1, w1⟩ := s1 (and_tt hn).1
      obtain ⟨u2, q2, w2⟩ := s2 (and_tt hn).2
      exact ⟨_, fun X g => ⟨(pw_or (q1 X g).1 ((q2 X g).2 rfl)).pt, fun _ => pw_or (q1 X g).1 ((q2 X g).2 rfl)⟩, rt_or w1 w2⟩
    · cases ok
  | .not a, c, e, ok => by
    unfold okE at ok
    split at ok
    · rename_i x pos
      rw [Bool.and_eq_true] at ok
      obtain ⟨⟨t1, p1, r1⟩, s1⟩ := sndE y a c x ok.2
      obtain ⟨u1, q1, w1⟩ := s1 ok.1
      exact ⟨⟨_, fun X g => pe_not (p1 X g), re_not r1⟩, fun _ => ⟨_, fun X g => ⟨pt_not (q1 X g).1, fun z => by cases z⟩, rt_not w1⟩⟩
    · cases ok
  | .ife t a b, c, e, ok => by
    unfold okE at ok
    split at ok
    · rename_i x z w pos
      simp only [Bool.and_eq_true] at ok
      obtain ⟨_, s0⟩ := sndE y t c x ok.1.1.2
      obtain ⟨u0, q0, w0⟩ := s0 ok.1.1.1
      obtain ⟨t1, p1, r1⟩ := (sndE y a c z ok.1.2).1
      obtain ⟨t2, p2, r2⟩ := (sndE y b c w ok.2).1
      exact ⟨⟨_, fun X g => pe_ifExp (q0 X g).1 (p1 X g) (p2 X g), re_ife w0 r1 r2⟩, fun z => by cases z⟩
    · cases ok
  | .tup es, c, e, ok => by
    unfold okE at ok
    split at ok
    · obtain ⟨t, p, r⟩ := sndEs y es c _ ok
      exact .of ⟨_, fun X g => pe_tup (p X g), re_tup r⟩ trivial
    · cases ok
  | .lst es, c, e, ok => by
    unfold okE at ok
    split at ok
    · obtain ⟨t, p, r⟩ := sndEs y es c _ ok
      exact .of ⟨_, fun X g => pe_lst (p X g), re_lst r⟩ trivial
    · cases ok
  | .ix a i, c, e, ok => by
    unfold okE at ok
    split at ok
    · rename_i x z pos
      simp only [Bool.and_eq_true] at ok
      obtain ⟨t1, p1, r1⟩ := (sndE y a c x ok.1.2).1
      obtain ⟨t2, p2, r2⟩ := (sndE y i c z ok.2).1
      refine .of ⟨_, fun X g => ?_, re_ix r1 r2⟩ trivial
      have q := pe_ix (pos := pos) (ix_ok (X := X) (C := Y.C) (Nat.lt_of_le_of_lt (by omega) g.units)) (p1 X g) (p2 X g) (plain_ix ok.1.1)
      rw [g.K] at q
      exact q
    · cases ok
  | .sl a lo hi, c, e, ok => by
    unfold okE at ok
    split at ok
    · rename_i x l u p2 pos
      simp only [Bool.and_eq_true] at ok
      obtain ⟨t1, p1, r1⟩ := (sndE y a c x ok.1.1).1
      obtain ⟨tl, pl, rl⟩ := sndO y ok.1.2
      obtain ⟨tu, pu, ru⟩ := sndO y ok.2
      refine .of ⟨_, fun X g => ?_, re_sl r1 rl ru⟩ trivial
      have q := pe_slice (p2 := p2) (pos := pos) (sl_ok (X := X) (C := Y.C)) (p1 X g) (pl X g) (pu X g)
      rw [g.K] at q
      exact q
    · cases ok
  | .oop cc f op a b, c, e, ok => by
    unfold okE at ok
    split at ok
    · rename_i x o z pos
      simp only [Bool.and_eq_true, decide_eq_true_eq] at ok
      obtain ⟨⟨⟨⟨⟨h0, h1⟩, h2⟩, h3⟩, h4⟩, h5⟩ := ok
      cases opIs_eq h0
      obtain ⟨ta, pa, ra⟩ := (sndE y a c x h3).1
      obtain ⟨tb, pb, rb⟩ := (sndE y b c z h4).1
      obtain ⟨ad, fd, ps, m3, fa⟩ := y.fns f h1
      refine .of ⟨_, fun X g => ?_, re_oop ra rb⟩ trivial
      have F : FOk X.prog X.w X.K X.mg X.base Y.k ad fd ps (spF Y.K Y.C Y.F f) := by rw [g.P, g.w, g.K, g.mg, g.base]; exact m3
      exact pe_op (pos := pos) (op_oop F (g.room.mono (Nat.le_succ _)) g.grd (by rw [g.K]; exact fa.opr cc _ h2) (by rw [g.K]; exact fa.pat _ _ _ h5)) (pa X g) (pb X g)
    · cases ok
  | .lc2 own own1 tg it tg1 it1 elt, c, e, ok => by
    unfold okE at ok
    split at ok
    · rename_i el t iter t1 iter1 scope pos
      simp only [Bool.and_eq_true, decide_eq_true_eq] at ok
      obtain ⟨⟨⟨⟨⟨⟨⟨⟨h1, h2⟩, h3⟩, h2'⟩, h3'⟩, h4⟩, h6⟩, h7⟩, h8⟩ := ok
      obtain ⟨wi, pi, ri⟩ := sndI y it c t iter h2
      obtain ⟨g0, pg, rg⟩ := sndTg (Y := Y) tg (c.blk scope) t h3
      obtain ⟨wi1, pi1, ri1⟩ := sndI y it1 (c.blk scope) t1 iter1 h2'
      obtain ⟨g1, pg1, rg1⟩ := sndTg (Y := Y) tg1 (c.blk scope) t1 h3'
      obtain ⟨⟨te, pe, re⟩, _⟩ := sndE y elt (c.blk scope) el h8
      refine .of ⟨tLc2 wi g0 tYes wi1 g1 tYes te own own1, fun X g => ?_, read_lc2 ri rg ri1 rg1 re h6 h7.1 h4.1 h4.2⟩ trivial
      have eo : (ownOf c own).map (·.2) = own := by
        unfold ownOf
        rw [List.map_map]
        exact List.map_id' own
      have q := pe_lc2 (vs1 := own1) (pos := pos) g.calm (by rw [g.N]; exact g.nd) (pi X g) (by rw [g.N, g.sc]; exact blkOk_by h1) (by rw [eo]; exact h7.2) (fun s H C cl fp => pg _ (g.blk s H scope C cl fp)) (fun s H C cl fp => pts_nil) (fun s H C cl fp => pi1 _ (g.blk s H scope C cl fp)) (fun s H C cl fp => pg1 _ (g.blk s H scope C cl fp)) (fun s H C cl fp => pts_nil) (fun s H C cl fp => pe _ (g.blk s H scope C cl fp)) (fold_plain (okI_set h2)) (fun env => fold_plain (okI_set h2'))
      rw [eo] at q
      exact q
    · cases ok
  | .methD cc m f o es kw dv pm, c, e, ok => by
    unfold okE at ok
    split at ok
    · rename_i x gn ap as ks cp
      simp only [Bool.and_eq_true, decide_eq_true_eq] at ok
      obtain ⟨⟨⟨⟨⟨⟨⟨⟨⟨⟨⟨⟨⟨rfl, h0⟩, h1⟩, h2⟩, h3⟩, h4⟩, h5⟩, h6⟩, h7⟩, h8⟩, h9⟩, h10⟩, h11⟩, h12⟩ := ok
      obtain ⟨to, po, ro⟩ := snd1 y o c x h6 h7
      obtain ⟨ta, hn, pa, ra⟩ := sndA y es c as h10
      obtain ⟨tk, pk, rk⟩ := sndK y kw c ks h11
      obtain ⟨ad, fd, ps, m3, fa⟩ := y.fns f h1
      obtain ⟨its, dvs, pad, rd, rp⟩ := fa.pad _ _ _ _ h12
      have l1 := okEs_len h10
      have l2 := okKs_len h11 h9
      refine .of ⟨_, fun X g => ?_, re_methD (n := as.length + 1) rp ro ra rk (fun cc sl rt xs rt' e => by rw [evA_length es cc sl rt xs rt' e, l1]) (fun cc sl rt xs rt' e => (evA_length kw cc sl rt xs rt' e).trans l2)⟩ trivial
      have F : FOk X.prog X.w X.K X.mg X.base Y.k ad fd ps (spF Y.K Y.C Y.F f) := by rw [g.P, g.w, g.K, g.mg, g.base]; exact m3
      exact pe_methD F (g.room.mono (Nat.le_succ _)) g.grd (by rw [g.K]; exact y.cls h0 cc) (by rw [g.K]; exact fa.mth cc _ h2) (by rw [g.K]; exact pad) rd h8 h9 h5 h4 (attr_base h3) hn (po X g) (pa X g) (pk X g)
    · cases ok
  | .mkD cc f es kw dv pm, c, e, ok => by
    unfold okE at ok
    split at ok
    · rename_i x p as ks pos
      simp only [Bool.and_eq_true, decide_eq_true_eq] at ok
      obtain ⟨⟨⟨⟨⟨⟨⟨⟨⟨h1, h2⟩, h3⟩, h4⟩, h5⟩, h6⟩, h7⟩, h8⟩, h9⟩, h10⟩ := ok
      obtain ⟨ta, hn, pa, ra⟩ := sndA y es c as h8
      obtain ⟨tk, pk, rk⟩ := sndK y kw c ks h9
      obtain ⟨ad, fd, ps, m3, fa⟩ := y.fns f h2
      obtain ⟨its, dvs, pad, rd, rp⟩ := fa.pad _ _ _ _ h10
      unfold plainN at h5
      simp only [Bool.and_eq_true, Bool.not_eq_true', decide_eq_true_eq] at h5
      have l1 := okEs_len h8
      have l2 := okKs_len h9 h7
      refine .of ⟨_, fun X g => ?_, re_mkD (n := as.length + 1) rp ra rk (fun cc sl rt xs rt' e => by rw [evA_length es cc sl rt xs rt' e, l1]) (fun cc sl rt xs rt' e => (evA_length kw cc sl rt xs rt' e).trans l2)⟩ trivial
      have F : FOk X.prog X.w X.K X.mg X.base Y.k ad fd ps (spF Y.K Y.C Y.F f) := by rw [g.P, g.w, g.K, g.mg, g.base]; exact m3
      exact pe_makeD (by rw [g.K]; exact fa.ini cc h3) F g.room g.grd (g.glo h4) (by rw [g.mg]; exact y.cnm cc x h1) (by rw [g.K]; exact pad) rd h6 h7 hn (pa X g) (pk X g) h5.1.1
    · cases ok
  | .sls a lo st, c, e, ok => by
    unfold okE at ok
    split at ok
    · rename_i x l su p2 pos
      simp only [Bool.and_eq_true] at ok
      obtain ⟨t1, p1, r1⟩ := (sndE y a c x ok.1.1).1
      obtain ⟨tl, pl, rl⟩ := sndO y ok.1.2
      obtain ⟨tu, pu, ru⟩ := sndO (o := some st) (e := some su) y ok.2
      refine .of ⟨_, fun X g => ?_, re_sls r1 rl ru⟩ trivial
      have q := pe_slK (p2 := p2) (pos := pos) (p1 X g) (pl X g) (pu X g)
      rw [g.K] at q
      exact q
    · cases ok
  | .methS cc m f o es, c, e, ok => by
    unfold okE at ok
    split at ok
    · rename_i x gn ap as cp
      simp only [Bool.and_eq_true, decide_eq_true_eq] at ok
      obtain ⟨⟨⟨⟨⟨⟨⟨⟨⟨⟨⟨rfl, h0⟩, h1⟩, h2⟩, h3⟩, h4⟩, h5⟩, h6⟩, h7⟩, h8⟩, h10⟩, h12⟩ := ok
      obtain ⟨to, po, ro⟩ := snd1 y o c x h6 h7
      obtain ⟨ta, hn, pa, ra⟩ := sndA y es c as h10
      obtain ⟨ad, fd, ps, m3, fa⟩ := y.fns f h1
      refine .of ⟨_, fun X g => ?_, re_methS ro ra⟩ trivial
      have F : FOk X.prog X.w X.K X.mg X.base Y.k ad fd ps (spF Y.K Y.C Y.F f) := by rw [g.P, g.w, g.K, g.mg, g.base]; exact m3
      exact pe_methSt F (g.room.mono (Nat.le_succ _)) g.grd (by rw [g.K]; exact y.cls h0 cc) (by rw [g.K]; exact fa.mth cc _ h2) (fa.str _ h12) h8 h5 h4 (attr_base h3) hn (po X g) (pa X g)
    · cases ok
  | .callS f es, c, e, ok => by
    unfold okE at ok
    split at ok
    · rename_i x p as pos
      simp only [Bool.and_eq_true, decide_eq_true_eq] at ok
      obtain ⟨⟨⟨⟨⟨⟨h1, h1'⟩, h2⟩, h3⟩, h4⟩, h5⟩, h6⟩ := ok
      obtain ⟨ta, hn, pa, ra⟩ := sndA y es c as h5
      have hf : f < Y.I.fnm.length := (List.getElem?_eq_some_iff.mp h1).1
      obtain ⟨ad, fd, ps, m3, fa⟩ := y.fns f hf
      obtain ⟨m1, m2⟩ := fa.nm x h1 h1'
      refine .of ⟨_, fun X g => ?_, re_callS ra⟩ trivial
      have F : FOk X.prog X.w X.K X.mg X.base Y.k ad fd ps (spF Y.K Y.C Y.F f) := by rw [g.P, g.w, g.K, g.mg, g.base]; exact m3
      unfold plainN at h3
      simp only [Bool.and_eq_true, Bool.not_eq_true', decide_eq_true_eq] at h3
      exact pe_callSt F (g.room.mono (Nat.le_succ _)) g.grd (g.glo h2) (by rw [g.mg]; exact m1) (by rw [g.K]; exact m2) (fa.str _ h6) h4 hn (pa X g) h3.1.1
    · cases ok
  | .rev a, c, e, ok => by
    unfold okE at ok
    split at ok
    · rename_i x kk p1 p2 p3 p4
      obtain ⟨t1, q1, r1⟩ := (sndE y a c _ ok).1
      refine .of ⟨_, fun X g => ?_, re_rev r1⟩ trivial
      have q := pe_revL (k := kk) (p1 := p1) (p2 := p2) (p3 := p3) (pos := p4) (q1 X g)
      rw [g.K] at q
      exact q
    · cases ok
  | .at a f, c, e, ok => by
    unfold okE at ok
    split at ok
    · rename_i x f' pos
      simp only [Bool.and_eq_true, decide_eq_true_eq] at ok
      obtain ⟨⟨⟨rfl, hf⟩, hb⟩, h4⟩ := ok
      obtain ⟨t1, p1, r1⟩ := (sndE y a c x h4).1
      refine .of ⟨_, fun X g => ?_, re_at y (by simpa using hf) r1⟩ trivial
      have q := pe_fld (f := f) (pos := pos) (p1 X g) (attr_base hb)
      rw [g.K] at q
      exact q
    · cases ok
  | .call f es kw pm, c, e, ok => by
    unfold okE at ok
    split at ok
    · rename_i x p as ks pos
      simp only [Bool.and_eq_true, decide_eq_true_eq] at ok
      obtain ⟨⟨⟨⟨⟨⟨⟨⟨h1, h0⟩, h2⟩, h3⟩, h4⟩, h5⟩, h6⟩, h7⟩, h8⟩ := ok
      obtain ⟨ta, _, pa, ra⟩ := sndA y es c as h6
      obtain ⟨tk, pk, rk⟩ := sndK y kw c ks h7
      obtain ⟨ad, fd, ps, m3, fa⟩ := y.fns f (List.getElem?_eq_some_iff.mp h1).1
      obtain ⟨m1, m2⟩ := fa.nm x h1 h0
      have m4 := fa.pat
      unfold plainN at h3
      simp only [Bool.and_eq_true, Bool.not_eq_true', decide_eq_true_eq] at h3
      have l1 := okEs_len h6
      have l2 := okKs_len h7 h5
      have rr := read_call (f := f) (pm := pm) ra rk (fun cc sl rt xs rt' e => (evA_length es cc sl rt xs rt' e).trans l1) (fun cc sl rt xs rt' e => (evA_length kw cc sl rt xs rt' e).trans l2)
      cases as with
      | nil =>
        have e0 : es = .nil := by cases es <;> first | rfl | cases l1
        subst e0
        have rr0 := read_call (f := f) (pm := pm) raa_nil rk (fun cc sl rt xs rt' e => (evA_length .nil cc sl rt xs rt' e).trans l1) (fun cc sl rt xs rt' e => (evA_length kw cc sl rt xs rt' e).trans l2)
        refine .of ⟨_, fun X g => ?_, rr0⟩ trivial
        have F : FOk X.prog X.w X.K X.mg X.base Y.k ad fd ps (spF Y.K Y.C Y.F f) := by rw [g.P, g.w, g.K, g.mg, g.base]; exact m3
        exact pe_callU0 F (g.room.mono (Nat.le_succ _)) g.grd (g.glo h2) (by rw [g.mg]; exact m1) (by rw [g.K]; exact m2) (by rw [g.K]; exact m4 _ _ _ h8) h5 (pk X g) h3.1.1
      | cons a0 as =>
        refine .of ⟨_, fun X g => ?_, rr⟩ trivial
        have F : FOk X.prog X.w X.K X.mg X.base Y.k ad fd ps (spF Y.K Y.C Y.F f) := by rw [g.P, g.w, g.K, g.mg, g.base]; exact m3
        exact pe_callU F (g.room.mono (Nat.le_succ _)) g.grd (g.glo h2) (by rw [g.mg]; exact m1) (by rw [g.K]; exact m2) (by rw [g.K]; exact m4 _ _ _ h8) (List.cons_ne_nil _ _) h4 h5 (pa X g) (pk X g) h3.1.1
    · cases ok
  | .f1 f a, c, e, ok => by
    unfold okE at ok
    split at ok
    · rename_i x p z pos
      simp only [Bool.and_eq_true, decide_eq_true_eq] at ok
      obtain ⟨⟨⟨rfl, h1⟩, h2⟩, h3⟩ := ok
      obtain ⟨t1, p1, r1⟩ := (sndE y a c z h3).1
      obtain ⟨b1, b2, b3, b4⟩ := f.boot
      refine .of ⟨_, fun X g => ?_, re_f1 r1⟩ trivial
      have q := g.call (p := p) (pos := pos) (f1_ok (X := X) (C := Y.C) g.calm g.grd g.units f) h1 (g.blt y b2) b1 b4 b3 (by simpa using h2) (pa_one h2 (p1 X g))
      rw [g.K] at q
      exact q
    · cases ok
  | .f1p f pp, c, e, ok => by
    unfold okE at ok
    split at ok
    · rename_i x p z pos
      simp only [Bool.and_eq_true, decide_eq_true_eq] at ok
      obtain ⟨⟨⟨rfl, h1⟩, h2⟩, h3⟩ := ok
      obtain ⟨t1, p1, r1⟩ := sndP y pp z h3
      obtain ⟨b1, b2, b3, b4⟩ := f.boot
      refine .of ⟨_, fun X g => ?_, re_f1p r1⟩ trivial
      have q := g.call (p := p) (pos := pos) (f1_ok (X := X) (C := Y.C) g.calm g.grd g.units f) h1 (g.blt y b2) b1 b4 b3 (by simpa using h2) (pa_one h2 (p1 X g))
      rw [g.K] at q
      exact q
    · cases ok
  | .f2 f a b, c, e, ok => by
    unfold okE at ok
    split at ok
    · rename_i x p z w pos
      simp only [Bool.and_eq_true, decide_eq_true_eq] at ok
      obtain ⟨⟨⟨⟨⟨rfl, h1⟩, h2⟩, h3⟩, h4⟩, h5⟩ := ok
      obtain ⟨t1, p1, r1⟩ := (sndE y a c z h4).1
      obtain ⟨t2, p2, r2⟩ := (sndE y b c w h5).1
      obtain ⟨b1, b2, b3, b4⟩ := f.boot
      refine .of ⟨_, fun X g => ?_, re_f2 r1 r2⟩ trivial
      have q := g.call (p := p) (pos := pos) (f2_ok (X := X) (C := Y.C) g.calm f) h1 (g.blt y b2) b1 b4 b3 (by simp [h2, h3]) (pa_cons (p1 X g) (pa_one h3 (p2 X g)) (star_cons h2))
      rw [g.K] at q
      exact q
    · cases ok
  | .lrg1 tu b, c, e, ok => by
    unfold okE at ok
    split at ok
    · rename_i x p0 yy p1 z p2 p3
      simp only [Bool.and_eq_true, decide_eq_true_eq] at ok
      obtain ⟨⟨⟨⟨⟨rfl, rfl⟩, h1⟩, h2⟩, h3⟩, h4⟩ := ok
      obtain ⟨te, pe, re⟩ := (sndE y b c _ h4).1
      refine .of ⟨_, fun X g => ?_, re_lrg1 (tu := tu) re⟩ trivial
      have q := prg_1 (p := p1) (pos := p2) (g.glo h2) (g.blt y (by decide +kernel)) (pe X g) (star_cons h3)
      cases tu with
      | true => exact pe_tupRg g.calm (g.glo h1) (g.blt y (by decide +kernel)) q rfl
      | false => exact pe_listRg g.calm (g.glo h1) (g.blt y (by decide +kernel)) q rfl
    · cases ok
  | .lrg2 tu a b, c, e, ok => by
    unfold okE at ok
    split at ok
    · rename_i x p0 yy p1 z w p2 p3
      simp only [Bool.and_eq_true, decide_eq_true_eq] at ok
      obtain ⟨⟨⟨⟨⟨⟨⟨rfl, rfl⟩, h1⟩, h2⟩, h3⟩, h4⟩, h5⟩, h6⟩ := ok
      obtain ⟨t1, q1, r1⟩ := (sndE y a c _ h5).1
      obtain ⟨t2, q2, r2⟩ := (sndE y b c _ h6).1
      refine .of ⟨_, fun X g => ?_, re_lrg2 (tu := tu) r1 r2⟩ trivial
      have q := prg_2 (p := p1) (pos := p2) (g.glo h2) (g.blt y (by decide +kernel)) (q1 X g) (q2 X g) (star_cons h3) (star_cons h4) (star_plain (by simp [h4]))
      cases tu with
      | true => exact pe_tupRg g.calm (g.glo h1) (g.blt y (by decide +kernel)) q rfl
      | false => exact pe_listRg g.calm (g.glo h1) (g.blt y (by decide +kernel)) q rfl
    · cases ok
  | .pop p, c, e, ok => by
    unfold okE at ok
    split at ok
    · rename_i x m ap cp
      simp only [Bool.and_eq_true, decide_eq_true_eq] at ok
      obtain ⟨⟨rfl, h1⟩, h2⟩ := ok
      obtain ⟨t1, p1, r1⟩ := sndP y p x h2
      refine .of ⟨_, fun X g => ?_, re_pop r1⟩ trivial
      have q := pe_bm0 (apos := ap) (cpos := cp) PySem.F.plainAttrs_list PySem.F.slot_list_pop PySem.F.type_list_pop (mt_pop (X := X)) (p1 X g) (path_base h2) h1
      rw [g.K] at q
      exact q
    · cases ok
  | .lc own tg it cond elt, c, e, ok => by
    unfold okE at ok
    split at ok
    · rename_i el t iter ifs scope pos
      simp only [Bool.and_eq_true, decide_eq_true_eq] at ok
      obtain ⟨⟨⟨⟨⟨⟨⟨h1, h2⟩, h3⟩, h4⟩, h5⟩, h6⟩, h7⟩, h8⟩ := ok
      obtain ⟨wi, pi, ri⟩ := sndI y it c t iter h2
      obtain ⟨g0, pg, rg⟩ := sndTg (Y := Y) tg (c.blk scope) t h3
      obtain ⟨⟨te, pe, re⟩, _⟩ := sndE y elt (c.blk scope) el h8
      have hc : ∃ tt, (∀ X, Gd Y (c.blk scope) X → PTs X ifs tt) ∧ RT Y cond tt := by
        split at h7
        · split at h7
          · refine ⟨tYes, fun X g => pts_nil, fun np sl σ H h rt vs F b rt' rl hv Q k => ?_⟩
            have hv := tst_eq hv
            unfold ev at hv
            cases hv
            exact k H h F Stp.refl rl fun _ => Same.refl _
          · cases h7
        · rename_i x
          obtain ⟨_, s1⟩ := sndE y cond (c.blk scope) x h7
          obtain ⟨u1, q1, w1⟩ := s1 h5
          exact ⟨u1, fun X g => pts_one (q1 X g).1, w1⟩
        · cases h7
      obtain ⟨tt, pt, rt⟩ := hc
      refine .of ⟨tLc wi g0 tt te own, fun X g => ?_, read_lc ri rg rt re h6 (by simpa using h4)⟩ trivial
      have eo : (ownOf c own).map (·.2) = own := by
        unfold ownOf
        rw [List.map_map]
        exact List.map_id' own
      have q := pe_lc (pos := pos) g.calm (by rw [g.N]; exact g.nd) (pi X g) (by rw [g.N, g.sc]; exact blkOk_by h1) (fun s H C cl fp => pg _ (g.blk s H scope C cl fp)) (fun s H C cl fp => pt _ (g.blk s H scope C cl fp)) (fun s H C cl fp => pe _ (g.blk s H scope C cl fp)) (fold_plain (okI_set h2))
      rw [eo] at q
      exact q
    · cases ok
  | .dct ks es, c, e, ok => by
    unfold okE at ok
    split at ok
    · rename_i keys xs pos
      simp only [Bool.and_eq_true] at ok
      obtain ⟨⟨⟨h1, h0⟩, h2⟩, h3⟩ := ok
      have h0 := of_decide_eq_true h0
      obtain ⟨trs, l, pp, rr⟩ := sndPs y es c ks keys xs h1 h0 h2 h3
      by_cases hz : keys ≠ [] ∧ keys.length ≤ 15
      · refine .of ⟨_, fun X g => pe_disp (pp X g pos) l h0 hz.1 hz.2, re_dct rr⟩ trivial
      · -- such a display has no answer
        refine .of ⟨fun _ _ _ => False, fun X g => ⟨fun _ _ _ _ _ _ q => q.elim⟩, fun np mv sl σ H h rt vs F tr rt' rl hv Q k => hz ?_⟩ trivial
        unfold ev at hv
        split at hv
        · split at hv
          · rename_i hq
            have e1 := keyS_len h1
            refine ⟨fun e => hq.2.2.2 ?_, by omega⟩
            rw [e] at e1
            exact List.eq_nil_of_length_eq_zero e1
          · cases hv
        · cases hv
    · cases ok
  | .isi t a, c, e, ok => by
    unfold okE at ok
    split at ok
    · rename_i x p z w pos
      simp only [Bool.and_eq_true, decide_eq_true_eq] at ok
      obtain ⟨⟨⟨⟨⟨rfl, h1⟩, h2⟩, h3⟩, h4⟩, h5⟩ := ok
      obtain ⟨ta, pa, ra⟩ := (sndE y a c z h4).1
      obtain ⟨cv, cu, ft, pc⟩ := sub_isi y h5
      refine .of ⟨_, fun X g => ?_, re_isi ft ra⟩ trivial
      have q := g.call (x := "isinstance") (p := p) (pos := pos) (call_isi (X := X)) h1 (g.blt y (by decide +kernel)) (by decide +kernel) (.inl ⟨_, rfl⟩) (by decide +kernel) (by simp [h2, h3]) (pa_cons (pa X g) (pa_one h3 (pc X g)) (star_cons h2))
      rw [g.K] at q
      exact q
    · cases ok
  | .mk cc f es kw pm, c, e, ok => by
    unfold okE at ok
    split at ok
    · rename_i x p as ks pos
      simp only [Bool.and_eq_true, decide_eq_true_eq] at ok
      obtain ⟨⟨⟨⟨⟨⟨⟨⟨⟨h1, h2⟩, h3⟩, h4⟩, h5⟩, h6⟩, h7⟩, h8⟩, h9⟩, h10⟩ := ok
      obtain ⟨ta, hn, pa, ra⟩ := sndA y es c as h8
      obtain ⟨tk, pk, rk⟩ := sndK y kw c ks h9
      obtain ⟨ad, fd, ps, m3, fa⟩ := y.fns f h2
      unfold plainN at h5
      simp only [Bool.and_eq_true, Bool.not_eq_true', decide_eq_true_eq] at h5
      have l1 := okEs_len h8
      have l2 := okKs_len h9 h7
      refine .of ⟨_, fun X g => ?_, re_mk (n := as.length + 1) ra rk (fun cc sl rt xs rt' e => by rw [evA_length es cc sl rt xs rt' e, l1]) (fun cc sl rt xs rt' e => (evA_length kw cc sl rt xs rt' e).trans l2)⟩ trivial
      have F : FOk X.prog X.w X.K X.mg X.base Y.k ad fd ps (spF Y.K Y.C Y.F f) := by rw [g.P, g.w, g.K, g.mg, g.base]; exact m3
      exact pe_makeU (by rw [g.K]; exact fa.ini cc h3) F g.room g.grd (g.glo h4) (by rw [g.mg]; exact y.cnm cc x h1) (by rw [g.K]; exact fa.pat _ _ _ h10) h6 h7 hn (pa X g) (pk X g) h5.1.1
    · cases ok
  | .mkS cc f a pm, c, e, ok => by
    unfold okE at ok
    split at ok
    · rename_i x p z zp pos
      simp only [Bool.and_eq_true, decide_eq_true_eq] at ok
      obtain ⟨⟨⟨⟨⟨⟨h1, h2⟩, h3⟩, h4⟩, h5⟩, h6⟩, h7⟩ := ok
      obtain ⟨ta, pa, ra⟩ := (sndE y a c z h6).1
      obtain ⟨ad, fd, ps, m3, fa⟩ := y.fns f h2
      unfold plainN at h5
      simp only [Bool.and_eq_true, Bool.not_eq_true', decide_eq_true_eq] at h5
      refine .of ⟨_, fun X g => ?_, re_mkS ra⟩ trivial
      have F : FOk X.prog X.w X.K X.mg X.base Y.k ad fd ps (spF Y.K Y.C Y.F f) := by rw [g.P, g.w, g.K, g.mg, g.base]; exact m3
      have q := pe_makeS (p := p) (pos := pos) (sp_ := zp) (M := by rw [g.K]; exact fa.ini cc h3) F g.room g.grd (g.glo h4) (by rw [g.mg]; exact y.cnm cc x h1) (by rw [g.K]; exact fa.pat _ _ _ h7) (pa X g) h5.1.1
      rw [g.K] at q
      exact q
    · cases ok
  | .meth cc m f o es kw pm, c, e, ok => by
    unfold okE at ok
    split at ok
    · rename_i x gn ap as ks cp
      simp only [Bool.and_eq_true, decide_eq_true_eq] at ok
      obtain ⟨⟨⟨⟨⟨⟨⟨⟨⟨⟨⟨⟨⟨rfl, h0⟩, h1⟩, h2⟩, h3⟩, h4⟩, h5⟩, h6⟩, h7⟩, h8⟩, h9⟩, h10⟩, h11⟩, h12⟩ := ok
      obtain ⟨to, po, ro⟩ := snd1 y o c x h6 h7
      obtain ⟨ta, hn, pa, ra⟩ := sndA y es c as h10
      obtain ⟨tk, pk, rk⟩ := sndK y kw c ks h11
      obtain ⟨ad, fd, ps, m3, fa⟩ := y.fns f h1
      have l1 := okEs_len h10
      have l2 := okKs_len h11 h9
      refine .of ⟨_, fun X g => ?_, re_meth (n := as.length + 1) ro ra rk (fun cc sl rt xs rt' e => by rw [evA_length es cc sl rt xs rt' e, l1]) (fun cc sl rt xs rt' e => (evA_length kw cc sl rt xs rt' e).trans l2)⟩ trivial
      have F : FOk X.prog X.w X.K X.mg X.base Y.k ad fd ps (spF Y.K Y.C Y.F f) := by rw [g.P, g.w, g.K, g.mg, g.base]; exact m3
      exact pe_methU F (g.room.mono (Nat.le_succ _)) g.grd (by rw [g.K]; exact y.cls h0 cc) (by rw [g.K]; exact fa.mth cc _ h2) (by rw [g.K]; exact fa.pat _ _ _ h12) h8 h9 h5 h4 (attr_base h3) hn (po X g) (pa X g) (pk X g)
    · cases ok
  | .prop cc m f o, c, e, ok => by
    unfold okE at ok
    split at ok
    · rename_i x gn pos
      simp only [Bool.and_eq_true, decide_eq_true_eq] at ok
      obtain ⟨⟨⟨⟨⟨⟨⟨rfl, h0⟩, h1⟩, h2⟩, h3⟩, h4⟩, h5⟩, h6⟩ := ok
      obtain ⟨to, po, ro⟩ := snd1 y o c x h4 h5
      obtain ⟨ad, fd, ps, m3, fa⟩ := y.fns f h1
      obtain ⟨pp, hp⟩ := fa.prp cc _ h2
      refine .of ⟨_, fun X g => ?_, re_prop ro⟩ trivial
      have F : FOk X.prog X.w X.K X.mg X.base Y.k ad fd ps (spF Y.K Y.C Y.F f) := by rw [g.P, g.w, g.K, g.mg, g.base]; exact m3
      exact pe_propU F g.room g.grd (by rw [g.K]; exact y.cls h0 cc) (by rw [g.K]; exact hp) (by rw [g.K]; exact fa.pat _ _ _ h6) (attr_base h3) (po X g)
    · cases ok
  | .olen cc f o, c, e, ok => by
    unfold okE at ok
    split at ok
    · rename_i yn p x pos
      simp only [Bool.and_eq_true, decide_eq_true_eq] at ok
      obtain ⟨⟨⟨⟨⟨⟨⟨rfl, h1⟩, h2⟩, h3⟩, h4⟩, h5⟩, h6⟩, h7⟩ := ok
      obtain ⟨to, po, ro⟩ := snd1 y o c x h5 h6
      obtain ⟨ad, fd, ps, m3, fa⟩ := y.fns f h3
      refine .of ⟨_, fun X g => ?_, re_olen ro⟩ trivial
      have F : FOk X.prog X.w X.K X.mg X.base Y.k ad fd ps (spF Y.K Y.C Y.F f) := by rw [g.P, g.w, g.K, g.mg, g.base]; exact m3
      exact g.call (x := "len") (p := p) (pos := pos) (call_olen F g.room g.grd (by rw [g.K]; exact fa.mth cc _ h4) (by rw [g.K]; exact fa.pat _ _ _ h7)) h1 (g.blt y (by decide +kernel)) (by decide +kernel) (.inl ⟨_, rfl⟩) (by decide +kernel) (by simpa using h2) (pa_one h2 (po X g))
    · cases ok
  | .oeq cc f a b, c, e, ok => by
    unfold okE at ok
    split at ok
    · rename_i x z pos
      simp only [Bool.and_eq_true, decide_eq_true_eq] at ok
      obtain ⟨⟨⟨⟨h1, h2⟩, h3⟩, h4⟩, h5⟩ := ok
      obtain ⟨ta, pa, ra⟩ := (sndE y a c x h3).1
      obtain ⟨tb, pb, rb⟩ := (sndE y b c z h4).1
      obtain ⟨ad, fd, ps, m3, fa⟩ := y.fns f h1
      have re := re_oeq (cc := cc) (f := f) ra rb
      have mk : ∀ X, Gd Y c X → OpR X (compareOp .Eq) (rOEq (Y.C cc) (spF Y.K Y.C Y.F f)) := fun X g => by
        have F : FOk X.prog X.w X.K X.mg X.base Y.k ad fd ps (spF Y.K Y.C Y.F f) := by rw [g.P, g.w, g.K, g.mg, g.base]; exact m3
        exact op_oeq F (g.room.mono (Nat.le_succ _)) g.grd (by rw [g.K]; exact fa.mth cc _ h2) (by rw [g.K]; exact fa.pat _ _ _ h5)
      refine ⟨⟨_, fun X g => pe_cmpR (mk X g) (pa X g) (pb X g) (nomark _), re⟩, fun _ => ⟨_, fun X g => ⟨pt_cmpR (mk X g) (pa X g) (pb X g) (nomark _), fun z => by cases z⟩, rt_of re⟩⟩
    · cases ok
theorem snd1 (y : Y.Ok) : ∀ (o : Es) (c : Ck) (x : Expr), oneEs o = true → okEs Y.I c o [x] = true → ∃ to, (∀ X, Gd Y c X → PE X x to) ∧ RA1 Y o to
  | .cons e .nil, c, x, _, ok => by
    unfold okEs at ok
    simp only [Bool.and_eq_true] at ok
    obtain ⟨te, pe, re⟩ := (sndE y e c x ok.1.2).1
    exact ⟨te, pe, ra1_cons re⟩
  | .mut i .nil, c, x, _, ok => by
    unfold okEs at ok
    simp only [Bool.and_eq_true] at ok
    obtain ⟨n, pos, rfl, o1, o2, o3⟩ := okP_var ok.1.2
    exact ⟨_, fun X g => g.var o1 o2 o3, ra1_mut⟩
  | .nil, c, x, h, _ => by cases h
  | .star _ _, c, x, h, _ => by cases h
  | .cons _ (.cons _ _), c, x, h, _ => by cases h
  | .cons _ (.mut _ _), c, x, h, _ => by cases h
  | .cons _ (.star _ _), c, x, h, _ => by cases h
  | .mut _ (.cons _ _), c, x, h, _ => by cases h
  | .mut _ (.mut _ _), c, x, h, _ => by cases h
  | .mut _ (.star _ _), c, x, h, _ => by cases h
theorem sndPs (y : Y.Ok) : ∀ (es : Es) (c : Ck) (ks : List Key) (keys : List (Option Expr)) (xs : List Expr), keyS ks keys = true → keys.length = xs.length → xs.all noStar = true → okEs Y.I c es xs = true →
    ∃ trs, keys.all (·.isSome) = true ∧ (∀ X, Gd Y c X → ∀ pos, PPs X pos keys xs trs) ∧ RPs Y ks es trs
  | .nil, c, ks, keys, xs, hk, hl, hs, ok => by
    unfold okEs at ok
    split at ok
    · have e1 : keys = [] := List.eq_nil_of_length_eq_zero hl
      subst e1
      have e2 := keyS_len hk
      have e3 : ks = [] := List.eq_nil_of_length_eq_zero e2
      subst e3
      exact ⟨[], rfl, fun X g pos => pps_nil, rps_nil⟩
    · cases ok
  | .cons e r, c, ks, keys, xs, hk, hl, hs, ok => by
    unfold okEs at ok
    split at ok
    · rename_i x xs
      simp only [Bool.and_eq_true] at ok
      rw [List.all_cons, Bool.and_eq_true] at hs
      obtain ⟨te, pe, re⟩ := (sndE y e c x ok.1.2).1
      unfold keyS at hk
      split at hk
      · cases hl
      · rename_i s1 ks1 t1 k1 p1 keys1
        obtain ⟨h1, h2⟩ := and_tt hk
        have h1 := of_decide_eq_true h1
        subst h1
        obtain ⟨trs, l, pp, rr⟩ := sndPs y r c ks1 keys1 xs h2 (by simpa using hl) hs.2 ok.2
        exact ⟨_, by rw [List.all_cons, l]; rfl, fun X g pos => pps_cons pe_str (pe X g) (pp X g pos), rps_cons (kk := .inr s1) re rr⟩
      · rename_i s1 ks1 t1 k1 p1 keys1
        obtain ⟨h1, h2⟩ := and_tt hk
        have h1 := of_decide_eq_true h1
        subst h1
        obtain ⟨trs, l, pp, rr⟩ := sndPs y r c ks1 keys1 xs h2 (by simpa using hl) hs.2 ok.2
        exact ⟨_, by rw [List.all_cons, l]; rfl, fun X g pos => pps_cons pe_int (pe X g) (pp X g pos), rps_cons (kk := .inl s1) re rr⟩
      · cases hk
    · cases ok
  | .mut i r, c, ks, keys, xs, hk, hl, hs, ok => by
    unfold okEs at ok
    split at ok
    · rename_i x xs
      simp only [Bool.and_eq_true] at ok
      rw [List.all_cons, Bool.and_eq_true] at hs
      obtain ⟨te, pe, _⟩ := sndP y (.var i) x ok.1.2
      have no : ∀ ks trs, RPs Y ks (.mut i r) trs := fun ks trs np mv sl σ H h rt vs F ts rt' rl hv Q k => by
        unfold evs at hv
        cases hv
      unfold keyS at hk
      split at hk
      · cases hl
      · rename_i s1 ks1 t1 k1 p1 keys1
        obtain ⟨trs, l, pp, rr⟩ := sndPs y r c ks1 keys1 xs (and_tt hk).2 (by simpa using hl) hs.2 ok.2
        exact ⟨_, by rw [List.all_cons, l]; rfl, fun X g pos => pps_cons pe_str (pe X g) (pp X g pos), no _ _⟩
      · rename_i s1 ks1 t1 k1 p1 keys1
        obtain ⟨trs, l, pp, rr⟩ := sndPs y r c ks1 keys1 xs (and_tt hk).2 (by simpa using hl) hs.2 ok.2
        exact ⟨_, by rw [List.all_cons, l]; rfl, fun X g pos => pps_cons pe_int (pe X g) (pp X g pos), no _ _⟩
      · cases hk
    · cases ok
  | .star e r, c, ks, keys, xs, hk, hl, hs, ok => by
    unfold okEs at ok
    split at ok
    · rw [List.all_cons, Bool.and_eq_true] at hs
      cases hs.1
    · cases ok
theorem sndEs (y : Y.Ok) : ∀ (es : Es) (c : Ck) (xs : List Expr), okEs Y.I c es xs = true → SAs Y c es xs
  | .nil, c, xs, ok => by
    unfold okEs at ok
    split at ok
    · refine ⟨tNil, fun X g => pa_nil, fun np mv sl σ H h rt vs F ts rt' rl hv Q k => ?_⟩
      unfold evs at hv
      cases hv
      exact k [] H h F [] Stp.refl rl .nil (fun a z => absurd z (by simp)) (fun a z => absurd z (by simp)) fun _ => Same.refl _
    · cases ok
  | .cons e r, c, xs, ok => by
    unfold okEs at ok
    split at ok
    · rename_i x xs
      simp only [Bool.and_eq_true] at ok
      obtain ⟨te, pe, re⟩ := (sndE y e c x ok.1.2).1
      obtain ⟨t, p, rr⟩ := sndEs y r c xs ok.2
      refine ⟨tCons te t, fun X g => pa_cons (pe X g) (p X g) (star_cons ok.1.1), fun np mv sl σ H h rt vs F ts rt' rl hv Q k => ?_⟩
      unfold evs at hv
      split at hv
      · cases hv
      · rename_i x rt1 e1
        split at hv
        · cases hv
        · rename_i ts2 rt2 e2
          cases hv
          refine re np mv sl σ H h rt vs F _ _ rl e1 _ fun v H1 h1 F1 G st1 rl1 ow dj fr q1 => ?_
          refine rr np mv sl σ H1 h1 rt1 vs F1 ts2 _ rl1 e2 _ fun ws H2 h2 F2 G2 st2 rl2 ow2 dj2 fr2 q2 => ?_
          obtain ⟨ow3, dj3⟩ := st2.own ow dj
          refine k (v :: ws) H2 h2 F2 (G ++ G2) (st1.trans st2) rl2 (.cons ow3 ow2 fun a z z' => ?_) (fun a z => (List.mem_append.mp z).elim (dj3 a) (dj2 a)) (fun a z => (List.mem_append.mp z).elim (fr a) fun z => (fr2 a z).elim (st1.fp a) (st1.back a)) fun z => (q1 (and_tt z).1).trans (q2 (and_tt z).2)
          rcases fr2 a z' with w | w
          · exact dj a z w
          · obtain ⟨_, o, e⟩ := ow.at a z
            rw [w] at e
            cases e
    · cases ok
  | .mut i r, c, xs, ok => by
    unfold okEs at ok
    split at ok
    · rename_i x xs
      simp only [Bool.and_eq_true] at ok
      obtain ⟨te, pe, _⟩ := sndP y (.var i) x ok.1.2
      obtain ⟨t, p, rr⟩ := sndEs y r c xs ok.2
      refine ⟨tCons te t, fun X g => pa_cons (pe X g) (p X g) (star_cons ok.1.1), fun np mv sl σ H h rt vs F ts rt' rl hv Q k => ?_⟩
      unfold evs at hv
      cases hv
    · cases ok
  | .star e r, c, xs, ok => by
    unfold okEs at ok
    split at ok
    · rename_i x p0 xs
      rw [Bool.and_eq_true] at ok
      obtain ⟨te, pe, re⟩ := (sndE y e c x ok.1).1
      obtain ⟨t, p, rr⟩ := sndEs y r c xs ok.2
      exact ⟨_, fun X g => by
        have q := StX.pa_star (p := p0) (pe X g) (p X g)
        rw [g.K] at q
        exact q, ras_star re rr⟩
    · cases ok
theorem sndA (y : Y.Ok) : ∀ (es : Es) (c : Ck) (xs : List Expr), okEs Y.I c es xs = true → SAA Y c es xs
  | .nil, c, xs, ok => by
    unfold okEs at ok
    split at ok
    · exact ⟨tNil, fun _ => rfl, fun X g => pa_nil, raa_nil⟩
    · cases ok
  | .cons e r, c, xs, ok => by
    unfold okEs at ok
    split at ok
    · rename_i x xs
      simp only [Bool.and_eq_true] at ok
      obtain ⟨te, pe, re⟩ := (sndE y e c x ok.1.2).1
      obtain ⟨t, _, p, rr⟩ := sndA y r c xs ok.2
      exact ⟨tCons te t, (fun e => by cases e), fun X g => pa_cons (pe X g) (p X g) (star_cons ok.1.1), raa_cons re rr⟩
    · cases ok
  | .mut i r, c, xs, ok => by
    unfold okEs at ok
    split at ok
    · rename_i x xs
      simp only [Bool.and_eq_true] at ok
      obtain ⟨n, pos, rfl, o1, o2, o3⟩ := okP_var ok.1.2
      obtain ⟨t, _, p, rr⟩ := sndA y r c xs ok.2
      exact ⟨tCons (tVar i) t, (fun e => by cases e), fun X g => pa_cons (g.var o1 o2 o3) (p X g) (star_cons ok.1.1), raa_mut rr⟩
    · cases ok
  | .star e r, c, xs, ok => by
    unfold okEs at ok
    split at ok
    · rename_i x p0 xs
      rw [Bool.and_eq_true] at ok
      obtain ⟨te, pe, re⟩ := (sndE y e c x ok.1).1
      obtain ⟨t, _, p, rr⟩ := sndA y r c xs ok.2
      refine ⟨_, (fun e => by cases e), fun X g => by
        have q := StX.pa_star (p := p0) (pe X g) (p X g)
        rw [g.K] at q
        exact q, fun np sl σ H h rt vs F xs rt' rl hv Q k => ?_⟩
      unfold evA at hv
      cases hv
    · cases ok
theorem sndK (y : Y.Ok) : ∀ (es : Es) (c : Ck) (xs : List Keyword), okKs Y.I c es xs = true → SKK Y c es xs
  | .nil, c, xs, ok => by
    unfold okKs at ok
    split at ok
    · exact ⟨tNil, fun X g => pk_nil, raa_nil⟩
    · cases ok
  | .cons e r, c, xs, ok => by
    unfold okKs at ok
    split at ok
    · rename_i x p0 xs
      simp only [Bool.and_eq_true] at ok
      obtain ⟨te, pe, re⟩ := (sndE y e c _ ok.1).1
      obtain ⟨t, p, rr⟩ := sndK y r c _ ok.2
      exact ⟨tCons te t, fun X g => pk_cons (pe X g) (p X g), raa_cons re rr⟩
    · cases ok
  | .mut i r, c, xs, ok => by
    unfold okKs at ok
    split at ok
    · simp only [Bool.and_eq_true] at ok
      obtain ⟨n, pos, rfl, o1, o2, o3⟩ := okP_var ok.1
      obtain ⟨t, p, rr⟩ := sndK y r c _ ok.2
      exact ⟨tCons (tVar i) t, fun X g => pk_cons (g.var o1 o2 o3) (p X g), raa_mut rr⟩
    · cases ok
  | .star e r, c, xs, ok => by
    unfold okKs at ok
    cases ok
theorem sndI (y : Y.Ok) : ∀ (it : It) (c : Ck) (t e : Expr), okI Y.I c it t e = true → SI Y c it t e
  | .rng1 a, c, t, e, ok => by
    unfold okI at ok
    split at ok
    · simp only [Bool.and_eq_true, decide_eq_true_eq] at ok
      obtain ⟨⟨⟨rfl, h1⟩, h2⟩, h3⟩ := ok
      obtain ⟨te, pe, re⟩ := (sndE y a c _ h3).1
      exact ⟨_, fun X g => pi_range1 (g.glo h1) (g.blt y (by decide +kernel)) (pa_one h2 (pe X g)) (star_cons h2), ri_rng1 re⟩
    · cases ok
  | .rng2 a b, c, t, e, ok => by
    unfold okI at ok
    split at ok
    · simp only [Bool.and_eq_true, decide_eq_true_eq] at ok
      obtain ⟨⟨⟨⟨⟨rfl, h1⟩, h2⟩, h3⟩, h4⟩, h5⟩ := ok
      obtain ⟨t1, p1, r1⟩ := (sndE y a c _ h4).1
      obtain ⟨t2, p2, r2⟩ := (sndE y b c _ h5).1
      exact ⟨_, fun X g => pi_range2 (g.glo h1) (g.blt y (by decide +kernel)) (pa_cons (p1 X g) (pa_one h3 (p2 X g)) (star_cons h2)) (starB h2 h3) (star_cons h3), ri_rng2 r1 r2⟩
    · cases ok
  | .seq a, c, t, e, ok => by
    unfold okI at ok
    obtain ⟨te, pe, re⟩ := (sndE y a c _ (and_tt ok).2).1
    refine ⟨_, fun X g => ?_, ri_seq re⟩
    have q := PI.or (tg := t) (pi_list (pe X g)) (pi_tup (pe X g))
    rw [g.K] at q
    exact q
  | .pth p, c, t, e, ok => by
    unfold okI at ok
    obtain ⟨te, pe, re⟩ := sndP y p e (and_tt ok).2
    refine ⟨_, fun X g => ?_, ri_pth re⟩
    have q := PI.or (tg := t) (pi_list (pe X g)) (pi_tup (pe X g))
    rw [g.K] at q
    exact q
  | .enum a, c, t, e, ok => by
    unfold okI at ok
    split at ok
    · rename_i x p z pos
      simp only [Bool.and_eq_true, decide_eq_true_eq] at ok
      obtain ⟨⟨⟨⟨rfl, h0⟩, h1⟩, h2⟩, h3⟩ := ok
      obtain ⟨te, pe, re⟩ := (sndE y a c _ h3).1
      cases t with
      | Tuple elts kk tpos =>
        refine ⟨_, fun X g => ?_, ri_enum re⟩
        have q := pi_enumA (elts := elts) (kk := kk) (tpos := tpos) (p := p) (pos := pos) (g.glo h1) (g.blt y (by decide +kernel)) (pa_one h2 (pe X g)) (star_cons h2)
        rw [g.K] at q
        exact q
      | _ => cases h0
    · cases ok
  | .enumP a, c, t, e, ok => by
    unfold okI at ok
    split at ok
    · rename_i x p z pos
      simp only [Bool.and_eq_true, decide_eq_true_eq] at ok
      obtain ⟨⟨⟨⟨rfl, h0⟩, h1⟩, h2⟩, h3⟩ := ok
      obtain ⟨te, pe, re⟩ := sndP y a z h3
      cases t with
      | Tuple elts kk tpos =>
        refine ⟨_, fun X g => ?_, ri_enumP re⟩
        have q := pi_enum (elts := elts) (kk := kk) (tpos := tpos) (p := p) (pos := pos) (g.glo h1) (g.blt y (by decide +kernel)) (pa_one h2 (pe X g)) (star_cons h2)
        rw [g.K] at q
        exact q
      | _ => cases h0
    · cases ok
  | .zip a b, c, t, e, ok => by
    unfold okI at ok
    split at ok
    · rename_i x p z w pos
      simp only [Bool.and_eq_true, decide_eq_true_eq] at ok
      obtain ⟨⟨⟨⟨⟨⟨rfl, h0⟩, h1⟩, h2⟩, h3⟩, h4⟩, h5⟩ := ok
      obtain ⟨t1, p1, r1⟩ := (sndE y a c _ h4).1
      obtain ⟨t2, p2, r2⟩ := (sndE y b c _ h5).1
      cases t with
      | Tuple elts kk tpos =>
        refine ⟨_, fun X g => ?_, ri_zip r1 r2⟩
        have q := RZ.pi_zipA (elts := elts) (kk := kk) (tpos := tpos) (p := p) (pos := pos) (g.glo h1) (g.blt y (by decide +kernel)) (pa_cons (p1 X g) (pa_one h3 (p2 X g)) (star_cons h2)) (star_cons h2) (star_plain (by simp [h3]))
        rw [g.K] at q
        exact q
      | _ => cases h0
    · cases ok
end
end
end Mi
namespace Mi
open PySem PySem.Spec PyProof.Rows L2
def tgtOk (c : Ck) (i : Nat) (x : Str) : Bool := decide (c.N[i]? = some x) && (match c.sc.names.lookup x with | some .local => true | some .cell => c.fb x | _ => false)
def isLoc (c : Ck) (x : Str) : Bool := c.sc.names.lookup x == some .local
def swapB (c : Ck) (x : Str) (px : Pos) : Expr → Bool
  | .ListComp _ _ s p => isLoc c x && px.line == p.line && !(s.names.any fun (n, k) => n == x && (k == .local || k == .cell))
  | .SetComp _ _ _ _ => true
  | .DictComp _ _ _ s p => isLoc c x && px.line == p.line && !(s.names.any fun (n, k) => n == x && (k == .local || k == .cell))
  | _ => false
def notComp : Expr → Bool
  | .ListComp _ _ _ _ => false
  | .SetComp _ _ _ _ => false
  | .DictComp _ _ _ _ _ => false
  | _ => true
def notTup : Expr → Bool
  | .Tuple _ _ _ => false
  | _ => true
def E.isLc : E → Bool
  | .lc _ _ _ _ _ => true
  | .lc2 _ _ _ _ _ _ _ => true
  | _ => false
mutual
def okS (I : Inf) (c : Ck) : St → Stmt → Bool
  | .asg i e, s => match s with | .Assign [.Name x px] v _ => tgtOk c i x && okE I c e v && (!(swapB c x px v) || e.isLc) | _ => false
  | .al i j, s => match s with | .Assign [.Name x _] (.Name z _) _ => tgtOk c i x && decide (c.N[j]? = some z) && vis c z && plainN z | _ => false
  | .par i j a b, s => match s with
    | .Assign [.Tuple [.Name x px, .Name y py] _ _] (.Tuple [va, vb] _ _) _ => decide (i ≠ j) && decide (c.N[i]? = some x) && decide (c.N[j]? = some y) && isLoc c x && isLoc c y && (py.line == px.line) && decide (x ≠ y) && noStar va && noStar vb &&
        !([va, vb].all (foldedForSure 8)) && !([va, vb].all (constantsAlone 8)) && okE I c a va && okE I c b vb
    | _ => false
  | .parN i j a b, s => match s with
    | .Assign [.Tuple [.Name x px, .Name y py] _ _] (.Tuple [va, vb] _ _) _ => tgtOk c i x && tgtOk c j y && (!(isLoc c x && isLoc c y && (py.line == px.line)) || [va, vb].all (foldedForSure 8)) && noStar va && noStar vb && okE I c a va && okE I c b vb
    | _ => false
  | .asgT tg e, s => match s with | .Assign [.Tuple es k p] v _ => okT c tg (.Tuple es k p) && notTup v && okE I c e v | _ => false
  | .setx p x e, s => match s with | .Assign [.Subscript o i _] v _ => okP I c p o && noSlice i && ok0 I c x i && okE I c e v | _ => false
  | .app p e, s => match s with | .Expr (.Call (.Attribute o m ap) [v] [] cp) _ => decide (m = ("append" : Str)) && (ap.endLine == cp.line) && okP I c p o && noStar v && okE I c e v | _ => false
  | .aug i op e, s => match s with | .AugAssign (.Name x _) o v _ => tgtOk c i x && opIs op o && okE I c e v | _ => false
  | .fld2 p f g e, s => match s with | .Assign [.Tuple [.Attribute o f' _, .Attribute o' g' _] _ _] v _ => decide (f' = f) && decide (g' = g) && I.fld.contains f && I.fld.contains g && okP I c p o && okP I c p o' && notTup v && okE I c e v | _ => false
  | .fld p f e, s => match s with | .Assign [.Attribute o g _] v _ => decide (g = f) && I.fld.contains f && okP I c p o && okE I c e v | _ => false
  | .fldaug p f op e, s => match s with | .AugAssign (.Attribute o g _) oo v _ => decide (g = f) && I.fld.contains f && opIs op oo && okP I c p o && okE I c e v | _ => false
  | .augx p x op e, s => match s with | .AugAssign (.Subscript o i _) oo v _ => noSlice i && opIs op oo && okP I c p o && ok0 I c x i && okE I c e v | _ => false
  | .ext i e, s => match s with | .Expr (.Call (.Attribute o m ap) [v] [] cp) _ => decide (m = ("extend" : Str)) && (ap.endLine == cp.line) && okP I c (.var i) o && noStar v && okE I c e v | _ => false
  | .ex e, s => match s with | .Expr v _ => notComp v && okE I c e v | _ => false
  | .ite e a b, s => match s with | .If t p q _ => e.noIf && okE I c e t && okSs I c a p && okSs I c b q | _ => false
  | .fr tg it b, s => match s with | .For t iter body [] _ => it.clo && okI I c it t iter && okT c tg t && okSs I c b body | _ => false
  | .frV tg i b, s => match s with | .For t iter body [] _ => okP I c (.var i) iter && okT c tg t && okSs I c b body | _ => false
  | .wh e b, s => match s with | .While t body [] _ => e.noIf && okE I c e t && okSs I c b body | _ => false
  | .ret e, s => match s with | .Return (some v) _ => okE I c e v | _ => false
  | .retN, s => match s with | .Return none _ => true | _ => false
  | .brk, s => match s with | .Break _ => true | _ => false
  | .ct, s => match s with | .Continue _ => true | _ => false
  | .nop, s => match s with | .Pass _ => true | .Expr (.Constant (.str _) _ _) _ => true | _ => false
  | .never, _ => true
def okSs (I : Inf) (c : Ck) : Ss → List Stmt → Bool
  | .nil, xs => match xs with | [] => true | _ => false
  | .cons s r, xs => match xs with | x :: xs => okS I c s x && okSs I c r xs | _ => false
end
structure Gs (Y : Fx) (c : Ck) (X : Cx) : Prop extends Gd Y c X where
  kd : X.env.scope.kind = .function
section
variable {Y : Fx} {c : Ck} {X : Cx} {K : PySem.W.Frag} {C : Nat → Addr} {h H h1 H1 : Hp}
theorem Gs.bk (g : Gs Y c X) : X.env.blockKind = .function := by
  unfold Env.blockKind
  rw [g.kd]
  rfl
theorem tgt_ok (g : Gd Y c X) {i : Nat} {x : Str} (h : tgtOk c i x = true) : X.N[i]? = some x ∧ Loc X.env.scope x ∧ (X.fn x = true ∨ X.env.scope.names.lookup x = some .local) := by
  unfold tgtOk at h
  rw [Bool.and_eq_true] at h
  have hl : X.env.scope.names.lookup x = c.sc.names.lookup x := by rw [g.sc]
  refine ⟨by rw [g.N]; exact of_decide_eq_true h.1, ?_⟩
  have h2 := h.2
  split at h2
  · rename_i e
    exact ⟨.inl (hl.trans e), .inr (hl.trans e)⟩
  · rename_i e
    exact ⟨.inr (hl.trans e), .inl (g.fn x h2)⟩
  · cases h2
theorem swap_ok (g : Gs Y c X) {x : Str} {px : Pos} {v : Expr} {ln : Nat} (h : swapB c x px v = false) : swapsWith v (some (.Name x px)) ln X.env = pure false := by
  cases v with
  | ListComp a b s p =>
    have h : (isLoc c x && px.line == p.line && !(s.names.any fun (n, k) => n == x && (k == .local || k == .cell))) = false := h
    unfold isLoc at h
    show (pure (X.env.blockKind == .function && X.env.scope.names.lookup x == some .local && px.line == p.line && !(s.names.any fun (n, k) => n == x && (k == .local || k == .cell))) : Sem Bool) = pure false
    rw [g.bk, g.sc]
    have e : ((ScopeKind.function == ScopeKind.function) && c.sc.names.lookup x == some .local && px.line == p.line && !(s.names.any fun (n, k) => n == x && (k == .local || k == .cell))) = false := by
      rw [show (ScopeKind.function == ScopeKind.function) = true from rfl, Bool.true_and]
      exact h
    rw [e]
  | SetComp a b s p => cases h
  | DictComp a b d s p =>
    have h : (isLoc c x && px.line == p.line && !(s.names.any fun (n, k) => n == x && (k == .local || k == .cell))) = false := h
    unfold isLoc at h
    show (pure (X.env.blockKind == .function && X.env.scope.names.lookup x == some .local && px.line == p.line && !(s.names.any fun (n, k) => n == x && (k == .local || k == .cell))) : Sem Bool) = pure false
    rw [g.bk, g.sc]
    have e : ((ScopeKind.function == ScopeKind.function) && c.sc.names.lookup x == some .local && px.line == p.line && !(s.names.any fun (n, k) => n == x && (k == .local || k == .cell))) = false := by
      rw [show (ScopeKind.function == ScopeKind.function) = true from rfl, Bool.true_and]
      exact h
    rw [e]
  | _ => rfl
theorem swap_yes (g : Gs Y c X) {x : Str} {px : Pos} {el : Expr} {cs : List Comprehension} {s : Scope} {p : Pos} {ln : Nat} (h : swapB c x px (.ListComp el cs s p) = true) : swapsWith (.ListComp el cs s p) (some (.Name x px)) ln X.env = pure true := by
  have h : (isLoc c x && px.line == p.line && !(s.names.any fun (n, k) => n == x && (k == .local || k == .cell))) = true := h
  unfold isLoc at h
  show (pure (X.env.blockKind == .function && X.env.scope.names.lookup x == some .local && px.line == p.line && !(s.names.any fun (n, k) => n == x && (k == .local || k == .cell))) : Sem Bool) = pure true
  rw [g.bk, g.sc]
  have e : ((ScopeKind.function == ScopeKind.function) && c.sc.names.lookup x == some .local && px.line == p.line && !(s.names.any fun (n, k) => n == x && (k == .local || k == .cell))) = true := by
    rw [show (ScopeKind.function == ScopeKind.function) = true from rfl, Bool.true_and]
    exact h
  rw [e]
theorem swap_not {v : Expr} {ln : Nat} {t : Expr} {env : Env} (ht : match t with | .Name _ _ => False | _ => True) : swapsWith v (some t) ln env = pure false := by
  cases v <;> first | rfl | (cases t <;> first | rfl | exact ht.elim)
theorem swap_none {v : Expr} {ln : Nat} {env : Env} (h : notComp v = true) : swapsWith v none ln env = pure false := by
  cases v <;> first | rfl | cases h
theorem stores_none {es : List Expr} {k : Nat} {p : Pos} {v : Expr} {env : Env} (h : notTup v = true) : swappedStores [.Tuple es k p] v env = pure none := by
  cases v <;> first | rfl | cases h
theorem stores_sub {o i v : Expr} {p : Pos} {env : Env} : swappedStores [.Subscript o i p] v env = pure none := by
  cases v <;> rfl
theorem stores_par (g : Gs Y c X) {x y : Str} {px py pt p2 : Pos} {kt k2 : Nat} {a b : Expr} (h1 : isLoc c x = true) (h2 : isLoc c y = true) (h3 : (py.line == px.line) = true) (h4 : x ≠ y) (h5 : noStar a = true) (h6 : noStar b = true)
    (h7 : [a, b].all (foldedForSure 8) = false) (h8 : [a, b].all (constantsAlone 8) = false) : swappedStores [.Tuple [.Name x px, .Name y py] kt pt] (.Tuple [a, b] k2 p2) X.env = pure (some [x, y]) := by
  unfold isLoc at h1 h2
  have e1 : (X.env.kindOf x == some .local) = true := by
    show (X.env.scope.names.lookup x == some .local) = true
    rw [g.sc]; exact h1
  have e2 : (X.env.kindOf y == some .local) = true := by
    show (X.env.scope.names.lookup y == some .local) = true
    rw [g.sc]; exact h2
  have k1 : X.env.kindOf x = some .local := by simpa using e1
  have k2 : X.env.kindOf y = some .local := by simpa using e2
  have l : py.line = px.line := by simpa using h3
  have pn : (Expr.Name x px).pos = px := rfl
  have hd : ([x, y] : List Str).eraseDups = [x, y] := by
    have hb : (y == x) = false := beq_eq_false_iff_ne.mpr fun e => h4 e.symm
    rw [List.eraseDups_cons]
    simp [List.filter, hb, List.eraseDups_cons]
  unfold swappedStores
  simp only [h7, h8, g.bk]
  simp [k1, k2, l, pn, hd]
  intro h
  rcases h with h | h
  · split at h
    · cases h5
    · cases h
  · split at h
    · cases h6
    · cases h
theorem stores_mix (g : Gs Y c X) {x y : Str} {px py pt p2 : Pos} {kt k2 : Nat} {a b : Expr} (h : (!(isLoc c x && isLoc c y && (py.line == px.line)) || [a, b].all (foldedForSure 8)) = true) : swappedStores [.Tuple [.Name x px, .Name y py] kt pt] (.Tuple [a, b] k2 p2) X.env = pure none := by
  have pn : (Expr.Name x px).pos = px := rfl
  have e1 : (X.env.kindOf x == some .local) = isLoc c x := by
    show (X.env.scope.names.lookup x == some .local) = _
    rw [g.sc]; rfl
  have e2 : (X.env.kindOf y == some .local) = isLoc c y := by
    show (X.env.scope.names.lookup y == some .local) = _
    rw [g.sc]; rfl
  rw [Bool.or_eq_true] at h
  unfold swappedStores
  rcases h with h | h
  · have key : ¬ (X.env.kindOf x = some .local ∧ X.env.kindOf y = some .local ∧ py.line = px.line) := by
      rintro ⟨k1, k2, l⟩
      rw [← e1, ← e2, k1, k2, l] at h
      simp at h
    simp only [g.bk]
    simp
    intro _ _ hl
    exfalso
    revert hl
    by_cases k1 : X.env.kindOf x = some .local <;> by_cases k2 : X.env.kindOf y = some .local <;> by_cases l : py.line = px.line <;> simp [k1, k2, l, pn] <;> exact key ⟨k1, k2, l⟩
  · simp only [g.bk]
    simp at h
    simp [h]
def Kept (np : Nat) (ss : List Nat) (vs vs' : List V) : Prop := (∀ k, (∀ j ∈ ss, k ≠ np + j) → vs'[k]? = vs[k]?) ∧ vs'.length = vs.length
theorem Kept.refl {np : Nat} {ss : List Nat} {vs : List V} : Kept np ss vs vs := ⟨fun _ _ => rfl, rfl⟩
theorem Kept.trans {np : Nat} {ss : List Nat} {a b c : List V} (x : Kept np ss a b) (y : Kept np ss b c) : Kept np ss a c := ⟨fun k n => (y.1 k n).trans (x.1 k n), y.2.trans x.2⟩
theorem Kept.sup {np : Nat} {ss zs : List Nat} {a b : List V} (x : Kept np ss a b) (s : ∀ j, j ∈ ss → j ∈ zs) : Kept np zs a b := ⟨fun k n => x.1 k fun j m => n j (s j m), x.2⟩
theorem Kept.take {np : Nat} {ss : List Nat} {a b : List V} (x : Kept np ss a b) : b.take np = a.take np := by
  apply List.ext_getElem?
  intro k
  rw [List.getElem?_take, List.getElem?_take]
  split
  · exact x.1 k fun j _ e => by omega
  · rfl
theorem usedBy_no {sl : Sl} {i k : Nat} : ∀ {n j : Nat}, usedBy sl i k n = false → j < n → j ≠ i → sl[j]? ≠ some (some (.r k))
  | 0, _, _, h, _ => absurd h (Nat.not_lt_zero _)
  | n + 1, j, u, h, d => by
    unfold usedBy at u
    rw [Bool.or_eq_false_iff] at u
    by_cases e : j = n
    · subst e
      intro z
      have u2 := u.2
      rw [z] at u2
      simp [d] at u2
    · exact usedBy_no u.1 (by omega) d
theorem Rel.cl {σ : L2.St} {sl : Sl} {rt : Rt} {vs : List V} {F : List Addr} (r : Rel K C σ H h sl rt vs F) : vs.length = rt.length := r.own.length
theorem store_ok' {np : Nat} {FF : Fs} {gg : List (Str × D)} {i : Nat} {t : T} {σ : L2.St} {sl sl' : Sl} {rt rt' : Rt} {vs : List V} {F G : List Addr} {v : V} (r : Rel K C σ H h sl rt vs F) (o : Own K C h H v t G) (dj : ∀ a, a ∈ G → a ∉ F)
    (e : store ⟨FF, np, gg⟩ i t sl rt = some (sl', rt')) : ∃ vs' F', Rel K C (σ.set i (some v)) H h sl' rt' vs' F' ∧ (∀ a, a ∈ F' → a ∈ F ∨ a ∈ G) ∧ Kept np [i] vs vs' := by
  unfold store at e
  split at e
  · rename_i hi
    split at e
    · cases e
      exact ⟨vs, F, r.set (s := .v _) (rep_d o) hi, fun a z => .inl z, .refl⟩
    · rename_i hn
      split at e
      · cases e
      · rename_i hu
        split at e
        · rename_i hl
          cases e
          obtain ⟨F', o', s'⟩ := r.own.put hl o dj
          refine ⟨vs.set (np + i) v, F', ⟨r.sub, o', fun j s e => ?_, by rw [List.length_set, List.length_set]; exact r.len⟩, s', ?_, List.length_set⟩
          · rw [List.getElem?_set] at e ⊢
            by_cases z : i = j
            · subst z
              rw [if_pos rfl, if_pos hi] at e
              cases e
              refine ⟨v, by rw [if_pos rfl, r.len, if_pos hi], ?_⟩
              show (vs.set (np + i) v)[np + i]? = some v
              rw [List.getElem?_set_self (by rw [r.cl]; exact hl)]
            · rw [if_neg z] at e ⊢
              obtain ⟨w, w1, w2⟩ := r.slt j s e
              refine ⟨w, w1, ?_⟩
              cases s with
              | v d => exact w2
              | r k =>
                have hj : j < sl.length := (List.getElem?_eq_some_iff.mp e).1
                have nk : np + i ≠ k := fun q => usedBy_no (by simpa using hu) hj (fun q => z q.symm) (q ▸ e)
                show (vs.set (np + i) v)[k]? = some w
                rw [List.getElem?_set_ne nk]
                exact w2
          · intro k n
            rw [List.getElem?_set_ne fun e => n i (List.mem_singleton.mpr rfl) e.symm]
        · cases e
  · cases e
def SOk (Y : Fx) (np : Nat) (ss : List Nat) (H h : Hp) (vs : List V) (F : List Addr) (D : Ends) : Fl × Sl × Rt → Prop
  | (.nx, sl', rt') => ∀ σ' H' h' vs' F', Stp F h H F' h' H' → Rel Y.K Y.C σ' H' h' sl' rt' vs' F' → Kept np ss vs vs' → D.nx σ' H'
  | (.bk, sl', rt') => ∀ σ' H' h' vs' F', Stp F h H F' h' H' → Rel Y.K Y.C σ' H' h' sl' rt' vs' F' → Kept np ss vs vs' → D.bk σ' H'
  | (.ct, sl', rt') => ∀ σ' H' h' vs' F', Stp F h H F' h' H' → Rel Y.K Y.C σ' H' h' sl' rt' vs' F' → Kept np ss vs vs' → D.ct σ' H'
  | (.rt t, sl', rt') => ∀ v σ' H' h' vs' F' G, Stp F h H F' h' H' → Rel Y.K Y.C σ' H' h' sl' rt' vs' F' → Kept np ss vs vs' → Own Y.K Y.C h' H' v t G → (∀ a, a ∈ G → a ∉ F') → (∀ a, a ∈ G → a ∈ F ∨ H a = none) → D.rt v H'
theorem SOk.thn {np : Nat} {ss s1 s2 : List Nat} {vs vs1 : List V} {F F1 : List Addr} {D : Ends} {r : Fl × Sl × Rt} (k : SOk Y np ss H h vs F D r) (st : Stp F h H F1 h1 H1) (kp : Kept np s1 vs vs1) (i1 : ∀ j, j ∈ s1 → j ∈ ss) (i2 : ∀ j, j ∈ s2 → j ∈ ss) : SOk Y np s2 H1 h1 vs1 F1 D r := by
  obtain ⟨fl, sl', rt'⟩ := r
  cases fl with
  | nx => exact fun σ' H' h' vs' F' s2 rl k2 => k σ' H' h' vs' F' (st.trans s2) rl ((kp.sup i1).trans (k2.sup i2))
  | bk => exact fun σ' H' h' vs' F' s2 rl k2 => k σ' H' h' vs' F' (st.trans s2) rl ((kp.sup i1).trans (k2.sup i2))
  | ct => exact fun σ' H' h' vs' F' s2 rl k2 => k σ' H' h' vs' F' (st.trans s2) rl ((kp.sup i1).trans (k2.sup i2))
  | rt t => exact fun v σ' H' h' vs' F' G s2 rl k2 ow dj fr => k v σ' H' h' vs' F' G (st.trans s2) rl ((kp.sup i1).trans (k2.sup i2)) ow dj fun a z => (fr a z).elim (st.fp a) (st.back a)
def RS (Y : Fx) (s : St) (t : TS) : Prop := ∀ np σ H h sl rt vs F r, Rel Y.K Y.C σ H h sl rt vs F → ex (cfg Y np) s sl rt = some r → ∀ D, SOk Y np s.stores H h vs F D r → t D σ H
def RSs (Y : Fx) (s : Ss) (t : TS) : Prop := ∀ np σ H h sl rt vs F r, Rel Y.K Y.C σ H h sl rt vs F → exs (cfg Y np) s sl rt = some r → ∀ D, SOk Y np s.stores H h vs F D r → t D σ H
def SS (Y : Fx) (c : Ck) (s : St) (a : Stmt) : Prop := ∃ t, (∀ X, Gs Y c X → PS X a t) ∧ RS Y s t
def SSs (Y : Fx) (c : Ck) (s : Ss) (a : List Stmt) : Prop := ∃ t, (∀ X, Gs Y c X → PSs X a t) ∧ RSs Y s t
end
end Mi
namespace Mi
open PySem PySem.Spec PyProof.Rows L2
section
variable {Y : Fx} {c : Ck} {X : Cx} {K : PySem.W.Frag} {C : Nat → Addr} {h H h' H' : Hp}
theorem evq_ok {cc : Cfg} {sl : Sl} {rt : Rt} : ∀ {e : E} {d : D}, evq sl rt e = some d → ev cc false sl e rt = some (.cl d, rt) ∧ e.q = true
  | .int i, d, hv => by
    unfold evq at hv; cases hv
    exact ⟨by unfold ev; rfl, rfl⟩
  | .bl i, d, hv => by
    unfold evq at hv; cases hv
    exact ⟨by unfold ev; rfl, rfl⟩
  | .non, d, hv => by
    unfold evq at hv; cases hv
    exact ⟨by unfold ev; rfl, rfl⟩
  | .str i, d, hv => by
    unfold evq at hv; cases hv
    exact ⟨by unfold ev; rfl, rfl⟩
  | .get p, d, hv => by
    unfold evq at hv
    split at hv
    · rename_i d' hp
      cases hv
      exact ⟨by unfold ev; rw [hp], rfl⟩
    · cases hv
  | .bin op a b, d, hv => by
    unfold evq at hv
    split at hv
    · rename_i x z e1 e2
      split at hv
      · rename_i w e3
        cases hv
        obtain ⟨a1, a2⟩ := evq_ok (cc := cc) e1
        obtain ⟨b1, b2⟩ := evq_ok (cc := cc) e2
        refine ⟨?_, by unfold E.q; rw [a2, b2]; rfl⟩
        unfold ev
        rw [a1]
        simp only
        rw [b1]
        simp only
        show (opB op x z).map _ = _
        rw [e3]
        rfl
      · cases hv
    · cases hv
  | .neg a, d, hv => by
    unfold evq at hv
    split at hv
    · rename_i i e1
      cases hv
      obtain ⟨a1, a2⟩ := evq_ok (cc := cc) e1
      refine ⟨?_, a2⟩
      unfold ev
      rw [a1]
    · cases hv
  | .x x, d, hv => by
    unfold evq at hv
    exact ⟨by unfold ev; rw [hv], rfl⟩
  | .tup (.cons a (.cons b .nil)), d, hv => by
    unfold evq at hv
    split at hv
    · rename_i x z e1 e2
      cases hv
      obtain ⟨a1, a2⟩ := evq_ok (cc := cc) e1
      obtain ⟨b1, b2⟩ := evq_ok (cc := cc) e2
      refine ⟨?_, by show (a.q && (b.q && true)) = true; rw [a2, b2]; rfl⟩
      unfold ev evs
      rw [a1]
      simp only
      unfold evs
      rw [b1]
      simp only
      unfold evs
      simp only
      exact if_pos (show 2 ≤ sizeLine by decide)
    · cases hv
  | .glb _, d, hv => by cases hv
  | .cmp _ _ _, d, hv => by cases hv
  | .emp _ _, d, hv => by cases hv
  | .inn _ _ _, d, hv => by cases hv
  | .dn, d, hv => by cases hv
  | .dcc _ _ _ _ _, d, hv => by cases hv
  | .idx _ _, d, hv => by cases hv
  | .popi _ _, d, hv => by cases hv
  | .kls _, d, hv => by cases hv
  | .chn _ _ _ _ _, d, hv => by cases hv
  | .and _ _, d, hv => by cases hv
  | .or _ _, d, hv => by cases hv
  | .not _, d, hv => by cases hv
  | .ife _ _ _, d, hv => by cases hv
  | .tup .nil, d, hv => by cases hv
  | .tup (.mut _ _), d, hv => by cases hv
  | .tup (.cons _ .nil), d, hv => by cases hv
  | .tup (.cons _ (.mut _ _)), d, hv => by cases hv
  | .tup (.cons _ (.cons _ (.cons _ _))), d, hv => by cases hv
  | .tup (.cons _ (.cons _ (.mut _ _))), d, hv => by cases hv
  | .lst _, d, hv => by cases hv
  | .ix _ _, d, hv => by cases hv
  | .sl _ _ _, d, hv => by cases hv
  | .rev _, d, hv => by cases hv
  | .sls _ _ _, d, hv => by cases hv
  | .methS _ _ _ _ _, d, hv => by cases hv
  | .callS _ _, d, hv => by cases hv
  | .methD _ _ _ _ _ _ _ _, d, hv => by cases hv
  | .mkD _ _ _ _ _ _, d, hv => by cases hv
  | .oop _ _ _ _ _, d, hv => by cases hv
  | .lc2 _ _ _ _ _ _ _, d, hv => by cases hv
  | .at _ _, d, hv => by cases hv
  | .call _ _ _ _, d, hv => by cases hv
  | .f1 _ _, d, hv => by cases hv
  | .f1p _ _, d, hv => by cases hv
  | .f2 _ _ _, d, hv => by cases hv
  | .pop _, d, hv => by cases hv
  | .lrg1 _ _, d, hv => by cases hv
  | .lrg2 _ _ _, d, hv => by cases hv
  | .lc _ _ _ _ _, d, hv => by cases hv
  | .tup (.star _ _), d, hv => by cases hv
  | .tup (.cons _ (.star _ _)), d, hv => by cases hv
  | .tup (.cons _ (.cons _ (.star _ _))), d, hv => by cases hv
  | .dct _ _, d, hv => by cases hv
  | .isi _ _, d, hv => by cases hv
  | .mk _ _ _ _ _, d, hv => by cases hv
  | .mkS _ _ _ _, d, hv => by cases hv
  | .meth _ _ _ _ _ _ _, d, hv => by cases hv
  | .prop _ _ _ _, d, hv => by cases hv
  | .olen _ _ _, d, hv => by cases hv
  | .oeq _ _ _ _, d, hv => by cases hv
mutual
theorem Own.big (e : Same H H') : ∀ {v : V} {t : T} {F : List Addr}, Own K C h H v t F → ∀ {G : List Addr}, Own K C h' H' v t G → F = G
  | _, _, _, .cl _, _, .cl _ => rfl
  | _, _, _, .ls q _ r _, _, .ls q' _ r' _ => by
    rw [e _ _ q] at q'
    cases q'
    rw [Owns.big e r r']
  | _, _, _, .dc q _ _ r _, _, .dc q' _ _ r' _ => by
    rw [e _ _ q] at q'
    cases q'
    rw [Owns.big e r r']
  | _, _, _, .ob q _ _ r _, _, .ob q' _ _ r' _ => by
    rw [e _ _ q] at q'
    cases q'
    rw [Owns.big e r r']
theorem Owns.big (e : Same H H') : ∀ {vs : List V} {ts : List T} {F : List Addr}, Owns K C h H vs ts F → ∀ {G : List Addr}, Owns K C h' H' vs ts G → F = G
  | _, _, _, .nil, _, .nil => rfl
  | _, _, _, .cons p r _, _, .cons p' r' _ => by rw [Own.big e p p', Owns.big e r r']
end
theorem OwnR.big (e : Same H H') : ∀ {vs : List V} {ts : Rt} {F : List Addr}, OwnR K C h H vs ts F → ∀ {G : List Addr}, OwnR K C h' H' vs ts G → F = G
  | _, _, _, .nil, _, .nil => rfl
  | _, _, _, .no r, _, .no r' => OwnR.big e r r'
  | _, _, _, .cons p r _, _, .cons p' r' _ => by rw [Own.big e p p', OwnR.big e r r']
theorem AtP.big {σ : L2.St} {sl : Sl} {rt : Rt} {vs : List V} {F F' : List Addr} {p : P} {v : V} {u : T} (a : AtP Y σ H h sl rt vs F p v u) (r : Rel Y.K Y.C σ H h sl rt vs F) (r' : Rel Y.K Y.C σ H' h' sl rt vs F') (e : Same H H') (e2 : Same h h') :
    AtP Y σ H' h' sl rt vs F' p v u := by
  have ef := r.own.big e r'.own
  subst ef
  obtain ⟨F1, ⟨o, s, w⟩, inn⟩ := a
  have keep : ∀ a, a ∈ F → H' a = H a := fun a z => by
    obtain ⟨_, o, q⟩ := r.own.at a z
    exact (e a o q).trans q.symm
  refine ⟨F1, ⟨o.stay e2 fun a z => ⟨keep a (s a z), (r'.own.at a (s a z)).1⟩, s, fun h2 H2 t' F2 s2 fr o2 nw => ?_⟩, fun a z k tk vk Fk e1 e3 e4 o4 => ?_⟩
  · refine w h2 H2 t' F2 (e2.trans s2) (fun a z n => ?_) o2 nw
    obtain ⟨a1, a2⟩ := fr a z n
    exact ⟨a1.trans (keep a z), a2⟩
  · obtain ⟨vk', Fk', F'', e5, o5, _, s5, _, _⟩ := r.own.take1 e3
    rw [e4] at e5
    cases e5
    have := o5.big e o4
    subst this
    exact inn a z k tk vk _ e1 e3 e4 o5
theorem Owns.put : ∀ {vs : List V} {ts : List T} {F G : List Addr} {j : Nat} {v : V} {t : T}, Owns K C h H vs ts F → j < ts.length → Own K C h H v t G → (∀ a, a ∈ G → a ∉ F) →
    ∃ F', Owns K C h H (vs.set j v) (ts.set j t) F' ∧ ∀ a, a ∈ F' → a ∈ F ∨ a ∈ G
  | _, _, _, G, 0, _, _, .cons (F := F0) (G := G0) p r _, _, o, dj => ⟨G ++ G0, .cons o r fun a z z' => dj a z (List.mem_append_right _ z'), fun a z => (List.mem_append.mp z).symm.imp (fun q => List.mem_append_right _ q) id⟩
  | _, _, _, G, k + 1, _, _, .cons (F := F0) (G := G0) p r d0, l, o, dj => by
    obtain ⟨F', w, z⟩ := Owns.put (j := k) r (by simpa using l) o fun a y y' => dj a y (List.mem_append_right _ y')
    refine ⟨F0 ++ F', .cons p w fun a y y' => ?_, fun a y => ?_⟩
    · rcases z a y' with q | q
      · exact d0 a y q
      · exact dj a q (List.mem_append_left _ y)
    · rcases List.mem_append.mp y with y | y
      · exact .inl (List.mem_append_left _ y)
      · exact (z a y).imp (fun q => List.mem_append_right _ q) id
theorem map_out {kvs : List (Key × V)} {k : Key} {v : V} (n : k ∉ kvs.map (·.1)) : kvs.map (fun kv => if kv.1 = k then (kv.1, v) else kv) = kvs := by
  induction kvs with
  | nil => rfl
  | cons x r ih =>
    rw [List.map_cons, List.mem_cons, not_or] at n
    rw [List.map_cons, ih n.2, if_neg fun e => n.1 e.symm]
theorem putK_cons_ne {k' k : Key} {w v : V} {r : List (Key × V)} (n : k' ≠ k) : putK ((k', w) :: r) k v = (k', w) :: putK r k v := by
  unfold putK
  rw [List.any_cons]
  have e : decide (k' = k) = false := decide_eq_false n
  rw [e, Bool.false_or]
  split
  · rw [List.map_cons, if_neg n]
  · rfl
theorem putK_cons_eq {k : Key} {w v : V} {r : List (Key × V)} (n : k ∉ r.map (·.1)) : putK ((k, w) :: r) k v = (k, v) :: r := by
  unfold putK
  rw [List.any_cons, decide_eq_true rfl, Bool.true_or, if_pos rfl, List.map_cons, if_pos rfl, map_out n]
theorem Owns.putK : ∀ {kvs : List (Key × V)} {ts : List T} {F G : List Addr} {k : Key} {v : V} {t : T} {r : List Key × List T}, Owns K C h H (kvs.map (·.2)) ts F → putOne k t (kvs.map (·.1)) ts = some r → Own K C h H v t G → (∀ a, a ∈ G → a ∉ F) →
    ∃ F', (L2.putK kvs k v).map (·.1) = r.1 ∧ Owns K C h H ((L2.putK kvs k v).map (·.2)) r.2 F' ∧ ∀ a, a ∈ F' → a ∈ F ∨ a ∈ G
  | [], _, _, G, k, v, t, r, .nil, e, o, dj => by
    cases e
    exact ⟨G ++ [], rfl, .cons o .nil (fun a z => by simp), fun a z => .inr (by simpa using z)⟩
  | (k', w) :: kvs, _, _, G, k, v, t, r, .cons (ts := ts) (F := F0) (G := G0) p os d0, e, o, dj => by
    rw [List.map_cons] at e
    unfold putOne at e
    split at e
    · rename_i hk
      have hk : k' = k := hk
      subst hk
      split at e
      · cases e
      · rename_i hc
        cases e
        rw [putK_cons_eq fun m => hc (List.any_eq_true.mpr ⟨_, m, decide_eq_true rfl⟩)]
        exact ⟨G ++ G0, rfl, .cons o os fun a z z' => dj a z (List.mem_append_right _ z'), fun a z => (List.mem_append.mp z).symm.imp (fun q => List.mem_append_right _ q) id⟩
    · rename_i hk
      obtain ⟨q, e1, rfl⟩ := Option.map_eq_some_iff.mp e
      obtain ⟨F', a1, a2, a3⟩ := Owns.putK os e1 o fun a y y' => dj a y (List.mem_append_right _ y')
      rw [putK_cons_ne hk]
      refine ⟨F0 ++ F', by rw [List.map_cons, a1], .cons p a2 fun a y y' => ?_, fun a y => ?_⟩
      · rcases a3 a y' with q | q
        · exact d0 a y q
        · exact dj a q (List.mem_append_left _ y)
      · rcases List.mem_append.mp y with y | y
        · exact .inl (List.mem_append_left _ y)
        · exact (a3 a y).imp (fun q => List.mem_append_right _ q) id
theorem Stp.with {F F1 F2 G : List Addr} {h1 h2 H1 H2 : Hp} (x : Stp F h H F1 h1 H1) (y : Stp (F1 ++ G) h1 H1 F2 h2 H2) (fr : ∀ a, a ∈ G → a ∈ F ∨ H a = none) : Stp F h H F2 h2 H2 := by
  have b1 : ∀ a, a ∈ F1 ++ G → a ∈ F ∨ H a = none := fun a z => (List.mem_append.mp z).elim (x.fp a) (fr a)
  refine ⟨fun a o e n => y.keep a o (x.keep a o e n) fun z => ?_, fun a o e => y.up a o (x.up a o e), fun a o n e => ?_, fun a z => ?_⟩
  · rcases b1 a z with q | q
    · exact n q
    · rw [q] at e; cases e
  · cases q : h1 a with
    | some u => exact x.new a u n q
    | none => exact (y.new a o q e).elim (b1 a) (x.back a)
  · exact (y.fp a z).elim (b1 a) (x.back a)
theorem PSet.or {t t' : TSet} (ha : PSet X t) (hb : PSet X t') : PSet X (fun o i v H Q => t o i v H Q ∨ t' o i v H Q) := by
  intro pins s σ H o i v ov iv u Q I ro ri rv h
  rcases h with h | h
  · exact ha pins s σ H o i v ov iv u Q I ro ri rv h
  · exact hb pins s σ H o i v ov iv u Q I ro ri rv h
theorem rs_setx {p : P} {x : X0} {e : E} {te to ti : TE} (re : RE Y e te) (rp : ∀ sl rt, TPs Y sl rt p to) (rx : ∀ sl rt, TXs Y sl rt x ti) : RS Y (.setx p x e) (tAsg te (gSub to ti fun o i v H Q => rSetL o i v H Q ∨ rSetD o i v H Q)) := by
  intro np σ H h sl rt vs F r rl hv D k
  unfold ex at hv
  split at hv
  · cases hv
  · rename_i t rt1 e1
    split at hv
    · rename_i u i hp hx
      split at hv
      · cases hv
      · rename_i u' hu
        obtain ⟨rt2, e2, e3⟩ := Option.map_eq_some_iff.mp hv
        cases e3
        refine re np false sl σ H h rt vs F _ _ rl e1 _ fun v H1 h1 F1 G st1 rl1 ow dj fr q1 => ?_
        refine rp sl rt1 σ H1 h1 vs F1 rl1 _ hp _ fun o at0 => ?_
        refine rx sl rt1 σ H1 h1 vs F1 rl1 _ hx _ fun w rw' => ?_
        obtain ⟨F0, pr, inn⟩ := at0
        clear inn
        have o0 := pr.1
        have frH : ∀ b, b ∈ G → ∃ o, H1 b = some o := fun b m => (ow.at b m).2
        cases u with
        | ls ts =>
          cases i with
          | int i =>
            cases rw'
            obtain ⟨j, j1, j2⟩ := Option.map_eq_some_iff.mp hu
            subst j2
            cases o0 with
            | ls q n os na =>
              rename_i a xs F2
              have hj := (ixN_seq j1).2.1
              have naG : a ∉ G := fun m => dj a m (pr.2.1 a List.mem_cons_self)
              have djG : ∀ b, b ∈ G → b ∉ F2 := fun b m m' => dj b m (pr.2.1 b (List.mem_cons_of_mem _ m'))
              have os1 : Owns Y.K Y.C h1 (upd H1 a (.lst (xs.set j v))) xs ts F2 := os.stay (Same.refl _) fun b m => ⟨upd_ne fun e => na (e ▸ m), (os.at b m).1⟩
              have ow1 : Own Y.K Y.C h1 (upd H1 a (.lst (xs.set j v))) v t G := ow.stay (Same.refl _) fun b m => ⟨upd_ne fun e => naG (e ▸ m), (ow.at b m).1⟩
              obtain ⟨F3, o3, s3⟩ := os1.put hj ow1 djG
              have na3 : a ∉ F3 := fun m => (s3 a m).elim na naG
              obtain ⟨F4, rl4, s4, st4⟩ := write_at (F2 := a :: F3) (G := G) rl1 pr List.mem_cons_self (.ls upd_same n o3 na3) (fun b m => (List.mem_cons.mp m).elim (fun e => .inl (by rw [e]; exact List.mem_cons_self)) fun m => (s3 b m).imp (fun m => List.mem_cons_of_mem _ m) id) dj frH e2
              exact .inl ⟨a, xs, i, j, rfl, rfl, q, by rw [os.length]; exact j1, k σ _ h1 vs F4 (st1.with st4 fr) rl4 .refl⟩
          | _ => cases hu
        | dc ks ts =>
          have hu : (i.key.bind fun k => if ks.length < sizeLine then (putOne k t ks ts).map fun r => T.dc r.1 r.2 else none) = some u' := hu
          obtain ⟨kk, k1, k2⟩ := Option.bind_eq_some_iff.mp hu
          split at k2
          · rename_i hz
            obtain ⟨r0, r1, r2⟩ := Option.map_eq_some_iff.mp k2
            subst r2
            cases o0 with
            | dc q n hk os na =>
              rename_i a kvs F2
              subst hk
              have naG : a ∉ G := fun m => dj a m (pr.2.1 a List.mem_cons_self)
              have djG : ∀ b, b ∈ G → b ∉ F2 := fun b m m' => dj b m (pr.2.1 b (List.mem_cons_of_mem _ m'))
              have os1 : Owns Y.K Y.C h1 (upd H1 a (.dK (L2.putK kvs kk v))) (kvs.map (·.2)) ts F2 := os.stay (Same.refl _) fun b m => ⟨upd_ne fun e => na (e ▸ m), (os.at b m).1⟩
              have ow1 : Own Y.K Y.C h1 (upd H1 a (.dK (L2.putK kvs kk v))) v t G := ow.stay (Same.refl _) fun b m => ⟨upd_ne fun e => naG (e ▸ m), (ow.at b m).1⟩
              obtain ⟨F3, ek, o3, s3⟩ := os1.putK r1 ow1 djG
              have na3 : a ∉ F3 := fun m => (s3 a m).elim na naG
              obtain ⟨F4, rl4, s4, st4⟩ := write_at (F2 := a :: F3) (G := G) rl1 pr List.mem_cons_self (.dc upd_same n ek o3 na3) (fun b m => (List.mem_cons.mp m).elim (fun e => .inl (by rw [e]; exact List.mem_cons_self)) fun m => (s3 b m).imp (fun m => List.mem_cons_of_mem _ m) id) dj frH e2
              refine .inr ⟨a, _, rfl, ?_, k σ _ h1 vs F4 (st1.with st4 fr) rl4 .refl⟩
              rw [key_ok rw' k1]
              exact DPut.k q (by simpa using hz)
          · cases k2
        | cl d => cases hu
        | ob cc ns ts => cases hu
    · cases hv
theorem app_fin {p : P} {σ : L2.St} {sl : Sl} {rt rt' : Rt} {vs : List V} {F G : List Addr} {o v : V} {ts : List T} {t : T} (rl : Rel Y.K Y.C σ H h sl rt vs F) (at0 : AtP Y σ H h sl rt vs F p o (.ls ts)) (ow : Own Y.K Y.C h H v t G) (dj : ∀ a, a ∈ G → a ∉ F)
    (hz : ts.length < sizeLine) (e : upP sl rt p (.ls (ts ++ [t])) = some rt') : ∃ a xs F', o = .ref a ∧ H a = some (.lst xs) ∧ xs.length < sizeLine ∧ Rel Y.K Y.C σ (upd H a (.lst (xs ++ [v]))) h sl rt' vs F' ∧ Stp (F ++ G) h H F' h (upd H a (.lst (xs ++ [v]))) := by
  obtain ⟨F0, pr, inn⟩ := at0
  clear inn
  have o0 := pr.1
  cases o0 with
  | ls q n os na =>
    rename_i a xs F2
    have naG : a ∉ G := fun m => dj a m (pr.2.1 a List.mem_cons_self)
    have djG : ∀ b, b ∈ G → b ∉ F2 := fun b m m' => dj b m (pr.2.1 b (List.mem_cons_of_mem _ m'))
    have os1 : Owns Y.K Y.C h (upd H a (.lst (xs ++ [v]))) xs ts F2 := os.stay (Same.refl _) fun b m => ⟨upd_ne fun e => na (e ▸ m), (os.at b m).1⟩
    have ow1 : Own Y.K Y.C h (upd H a (.lst (xs ++ [v]))) v t G := ow.stay (Same.refl _) fun b m => ⟨upd_ne fun e => naG (e ▸ m), (ow.at b m).1⟩
    obtain ⟨F3, o3, s3⟩ := os1.append1 ow1 djG
    have na3 : a ∉ F3 := fun m => (s3 a m).elim na naG
    obtain ⟨F4, rl4, s4, st4⟩ := write_at (F2 := a :: F3) (G := G) rl pr List.mem_cons_self (.ls upd_same n o3 na3) (fun b m => (List.mem_cons.mp m).elim (fun e => .inl (by rw [e]; exact List.mem_cons_self)) fun m => (s3 b m).imp (fun m => List.mem_cons_of_mem _ m) id) dj (fun b m => (ow.at b m).2) e
    exact ⟨a, xs, F4, rfl, q, by rw [os.length]; exact hz, rl4, st4⟩
theorem rs_appV {i : Nat} {e : E} {te : TE} (re : RE Y e te) : RS Y (.app (.var i) e) (tDrop (tBM Y.K "list" rAppend (tVar i) (tCons te tNil))) := by
  intro np σ H h sl rt vs F r rl hv D k
  unfold ex at hv
  split at hv
  · rename_i ts0 hp0
    split at hv
    · cases hv
    · rename_i t rt1 e1
      have e1 : ev (cfg Y np) false sl e rt = some (t, rt1) := e1
      split at hv
      · rename_i ts hp
        split at hv
        · rename_i hz
          obtain ⟨rt2, e2, e3⟩ := Option.map_eq_some_iff.mp hv
          cases e3
          have hs : ∃ s, sl[i]? = some (some s) := by
            unfold pt at hp0
            split at hp0
            · rename_i hs; exact ⟨_, hs⟩
            · rename_i hs; exact ⟨_, hs⟩
            · cases hp0
          obtain ⟨s0, hs⟩ := hs
          obtain ⟨v, v1, _⟩ := rl.slt i _ hs
          refine ⟨v, v1, ?_, ?_⟩
          · obtain ⟨F0, pr, _⟩ := var_at rl v1 hp0
            cases pr.1 with
            | ls q n os na => exact .inl ⟨rfl, _, SqL.of q⟩
          · refine re np false sl σ H h rt vs F _ _ rl e1 _ fun w H1 h1 F1 G st1 rl1 ow dj fr q1 => ?_
            obtain ⟨a, xs, F4, rfl, q, hl, rl4, st4⟩ := app_fin rl1 (var_at rl1 v1 hp) ow dj hz e2
            exact ⟨a, xs, w, rfl, rfl, q, hl, k σ _ h1 vs F4 (st1.with st4 fr) rl4 .refl⟩
        · cases hv
      · cases hv
  · cases hv
theorem rs_appP {p : P} {e : E} {te to : TE} (hn : p.isVar = false) (re : RE Y e te) (rp : ∀ sl rt, TPs Y sl rt p to) : RS Y (.app p e) (tDrop (tBM Y.K "list" rAppend to (tCons te tNil))) := by
  intro np σ H h sl rt vs F r rl hv D k
  unfold ex at hv
  rw [hn] at hv
  split at hv
  · rename_i ts0 hp0
    split at hv
    · cases hv
    · rename_i t rt1 e1
      have e1 : (evq sl rt e).map (fun d => (T.cl d, rt)) = some (t, rt1) := e1
      obtain ⟨d, e4, e5⟩ := Option.map_eq_some_iff.mp e1
      cases e5
      split at hv
      · rename_i ts hp
        split at hv
        · rename_i hz
          obtain ⟨rt2, e2, e3⟩ := Option.map_eq_some_iff.mp hv
          cases e3
          obtain ⟨b1, b2⟩ := evq_ok (cc := cfg Y np) e4
          refine rp sl rt σ H h vs F rl _ hp _ fun o at0 => ⟨?_, ?_⟩
          · obtain ⟨F0, pr, _⟩ := at0
            cases pr.1 with
            | ls q n os na => exact .inl ⟨rfl, _, SqL.of q⟩
          · refine re np false sl σ H h rt vs F _ _ rl b1 _ fun w H1 h1 F1 G st1 rl1 ow dj fr q1 => ?_
            obtain ⟨a, xs, F4, rfl, q, hl, rl4, st4⟩ := app_fin rl1 (at0.big rl rl1 (q1 b2) st1.up) ow dj hz e2
            exact ⟨a, xs, w, rfl, rfl, q, hl, k σ _ h1 vs F4 (st1.with st4 fr) rl4 .refl⟩
        · cases hv
      · cases hv
  · cases hv
end
end Mi
namespace Mi
open PySem PySem.Spec PyProof.Rows L2
section
variable {Y : Fx} {c : Ck} {X : Cx} {K : PySem.W.Frag} {C : Nat → Addr} {h H h' H' : Hp}
theorem Owns.putF {f : Str} {v : V} {t : T} {G : List Addr} : ∀ {fs : List (Str × V)} {ts : List T} {F : List Addr}, Owns K C h H (fs.map (·.2)) ts F → Own K C h H v t G → (∀ a, a ∈ G → a ∉ F) →
    ∃ F', (putF f v fs).map (·.1) = (putN f t (fs.map (·.1)) ts).1 ∧ Owns K C h H ((putF f v fs).map (·.2)) (putN f t (fs.map (·.1)) ts).2 F' ∧ ∀ a, a ∈ F' → a ∈ F ∨ a ∈ G
  | [], _, _, .nil, o, dj => ⟨G ++ [], rfl, .cons o .nil (fun a z => by simp), fun a z => .inr (by simpa using z)⟩
  | (n, w) :: fs, _, _, .cons (t := u) (ts := ts) (F := F0) (G := G0) p os d0, o, dj => by
    by_cases hk : n = f
    · subst hk
      have e1 : L2.putF n v ((n, w) :: fs) = (n, v) :: fs := by unfold L2.putF; rw [if_pos rfl]
      have e2 : putN n t (((n, w) :: fs).map (·.1)) (u :: ts) = (n :: fs.map (·.1), t :: ts) := by rw [List.map_cons]; unfold putN; rw [if_pos rfl]
      rw [e1, e2]
      exact ⟨G ++ G0, rfl, .cons o os fun a z z' => dj a z (List.mem_append_right _ z'), fun a z => (List.mem_append.mp z).symm.imp (fun q => List.mem_append_right _ q) id⟩
    · obtain ⟨F', a1, a2, a3⟩ := Owns.putF (f := f) os o fun a y y' => dj a y (List.mem_append_right _ y')
      have e1 : L2.putF f v ((n, w) :: fs) = (n, w) :: L2.putF f v fs := by rw [L2.putF.eq_def]; simp only; rw [if_neg hk]
      have e2 : putN f t (((n, w) :: fs).map (·.1)) (u :: ts) = (n :: (putN f t (fs.map (·.1)) ts).1, u :: (putN f t (fs.map (·.1)) ts).2) := by rw [List.map_cons]; rw [putN.eq_def]; simp only; rw [if_neg hk]
      rw [e1, e2]
      refine ⟨F0 ++ F', by rw [List.map_cons, a1], .cons p a2 fun a y y' => ?_, fun a y => ?_⟩
      · rcases a3 a y' with q | q
        · exact d0 a y q
        · exact dj a q (List.mem_append_left _ y)
      · rcases List.mem_append.mp y with y | y
        · exact .inl (List.mem_append_left _ y)
        · exact (a3 a y).imp (fun q => List.mem_append_right _ q) id
theorem fld_fin {p : P} {σ : L2.St} {sl : Sl} {rt rt' : Rt} {vs : List V} {F G : List Addr} {o v : V} {cc : Nat} {ns : List Str} {ts : List T} {t : T} {f : Str} (rl : Rel Y.K Y.C σ H h sl rt vs F) (at0 : AtP Y σ H h sl rt vs F p o (.ob cc ns ts)) (ow : Own Y.K Y.C h H v t G)
    (dj : ∀ a, a ∈ G → a ∉ F) (hz : ns.length < 1000) (e : upP sl rt p (.ob cc (putN f t ns ts).1 (putN f t ns ts).2) = some rt') : ∃ a dx fs F', o = .ref a ∧ H a = some (.ins (Y.C cc) dx fs) ∧ fs.map (·.1) = ns ∧ fs.length < 1000 ∧
      Rel Y.K Y.C σ (upd H a (.ins (Y.C cc) dx (L2.putF f v fs))) h sl rt' vs F' ∧ Stp (F ++ G) h H F' h (upd H a (.ins (Y.C cc) dx (L2.putF f v fs))) := by
  obtain ⟨F0, pr, inn⟩ := at0
  clear inn
  have o0 := pr.1
  cases o0 with
  | ob q n hk os na =>
    rename_i a dx fs F2
    subst hk
    have naG : a ∉ G := fun m => dj a m (pr.2.1 a List.mem_cons_self)
    have djG : ∀ b, b ∈ G → b ∉ F2 := fun b m m' => dj b m (pr.2.1 b (List.mem_cons_of_mem _ m'))
    have os1 : Owns Y.K Y.C h (upd H a (.ins (Y.C cc) dx (L2.putF f v fs))) (fs.map (·.2)) ts F2 := os.stay (Same.refl _) fun b m => ⟨upd_ne fun e => na (e ▸ m), (os.at b m).1⟩
    have ow1 : Own Y.K Y.C h (upd H a (.ins (Y.C cc) dx (L2.putF f v fs))) v t G := ow.stay (Same.refl _) fun b m => ⟨upd_ne fun e => naG (e ▸ m), (ow.at b m).1⟩
    obtain ⟨F3, ek, o3, s3⟩ := os1.putF (f := f) ow1 djG
    have na3 : a ∉ F3 := fun m => (s3 a m).elim na naG
    obtain ⟨F4, rl4, s4, st4⟩ := write_at (F2 := a :: F3) (G := G) rl pr List.mem_cons_self (.ob upd_same n ek o3 na3) (fun b m => (List.mem_cons.mp m).elim (fun e => .inl (by rw [e]; exact List.mem_cons_self)) fun m => (s3 b m).imp (fun m => List.mem_cons_of_mem _ m) id) dj (fun b m => (ow.at b m).2) e
    exact ⟨a, dx, fs, F4, rfl, q, rfl, by simpa using hz, rl4, st4⟩
theorem rs_fld (y : Y.Ok) {p : P} {f : Str} {e : E} {te to : TE} (hf : f ∈ Y.I.fld) (re : RE Y e te) (rp : ∀ sl rt, TPs Y sl rt p to) : RS Y (.fld p f e) (sFld Y.K to te f) := by
  intro np σ H h sl rt vs F r rl hv D k
  unfold ex at hv
  split at hv
  · cases hv
  · rename_i t rt1 e1
    split at hv
    · rename_i cc ns ts hp
      split at hv
      · rename_i hz
        obtain ⟨rt2, e2, e3⟩ := Option.map_eq_some_iff.mp hv
        cases e3
        refine re np false sl σ H h rt vs F _ _ rl e1 _ fun v H1 h1 F1 G st1 rl1 ow dj fr q1 => ?_
        refine rp sl rt1 σ H1 h1 vs F1 rl1 _ hp _ fun o at0 => ?_
        obtain ⟨a, dx, fs, F4, rfl, q, _, hl, rl4, st4⟩ := fld_fin rl1 at0 ow dj hz e2
        exact ⟨a, _, dx, fs, rfl, q, (y.fld cc f hf).1, (y.fld cc f hf).2, hl, k σ _ h1 vs F4 (st1.with st4 fr) rl4 .refl⟩
      · cases hv
    · cases hv
def gFld (K : PySem.W.Frag) (to : TE) (f : Str) : TG := fun v σ H Q => to σ H fun x H1 => ∃ a C dx fs, x = .ref a ∧ H1 a = some (.ins C dx fs) ∧ Cls K C ∧ NoAttr K C f ∧ fs.length < 1000 ∧ Q σ (upd H1 a (.ins C dx (L2.putF f v fs)))
theorem pg_fld {X : Cx} {o : Expr} {f : Str} {pos : Pos} {to : TE} (ho : PE X o to) : PG X (.Attribute o f pos) (gFld X.K to f) := by
  refine ⟨fun pins s σ H v u Q I r h => ?_⟩
  rw [PySem.arm_assign_Attribute]
  refine wpAny_bind (wpAny_holding (thn (ho.run pins s σ H _ I h) fun ov s1 ⟨x, H1, I1, r1, a, C, dx, fs, ex, ea, c, n, l, q⟩ => ?_))
  subst ex
  obtain rfl : ov = Value.ref a := r1
  refine wpAny_bind (wpAny_standAt (wpAny_bind (wpAny_holding (setattr_ok I1 ea c n l r fun s3 I3 => ?_))))
  exact wpAny_release ⟨σ, _, I3, q⟩
theorem rs_fld2 (y : Y.Ok) {p : P} {f g : Str} {e : E} {te to to' : TE} (hf : f ∈ Y.I.fld) (hg : g ∈ Y.I.fld) (re : RE Y e te) (rp : ∀ sl rt, TPs Y sl rt p to) (rp' : ∀ sl rt, TPs Y sl rt p to') : RS Y (.fld2 p f g e) (tAsg te (gTup Y.K 2 (gCons (gFld Y.K to f) (gCons (gFld Y.K to' g) gNil)))) := by
  intro np σ H h sl rt vs F r rl hv D k
  unfold ex at hv
  split at hv
  · cases hv
  · rename_i t rt1 e1
    split at hv
    · rename_i x z et
      split at hv
      · rename_i cc ns ts hp
        split at hv
        · rename_i hz
          split at hv
          · rename_i rt2 e2
            split at hv
            · rename_i cc2 ns2 ts2 hp2
              split at hv
              · rename_i hz2
                obtain ⟨rt3, e3, e4⟩ := Option.map_eq_some_iff.mp hv
                cases e4
                refine re.d rl e1 fun v H1 h1 F1 st1 rl1 r1 q1 => ?_
                rw [et] at r1
                cases r1 with
                | tup sq rr =>
                  cases rr with
                  | cons rx rr =>
                    cases rr with
                    | cons rz rr =>
                      cases rr
                      refine ⟨_, _, rfl, sqT_same rl1.sub sq, rfl, _, _, rfl, ?_⟩
                      refine rp sl rt1 σ H1 h1 vs F1 rl1 _ hp _ fun o at0 => ?_
                      obtain ⟨a, dx, fs, F4, rfl, q, _, hl, rl4, st4⟩ := fld_fin rl1 at0 (.cl rx) (fun b m => absurd m (by simp)) hz e2
                      refine ⟨a, _, dx, fs, rfl, q, (y.fld cc f hf).1, (y.fld cc f hf).2, hl, _, _, rfl, ?_⟩
                      rw [List.append_nil] at st4
                      refine rp' sl rt2 σ _ h1 vs F4 rl4 _ hp2 _ fun o at2 => ?_
                      obtain ⟨a2, dx2, fs2, F5, rfl, q2, _, hl2, rl5, st5⟩ := fld_fin rl4 at2 (.cl rz) (fun b m => absurd m (by simp)) hz2 e3
                      rw [List.append_nil] at st5
                      exact ⟨a2, _, dx2, fs2, rfl, q2, (y.fld cc2 g hg).1, (y.fld cc2 g hg).2, hl2, rfl, k σ _ h1 vs F5 (st1.trans (st4.trans st5)) rl5 .refl⟩
              · cases hv
            · cases hv
          · cases hv
        · cases hv
      · cases hv
    · cases hv
theorem putN_set {f : Str} {t u : T} : ∀ {ns : List Str} {ts : List T}, lookN ns ts f = some u → putN f t ns ts = (ns, upP.setN f t ns ts)
  | [], _, e => by cases e
  | _ :: _, [], e => by cases e
  | n :: ns, w :: ts, e => by
    unfold lookN at e
    rw [putN.eq_def, upP.setN.eq_def]
    simp only
    split at e
    · rename_i hk
      rw [if_pos hk, if_pos hk]
    · rename_i hk
      rw [if_neg hk, if_neg hk, putN_set e]
theorem own_int {v : V} {i : Int} {F : List Addr} (o : Own K C h H v (.cl (.int i)) F) : v = .int i := rep_int (rep_d o)
theorem rs_fldaug (y : Y.Ok) {p : P} {f : Str} {op : BOp} {e : E} {te to : TE} (hf : f ∈ Y.I.fld) (ho : op = .add ∨ op = .sub) (re : RE Y e te) (rp : ∀ sl rt, TPs Y sl rt p to) : RS Y (.fldaug p f op e) (sFldAug Y.K to te (match op with | .add => rAdd | _ => rSub) f) := by
  intro np σ H h sl rt vs F r rl hv D k
  unfold ex at hv
  split at hv
  · rename_i cc ns ts hp
    split at hv
    · rename_i a b ha hb
      split at hv
      · rename_i hz
        obtain ⟨b1, b2⟩ := evq_ok (cc := cfg Y np) hb
        have key : ∀ (z : Int), ((upP sl rt p (.ob cc ns (upP.setN f (.cl (.int z)) ns ts))).map fun rt => (Fl.nx, sl, rt)) = some r → ∀ rd : V → V → Hp → VK → Prop, (∀ H3 Q, Q (.int z) H3 → rd (.int a) (.int b) H3 Q) → sFldAug Y.K to te rd f D σ H := by
          intro z hv rd hrd
          obtain ⟨rt2, e2, e3⟩ := Option.map_eq_some_iff.mp hv
          cases e3
          refine rp sl rt σ H h vs F rl _ hp _ fun o at0 => ?_
          obtain ⟨aa, dx, fs, rfl, ea, hk, hl⟩ : ∃ aa dx fs, o = .ref aa ∧ H aa = some (.ins (Y.C cc) dx fs) ∧ fs.map (·.1) = ns ∧ fs.lookup f = some (.int a) := by
            obtain ⟨F0, pr, _⟩ := at0
            cases pr.1 with
            | ob q n hk os na =>
              subst hk
              obtain ⟨j, w, w1, w2, w3, _⟩ := look_ts os ha
              obtain ⟨w', F9, w4, pr2⟩ := os.get w1
              rw [w2] at w4
              cases w4
              exact ⟨_, _, _, rfl, q, rfl, by rw [w3, own_int pr2.1]⟩
          refine ⟨aa, _, dx, fs, .int a, rfl, ea, (y.fld cc f hf).1, (y.fld cc f hf).2, hl, ?_⟩
          refine re np false sl σ H h rt vs F _ _ rl b1 _ fun w H1 h1 F1 G st1 rl1 ow dj fr q1 => ?_
          have hw := own_int ow
          subst hw
          refine hrd _ _ ?_
          obtain ⟨a2, dx2, fs2, F4, ee, q, hk2, hl2, rl4, st4⟩ := fld_fin (v := .int z) (f := f) (G := []) rl1 (at0.big rl rl1 (q1 b2) st1.up) (.cl (.int z)) (fun a m => absurd m (by simp)) hz (by rw [putN_set ha]; exact e2)
          cases ee
          exact ⟨dx2, fs2, q, hl2, k σ _ h1 vs F4 (st1.with st4 fun a m => absurd m (by simp)) rl4 .refl⟩
        rcases ho with rfl | rfl
        · exact key _ hv _ fun H3 Q q => ⟨a, b, rfl, rfl, q⟩
        · exact key _ hv _ fun H3 Q q => ⟨a, b, rfl, rfl, q⟩
      · cases hv
    · cases hv
  · cases hv
def ipG : BOp → V → V → Hp → VK → Prop
  | .add => ipI fun i j => i + j
  | _ => ipI fun i j => i - j
theorem rs_augx {p : P} {x : X0} {op : BOp} {e : E} {te to ti : TE} (ho : op = .add ∨ op = .sub) (re : RE Y e te) (rp : ∀ sl rt, TPs Y sl rt p to) (rx : ∀ sl rt, TXs Y sl rt x ti) : RS Y (.augx p x op e) (tAugS to ti te (rGetL Y.K) (ipG op) rSetL) := by
  intro np σ H h sl rt vs F r rl hv D k
  unfold ex at hv
  split at hv
  · rename_i ts i b hp hx hb
    split at hv
    · rename_i a ha
      obtain ⟨b1, b2⟩ := evq_ok (cc := cfg Y np) hb
      have key : ∀ (z : Int), (match setIxT (.ls ts) (.int i) (.cl (.int z)) with | some u => (upP sl rt p u).map fun rt => (Fl.nx, sl, rt) | none => none) = some r → (∀ H3 Q, Q (.int z) H3 → ipG op (.int a) (.int b) H3 Q) → tAugS to ti te (rGetL Y.K) (ipG op) rSetL D σ H := by
        intro z hv hrd
        split at hv
        · rename_i u hu
          obtain ⟨j, j1, j2⟩ := Option.map_eq_some_iff.mp (show (ixN ts.length i).map (fun j => T.ls (ts.set j (.cl (.int z)))) = some u from hu)
          subst j2
          obtain ⟨rt2, e2, e3⟩ := Option.map_eq_some_iff.mp hv
          cases e3
          refine rp sl rt σ H h vs F rl _ hp _ fun o at0 => ?_
          refine rx sl rt σ H h vs F rl _ hx _ fun w rw' => ?_
          cases rw'
          obtain ⟨aa, xs, rfl, ea, hz, hl⟩ : ∃ aa xs, o = .ref aa ∧ H aa = some (.lst xs) ∧ atI xs i = some (.int a) ∧ xs.length = ts.length := by
            obtain ⟨F0, pr, _⟩ := at0
            cases pr.1 with
            | ls q n os na =>
              obtain ⟨j', k1, k2⟩ := atI_set (show atI ts i = some (.cl (.int a)) from ha)
              obtain ⟨w', F9, w4, pr2⟩ := os.get k2
              refine ⟨_, _, rfl, q, ?_, os.length⟩
              unfold atI
              rw [os.length, k1]
              show _ = some (V.int a)
              rw [← own_int pr2.1]
              exact w4
          refine ⟨aa, xs, i, .int a, rfl, rfl, SqL.of ea, hz, ?_⟩
          refine re np false sl σ H h rt vs F _ _ rl b1 _ fun w H1 h1 F1 G st1 rl1 ow dj fr q1 => ?_
          have hw := own_int ow
          subst hw
          refine hrd _ _ ?_
          have at1 := at0.big rl rl1 (q1 b2) st1.up
          obtain ⟨F0, pr, inn⟩ := at1
          clear inn
          have o0 := pr.1
          cases o0 with
          | ls q n os na =>
            rename_i xs2 F2
            have e5 := q1 b2 aa _ ea
            rw [q] at e5
            cases e5
            have hj := (ixN_seq j1).2.1
            have os1 : Owns Y.K Y.C h1 (upd H1 aa (.lst (xs.set j (.int z)))) xs ts F2 := os.stay (Same.refl _) fun b m => ⟨upd_ne fun e => na (e ▸ m), (os.at b m).1⟩
            obtain ⟨F3, o3, s3⟩ := os1.put (v := .int z) (t := .cl (.int z)) (G := []) hj (.cl (.int z)) fun a m => absurd m (by simp)
            have na3 : aa ∉ F3 := fun m => (s3 aa m).elim na fun m => absurd m (by simp)
            obtain ⟨F4, rl4, s4, st4⟩ := write_at (F2 := aa :: F3) (G := []) rl1 pr List.mem_cons_self (.ls upd_same n o3 na3) (fun b m => (List.mem_cons.mp m).elim (fun e => .inl (by rw [e]; exact List.mem_cons_self)) fun m => (s3 b m).imp (fun m => List.mem_cons_of_mem _ m) id) (fun a m => absurd m (by simp)) (fun a m => absurd m (by simp)) e2
            exact ⟨aa, xs, i, j, rfl, rfl, q, by rw [hl]; exact j1, k σ _ h1 vs F4 (st1.with st4 fun a m => absurd m (by simp)) rl4 .refl⟩
        · cases hv
      rcases ho with rfl | rfl
      · exact key _ hv fun H3 Q q => ⟨a, b, rfl, rfl, q⟩
      · exact key _ hv fun H3 Q q => ⟨a, b, rfl, rfl, q⟩
    · cases hv
  · cases hv
theorem Owns.appCls {zs : List V} {ds : List D} (s : Reps K C h zs ds) : ∀ {xs : List V} {ts : List T} {F : List Addr}, Owns K C h H xs ts F → Owns K C h H (xs ++ zs) (ts ++ cls ds) F
  | _, _, _, .nil => Owns.ofCls s
  | _, _, _, .cons p r dj => .cons p (Owns.appCls s r) dj
theorem rs_ext {i : Nat} {e : E} {te : TE} (re : RE Y e te) : RS Y (.ext i e) (tDrop (tBM Y.K "list" rExtend (tVar i) (tCons te tNil))) := by
  intro np σ H h sl rt vs F r rl hv D k
  unfold ex at hv
  split at hv
  · rename_i ts0 hp0
    split at hv
    · cases hv
    · rename_i x rt1 e1
      split at hv
      · rename_i ds hd
        split at hv
        · rename_i ts hp
          split at hv
          · rename_i hz
            obtain ⟨rt2, e2, e3⟩ := Option.map_eq_some_iff.mp hv
            cases e3
            have hs : ∃ s, sl[i]? = some (some s) := by
              unfold pt at hp0
              split at hp0
              · rename_i hs; exact ⟨_, hs⟩
              · rename_i hs; exact ⟨_, hs⟩
              · cases hp0
            obtain ⟨s0, hs⟩ := hs
            obtain ⟨v, v1, v2⟩ := rl.slt i _ hs
            clear v2
            refine ⟨v, v1, ?_, ?_⟩
            · obtain ⟨F0, pr, _⟩ := var_at rl v1 hp0
              cases pr.1 with
              | ls q n os na => exact .inl ⟨rfl, _, SqL.of q⟩
            · refine re.d rl e1 fun w H1 h1 F1 st1 rl1 r1 q1 => ?_
              rw [hd] at r1
              cases r1 with
              | lst qb sb =>
                rename_i b zs
                obtain ⟨F0, pr, inn⟩ := var_at rl1 v1 hp
                clear inn
                have o0 := pr.1
                cases o0 with
                | ls q n os na =>
                  rename_i a xs F2
                  have os1 : Owns Y.K Y.C h1 (upd H1 a (.lst (xs ++ zs))) (xs ++ zs) (ts ++ cls ds) F2 := Owns.appCls sb (os.stay (Same.refl _) fun b m => ⟨upd_ne fun e => na (e ▸ m), (os.at b m).1⟩)
                  obtain ⟨F4, rl4, s4, st4⟩ := write_at (F2 := a :: F2) (G := []) rl1 pr List.mem_cons_self (.ls upd_same n os1 na) (fun b m => .inl m) (fun a m => absurd m (by simp)) (fun a m => absurd m (by simp)) e2
                  exact ⟨a, b, xs, zs, rfl, rfl, q, rl1.sub _ _ qb, by rw [os.length, sb.length]; exact hz, k σ _ h1 vs F4 (st1.with st4 fun a m => absurd m (by simp)) rl4 .refl⟩
          · cases hv
        · cases hv
      · cases hv
  · cases hv
end
end Mi
namespace Mi
open PySem PySem.Spec PyProof.Rows L2
section
variable {Y : Fx} {c : Ck} {X : Cx} {h H h' H' : Hp}
theorem lc_parts (y : Y.Ok) {own : List Nat} {tg : Tg} {it : It} {cond elt : E} {c : Ck} {a : Expr} (ok : okE Y.I c (.lc own tg it cond elt) a = true) :
    ∃ el t iter ifs scope pos wi g0 tt te, a = .ListComp el [⟨t, iter, ifs, 0⟩] scope pos ∧ blkC c.N c.sc scope (ownOf c own) = true ∧ (∀ X, Gd Y c X → PI X t iter wi) ∧ (∀ X, Gd Y (c.blk scope) X → PG X t g0) ∧ (∀ X, Gd Y (c.blk scope) X → PTs X ifs tt) ∧
      (∀ X, Gd Y (c.blk scope) X → PE X el te) ∧ noSet iter = true ∧ (ownOf c own).map (·.2) = own ∧ RE Y (.lc own tg it cond elt) (tLc wi g0 tt te own) := by
  unfold okE at ok
  split at ok
  · rename_i el t iter ifs scope pos
    simp only [Bool.and_eq_true, decide_eq_true_eq] at ok
    obtain ⟨⟨⟨⟨⟨⟨⟨h1, h2⟩, h3⟩, h4⟩, h5⟩, h6⟩, h7⟩, h8⟩ := ok
    obtain ⟨wi, pi, ri⟩ := sndI y it c t iter h2
    obtain ⟨g0, pg, rg⟩ := sndTg (Y := Y) tg (c.blk scope) t h3
    obtain ⟨⟨te, pe, re⟩, _⟩ := sndE y elt (c.blk scope) el h8
    have hc : ∃ tt, (∀ X, Gd Y (c.blk scope) X → PTs X ifs tt) ∧ RT Y cond tt := by
      split at h7
      · split at h7
        · refine ⟨tYes, fun X g => pts_nil, fun np sl σ H h rt vs F b rt' rl hv Q k => ?_⟩
          have hv := tst_eq hv
          unfold ev at hv
          cases hv
          exact k H h F Stp.refl rl fun _ => Same.refl _
        · cases h7
      · rename_i x
        obtain ⟨_, s1⟩ := sndE y cond (c.blk scope) x h7
        obtain ⟨u1, q1, w1⟩ := s1 h5
        exact ⟨u1, fun X g => pts_one (q1 X g).1, w1⟩
      · cases h7
    obtain ⟨tt, pt, rt⟩ := hc
    refine ⟨el, t, iter, ifs, scope, pos, wi, g0, tt, te, rfl, h1, pi, pg, pt, pe, okI_set h2, ?_, read_lc ri rg rt re h6 (by simpa using h4)⟩
    unfold ownOf
    rw [List.map_map]
    exact List.map_id' own
  · cases ok
theorem rs_asg {i : Nat} {e : E} {te : TE} (re : RE Y e te) : RS Y (.asg i e) (tAsg te (gName i)) := by
  intro np σ H h sl rt vs F r rl hv D k
  unfold ex at hv
  split at hv
  · cases hv
  · rename_i t rt1 e1
    obtain ⟨⟨sl2, rt2⟩, e2, e3⟩ := Option.map_eq_some_iff.mp hv
    cases e3
    refine re np false sl σ H h rt vs F _ _ rl e1 _ fun v H1 h1 F1 G st1 rl1 ow dj fr q1 => ?_
    obtain ⟨vs', F', rl2, s2, kp⟩ := store_ok' rl1 ow dj e2
    refine k _ H1 h1 vs' F' (st1.with (G := G) ⟨fun a o e n => e, Same.refl _, fun a o n e => ?_, fun a z => .inl (List.mem_append.mpr (s2 a z))⟩ fr) rl2 kp
    rw [n] at e
    cases e
theorem rs_al {i j : Nat} : RS Y (.al i j) (tAsg (tVar j) (gName i)) := by
  intro np σ H h sl rt vs F r rl hv D k
  unfold ex at hv
  split at hv
  · rename_i s e1
    split at hv
    · rename_i hi
      cases hv
      obtain ⟨v, v1, v2⟩ := rl.slt j _ e1
      exact ⟨v, v1, k _ H h vs F Stp.refl (rl.set v2 hi) .refl⟩
    · cases hv
  · cases hv
theorem rs_par {i j : Nat} {a b : E} {ta tb : TE} (ra : RE Y a ta) (rb : RE Y b tb) (hij : i ≠ j) : RS Y (.par i j a b) (tPar i j (tCons ta (tCons tb tNil))) := by
  intro np σ H h sl rt vs F r rl hv D k
  unfold ex at hv
  split at hv
  · cases hv
  · rename_i x rt1 e1
    split at hv
    · cases hv
    · rename_i z rt2 e2
      split at hv
      · cases hv
      · rename_i sl3 rt3 e3
        obtain ⟨⟨sl4, rt4⟩, e4, e5⟩ := Option.map_eq_some_iff.mp hv
        cases e5
        refine ra np false sl σ H h rt vs F _ _ rl e1 _ fun v H1 h1 F1 G st1 rl1 ow dj fr q1 => ?_
        refine rb np false sl σ H1 h1 rt1 vs F1 _ _ rl1 e2 _ fun w H2 h2 F2 G2 st2 rl2 ow2 dj2 fr2 q2 => ?_
        obtain ⟨ow3, dj3⟩ := st2.own ow dj
        have dG : ∀ a, a ∈ G → a ∉ G2 := fun a z z' => by
          rcases fr2 a z' with q | q
          · exact dj a z q
          · obtain ⟨_, o, e⟩ := ow.at a z
            rw [q] at e
            cases e
        obtain ⟨vs3, F3, rl3, s3, kp3⟩ := store_ok' rl2 ow2 dj2 e3
        obtain ⟨vs4, F4, rl4, s4, kp4⟩ := store_ok' rl3 ow3 (fun a z z' => (s3 a z').elim (dj3 a z) (dG a z)) e4
        refine ⟨v, w, rfl, ?_⟩
        have cm := (List.set_comm (some v) (some w) (l := σ) hij)
        rw [cm]
        refine k _ H2 h2 vs4 F4 ((st1.trans st2).with (G := G ++ G2) ⟨fun a o e n => e, Same.refl _, fun a o n e => ?_, fun a z => .inl ?_⟩ fun a z => ?_) rl4 ((kp3.sup fun j m => (List.mem_singleton.mp m) ▸ List.mem_cons_self).trans (kp4.sup fun j m => (List.mem_singleton.mp m) ▸ List.mem_cons_of_mem _ (List.mem_singleton.mpr rfl)))
        · rw [n] at e
          cases e
        · rcases s4 a z with q | q
          · rcases s3 a q with q | q
            · exact List.mem_append_left _ q
            · exact List.mem_append_right _ (List.mem_append_right _ q)
          · exact List.mem_append_right _ (List.mem_append_left _ q)
        · rcases List.mem_append.mp z with z | z
          · exact fr a z
          · exact (fr2 a z).elim (st1.fp a) (st1.back a)
theorem rs_parN {i j : Nat} {a b : E} {ta tb : TE} (ra : RE Y a ta) (rb : RE Y b tb) : RS Y (.parN i j a b) (tAsg (tTup (tCons ta (tCons tb tNil))) (gTup Y.K 2 (gCons (gName i) (gCons (gName j) gNil)))) := by
  intro np σ H h sl rt vs F r rl hv D k
  unfold ex at hv
  split at hv
  · cases hv
  · rename_i x rt1 e1
    split at hv
    · cases hv
    · rename_i z rt2 e2
      split at hv
      · cases hv
      · rename_i sl3 rt3 e3
        obtain ⟨⟨sl4, rt4⟩, e4, e5⟩ := Option.map_eq_some_iff.mp hv
        cases e5
        refine ra np false sl σ H h rt vs F _ _ rl e1 _ fun v H1 h1 F1 G st1 rl1 ow dj fr q1 => ?_
        refine rb np false sl σ H1 h1 rt1 vs F1 _ _ rl1 e2 _ fun w H2 h2 F2 G2 st2 rl2 ow2 dj2 fr2 q2 => ?_
        obtain ⟨ow3, dj3⟩ := st2.own ow dj
        have dG : ∀ a, a ∈ G → a ∉ G2 := fun a z z' => by
          rcases fr2 a z' with q | q
          · exact dj a z q
          · obtain ⟨_, o, e⟩ := ow.at a z
            rw [q] at e
            cases e
        refine ⟨(show 2 ≤ sizeLine by decide), fun p hp => ⟨p, [v, w], rfl, SqT.of upd_same, rfl, v, [w], rfl, w, [], rfl, rfl, ?_⟩⟩
        have g0 : Grew h2 H2 h2 (upd H2 p (.tup [v, w])) := upd_grew0 rl2.sub hp
        have up : ∀ {u : V} {t : T} {Z : List Addr}, Own Y.K Y.C h2 H2 u t Z → Own Y.K Y.C h2 (upd H2 p (.tup [v, w])) u t Z := fun o => o.stay (Same.refl _) fun a z => by
          obtain ⟨n, oo, e⟩ := o.at a z
          exact ⟨upd_ne (ne_of_none e hp), n⟩
        obtain ⟨vs3, F3, rl3, s3, kp3⟩ := store_ok' (g0.rel rl2) (up ow3) dj3 e3
        obtain ⟨vs4, F4, rl4, s4, kp4⟩ := store_ok' rl3 (up ow2) (fun a z z' => (s3 a z').elim (dj2 a z) fun q => dG a q z) e4
        refine k _ _ h2 vs4 F4 (((st1.trans st2).trans (g0.stp (F := F2))).with (G := G ++ G2) ⟨fun a o e n => e, Same.refl _, fun a o n e => ?_, fun a z => .inl ?_⟩ fun a z => ?_) rl4 ((kp3.sup fun j m => (List.mem_singleton.mp m) ▸ List.mem_cons_self).trans (kp4.sup fun j m => (List.mem_singleton.mp m) ▸ List.mem_cons_of_mem _ (List.mem_singleton.mpr rfl)))
        · rw [n] at e
          cases e
        · rcases s4 a z with q | q
          · rcases s3 a q with q | q
            · exact List.mem_append_left _ q
            · exact List.mem_append_right _ (List.mem_append_left _ q)
          · exact List.mem_append_right _ (List.mem_append_right _ q)
        · rcases List.mem_append.mp z with z | z
          · exact fr a z
          · exact (fr2 a z).elim (st1.fp a) (st1.back a)
theorem rs_asgT {tg : Tg} {e : E} {te : TE} {g : TG} (re : RE Y e te) (rg : RG Y tg g) : RS Y (.asgT tg e) (tAsg te g) := by
  intro np σ H h sl rt vs F r rl hv D k
  unfold ex at hv
  split at hv
  · cases hv
  · rename_i t rt1 e1
    obtain ⟨sl2, e2, e3⟩ := Option.map_eq_some_iff.mp hv
    cases e3
    refine re.d rl e1 fun v H1 h1 F1 st1 rl1 r1 q1 => ?_
    exact rg σ H1 h1 sl _ vs F1 v t.d sl2 rl1 r1 e2 _ fun σ' rl2 _ => k σ' H1 h1 vs F1 st1 rl2 .refl
def ipF (op : BOp) : Int → Int → Int := match op with | .sub => fun i j => i - j | _ => fun i j => i + j
theorem rs_aug {i : Nat} {op : BOp} {e : E} {te : TE} (re : RE Y e te) : RS Y (.aug i op e) (tAug i te (ipI (ipF op))) := by
  intro np σ H h sl rt vs F r rl hv D k
  unfold ex at hv
  split at hv
  · rename_i a hs
    obtain ⟨v, v1, v2⟩ := rl.slt i _ hs
    have v2 : Rep Y.K Y.C h v (.int a) := v2
    cases v2
    have fin : ∀ (b z : Int) (rt1 : Rt), ev (cfg Y np) false sl e rt = some (.cl (.int b), rt1) → ipF op a b = z → (store (cfg Y np) i (.cl (.int z)) sl rt1).map (fun p => (Fl.nx, p)) = some r → tAug i te (ipI (ipF op)) D σ H := fun b z rt1 e1 hz hv => by
      obtain ⟨⟨sl2, rt2⟩, e2, e3⟩ := Option.map_eq_some_iff.mp hv
      cases e3
      refine ⟨.int a, v1, re.d rl e1 fun w H1 h1 F1 st1 rl1 r1 q1 => ?_⟩
      cases r1
      obtain ⟨vs', F', rl2, s2, kp⟩ := store_ok' (v := V.int z) rl1 (.cl (.int z)) (fun a z => absurd z (by simp)) e2
      refine ⟨a, b, rfl, rfl, ?_⟩
      rw [hz]
      refine k _ H1 h1 vs' F' (st1.with (G := []) ⟨fun a o e n => e, Same.refl _, fun a o n e => ?_, fun a z => .inl (List.mem_append.mpr (s2 a z))⟩ fun a z => absurd z (by simp)) rl2 kp
      rw [n] at e
      cases e
    split at hv
    · rename_i b rt1 e1
      split at hv
      · exact fin b _ rt1 e1 rfl hv
      · exact fin b _ rt1 e1 rfl hv
      · cases hv
    · cases hv
  · cases hv
theorem rs_ex {e : E} {te : TE} (re : RE Y e te) : RS Y (.ex e) (tDrop te) := by
  intro np σ H h sl rt vs F r rl hv D k
  unfold ex at hv
  split at hv
  · cases hv
  · rename_i t rt1 e1
    cases hv
    exact re.d rl e1 fun v H1 h1 F1 st1 rl1 r1 q1 => k σ H1 h1 vs F1 st1 rl1 .refl
theorem rs_ret {e : E} {te : TE} (re : RE Y e te) : RS Y (.ret e) (tRet te) := by
  intro np σ H h sl rt vs F r rl hv D k
  unfold ex at hv
  split at hv
  · cases hv
  · rename_i t rt1 e1
    cases hv
    exact re np true sl σ H h rt vs F _ _ rl e1 _ fun v H1 h1 F1 G st1 rl1 ow dj fr q1 => k v σ H1 h1 vs F1 G st1 rl1 .refl ow dj fr
theorem rs_ite {e : E} {a b : Ss} {tc : TT} {t u : TS} (rc : RT Y e tc) (ra : RSs Y a t) (rb : RSs Y b u) : RS Y (.ite e a b) (tIfS tc t u) := by
  intro np σ H h sl rt vs F r rl hv D k
  unfold ex at hv
  split at hv
  · cases hv
  · rename_i rt1 e1
    refine rc np sl σ H h rt vs F true rt1 rl e1 _ fun H1 h1 F1 st1 rl1 q1 => ?_
    rw [if_pos rfl]
    exact ra np σ H1 h1 sl rt1 vs F1 r rl1 hv D (k.thn (s1 := []) st1 .refl (fun j m => by cases m) fun j m => List.mem_append_left _ m)
  · rename_i rt1 e1
    refine rc np sl σ H h rt vs F false rt1 rl e1 _ fun H1 h1 F1 st1 rl1 q1 => ?_
    rw [if_neg Bool.false_ne_true]
    exact rb np σ H1 h1 sl rt1 vs F1 r rl1 hv D (k.thn (s1 := []) st1 .refl (fun j m => by cases m) fun j m => List.mem_append_right _ m)
theorem rs_wh {e : E} {b : Ss} {tc : TT} {u : TS} (rc : RT Y e tc) (rb : RSs Y b u) : RS Y (.wh e b) (tWhile tc u) := by
  intro np σ H h sl rt vs F r rl hv D k
  unfold ex at hv
  refine ⟨fun m σ' H' => ∃ h' F' vs' sl' rt', Stp F h H F' h' H' ∧ Rel Y.K Y.C σ' H' h' sl' rt' vs' F' ∧ Kept np b.stores vs vs' ∧ whGo (fun sl rt => tstOf (ev (cfg Y np) false sl e rt)) (fun sl rt => exs (cfg Y np) b sl rt) m sl' rt' = some r, ⟨whMax, h, F, vs, sl, rt, Stp.refl, rl, .refl, hv⟩, ?_⟩
  rintro m σ1 H1 ⟨h1, F1, vs1, sl1, rt1, st1, rl1, kp1, go⟩
  cases m with
  | zero =>
    unfold whGo at go
    cases go
  | succ m =>
    unfold whGo at go
    split at go
    · cases go
    · rename_i rt2 e1
      cases go
      refine rc np sl1 σ1 H1 h1 rt1 vs1 F1 false _ rl1 e1 _ fun H2 h2 F2 st2 rl2 q2 => ?_
      rw [if_neg Bool.false_ne_true]
      exact k σ1 H2 h2 vs1 F2 (st1.trans st2) rl2 kp1
    · rename_i rt2 e1
      refine rc np sl1 σ1 H1 h1 rt1 vs1 F1 true _ rl1 e1 _ fun H2 h2 F2 st2 rl2 q2 => ?_
      rw [if_pos rfl]
      refine ⟨fun σ' H' => ∃ h' F' vs' sl' rt', Stp F h H F' h' H' ∧ Rel Y.K Y.C σ' H' h' sl' rt' vs' F' ∧ Kept np b.stores vs vs' ∧ whGo (fun sl rt => tstOf (ev (cfg Y np) false sl e rt)) (fun sl rt => exs (cfg Y np) b sl rt) m sl' rt' = some r, fun σ' H' p => ⟨m, Nat.lt_succ_self m, p⟩, ?_⟩
      have st := st1.trans st2
      split at go
      · rename_i sl3 rt3 e3
        exact rb np σ1 H2 h2 sl1 rt2 vs1 F2 _ rl2 e3 _ fun σ' H' h' vs' F' st3 rl3 kp3 => ⟨h', F', vs', sl3, rt3, st.trans st3, rl3, kp1.trans kp3, go⟩
      · rename_i sl3 rt3 e3
        exact rb np σ1 H2 h2 sl1 rt2 vs1 F2 _ rl2 e3 _ fun σ' H' h' vs' F' st3 rl3 kp3 => ⟨h', F', vs', sl3, rt3, st.trans st3, rl3, kp1.trans kp3, go⟩
      · rename_i sl3 rt3 e3
        cases go
        exact rb np σ1 H2 h2 sl1 rt2 vs1 F2 _ rl2 e3 _ fun σ' H' h' vs' F' st3 rl3 kp3 => k σ' H' h' vs' F' (st.trans st3) rl3 (kp1.trans kp3)
      · rename_i t sl3 rt3 e3
        cases go
        exact rb np σ1 H2 h2 sl1 rt2 vs1 F2 _ rl2 e3 _ fun v σ' H' h' vs' F' G st3 rl3 kp3 ow dj fr => k v σ' H' h' vs' F' G (st.trans st3) rl3 (kp1.trans kp3) ow dj fun a z => (fr a z).elim (st.fp a) (st.back a)
      · cases go
theorem rs_fr {tg : Tg} {it : It} {b : Ss} {wi : TI} {g : TG} {u : TS} (ri : RI Y it wi) (rg : RG Y tg g) (rb : RSs Y b u) (hq : it.clo = true) : RS Y (.fr tg it b) (tFor wi g u) := by
  intro np σ H h sl rt vs F r rl hv D k
  unfold ex at hv
  split at hv
  · cases hv
  · rename_i xs rt1 e1
    refine ri np sl σ H h rt vs F xs rt1 rl e1 _ fun J H1 h1 F1 S st1 rl1 wk s1 clo q1 => ?_
    let P : Nat → L2.St → Hp → Prop := fun i σ' H' => ∃ h' F' vs' sl' rt', Stp F h H F' h' H' ∧ Rel Y.K Y.C σ' H' h' sl' rt' vs' F' ∧ Kept np b.stores vs vs' ∧ S h' H' ∧ forGo (fun sl x => bind sl tg x) (fun sl rt => exs (cfg Y np) b sl rt) (xs.drop i) sl' rt' = some r
    refine ⟨fun i m σ' H' => m = xs.length - i ∧ i ≤ xs.length ∧ P i σ' H', ⟨xs.length, by simp, Nat.zero_le _, h1, F1, vs, sl, rt1, st1, rl1, .refl, s1, hv⟩, ?_⟩
    rintro i m σ2 H2 ⟨rfl, hi, h2, F2, vs2, sl2, rt2, st2, rl2, kp2, s2, go⟩
    by_cases hlt : i < xs.length
    · right
      refine ⟨wk.go i h2 H2 s2 rl2.sub hlt, P (i + 1), fun σ' H' p => ⟨xs.length - (i + 1), by omega, rfl, hlt, p⟩, fun x H3 hy => ?_⟩
      obtain ⟨d, h3, d1, g3, d2⟩ := wk.yl i h2 H2 x H3 s2 rl2.sub hy hlt
      have rl3 := g3.rel rl2
      have hd : xs.drop i = d :: xs.drop (i + 1) := by
        obtain ⟨hh, he⟩ := List.getElem?_eq_some_iff.mp d1
        rw [List.drop_eq_getElem_cons hh, he]
      rw [hd] at go
      unfold forGo at go
      split at go
      · cases go
      · rename_i sl4 e4
        refine rg σ2 H3 h3 sl2 rt2 vs2 F2 x d sl4 rl3 d2 e4 _ fun σ4 rl4 w4 => ?_
        have st := st2.trans (g3.stp (F := F2))
        have sc : ∀ h' H' F', Stp F2 h3 H3 F' h' H' → Rel Y.K Y.C σ4 H3 h3 sl4 rt2 vs2 F2 → Same h' H' → S h' H' := fun h' H' F' st' _ sb => clo hq h2 H2 h' H' s2 (g3.sml.trans st'.up) sb
        split at go
        · rename_i sl5 rt5 e5
          exact rb np σ4 H3 h3 sl4 rt2 vs2 F2 _ rl4 e5 _ fun σ' H' h' vs' F' st5 rl5 kp5 => ⟨h', F', vs', sl5, rt5, st.trans st5, rl5, kp2.trans kp5, sc h' H' F' st5 rl4 rl5.sub, go⟩
        · rename_i sl5 rt5 e5
          exact rb np σ4 H3 h3 sl4 rt2 vs2 F2 _ rl4 e5 _ fun σ' H' h' vs' F' st5 rl5 kp5 => ⟨h', F', vs', sl5, rt5, st.trans st5, rl5, kp2.trans kp5, sc h' H' F' st5 rl4 rl5.sub, go⟩
        · rename_i sl5 rt5 e5
          cases go
          exact rb np σ4 H3 h3 sl4 rt2 vs2 F2 _ rl4 e5 _ fun σ' H' h' vs' F' st5 rl5 kp5 => k σ' H' h' vs' F' (st.trans st5) rl5 (kp2.trans kp5)
        · rename_i t sl5 rt5 e5
          cases go
          exact rb np σ4 H3 h3 sl4 rt2 vs2 F2 _ rl4 e5 _ fun v σ' H' h' vs' F' G st5 rl5 kp5 ow dj fr => k v σ' H' h' vs' F' G (st.trans st5) rl5 (kp2.trans kp5) ow dj fun a z => (fr a z).elim (st.fp a) (st.back a)
        · cases go
    · left
      have e : i = xs.length := by omega
      subst e
      rw [List.drop_length] at go
      unfold forGo at go
      cases go
      exact ⟨wk.stop h2 H2 s2 rl2.sub, k σ2 H2 h2 vs2 F2 st2 rl2 kp2⟩
theorem lst_ok {v : V} {t : T} {F : List Addr} {xs : List D} (hs : Same h H) (o : Own Y.K Y.C h H v t F) (e : t.lst = some xs) : ∃ a vs, v = .ref a ∧ SqL Y.K H a vs ∧ Reps Y.K Y.C h vs xs := by
  unfold T.lst at e
  split at e
  · cases e
    have r1 := rep_d o
    cases r1 with
    | lst q s => exact ⟨_, _, rfl, SqL.of (hs _ _ q), s⟩
  · cases o with
    | ls q n os na =>
      obtain ⟨s, _⟩ := leaves_ok os e
      exact ⟨_, _, rfl, SqL.of q, s⟩
  · cases e
theorem rs_frV {tg : Tg} {i : Nat} {b : Ss} {g : TG} {u : TS} (rg : RG Y tg g) (rb : RSs Y b u) : RS Y (.frV tg i b) (tFor (iList Y.K (tVar i)) g u) := by
  intro np σ H h sl rt vs F r rl hv D k
  unfold ex at hv
  split at hv
  · rename_i kk hs
    split at hv
    · rename_i hk
      have hk : ∀ j ∈ b.stores, kk ≠ np + j := fun j m => by
        have := List.all_eq_true.mp hk j m
        have this : ¬ kk = (cfg Y np).np + j := by simpa using this
        exact this
      split at hv
      · rename_i t ht
        split at hv
        · rename_i xs hx
          obtain ⟨v, v1, v2⟩ := rl.slt i _ hs
          have v2 : vs[kk]? = some v := v2
          obtain ⟨w, F1, w1, pr⟩ := rl.own.get ht
          rw [v2] at w1
          cases w1
          obtain ⟨a, ws, rfl, q, rr⟩ := lst_ok rl.sub pr.1 hx
          refine ⟨.ref a, v1, a, rfl, ⟨ws, q⟩, ?_⟩
          let P : Nat → Nat → L2.St → Hp → Prop := fun j m σ' H' => ∃ h' F' vs' sl' rt', Stp F h H F' h' H' ∧ Rel Y.K Y.C σ' H' h' sl' rt' vs' F' ∧ Kept np b.stores vs vs' ∧ forGoV (fun sl x => bind sl tg x) (fun sl rt => exs (cfg Y np) b sl rt) i kk xs.length m j sl' rt' = some r
          refine ⟨fun j m σ' H' => j + m = xs.length ∧ P j m σ' H', ⟨xs.length, Nat.zero_add _, h, F, vs, sl, rt, Stp.refl, rl, .refl, hv⟩, ?_⟩
          rintro j m σ2 H2 ⟨hj, h2, F2, vs2, sl2, rt2, st2, rl2, kp2, go⟩
          have hv2 : vs2[kk]? = some (.ref a) := (kp2.1 kk hk).trans v2
          have now : ∀ {t2 : T} {ys : List Mi.D}, rt2[kk]? = some (some t2) → t2.lst = some ys → ∃ us, SqL Y.K H2 a us ∧ Reps Y.K Y.C h2 us ys := fun e1 e2 => by
            obtain ⟨z, F3, z1, z2⟩ := rl2.own.get e1
            rw [hv2] at z1
            cases z1
            obtain ⟨a', us, e3, q3, r3⟩ := lst_ok rl2.sub z2.1 e2
            cases e3
            exact ⟨us, q3, r3⟩
          cases m with
          | zero =>
            left
            unfold forGoV at go
            split at go
            · rename_i t2 ht2
              split at go
              · rename_i ys hys
                split at go
                · rename_i hlen
                  cases go
                  obtain ⟨us, q3, r3⟩ := now ht2 hys
                  refine ⟨⟨us, q3, ?_⟩, k σ2 H2 h2 vs2 F2 st2 rl2 kp2⟩
                  rw [r3.length, hlen]
                  omega
                · cases go
              · cases go
            · cases go
          | succ m =>
            right
            unfold forGoV at go
            split at go
            · rename_i t2 ht2
              split at go
              · rename_i ys hys
                split at go
                · rename_i hlen
                  obtain ⟨us, q3, r3⟩ := now ht2 hys
                  have hlt : j < ys.length := by omega
                  obtain ⟨x0, hx0⟩ := reps_in r3 hlt
                  refine ⟨⟨us, x0, q3, hx0⟩, P (j + 1) m, fun σ' H' p => ⟨m, Nat.lt_succ_self m, by omega, p⟩, fun x H3 hy => ?_⟩
                  obtain ⟨e3, e4⟩ := hy
                  subst e3
                  obtain ⟨d, d1, d2⟩ := reps_at r3 (e4 us q3)
                  rw [d1] at go
                  simp only at go
                  split at go
                  · cases go
                  · rename_i sl4 e5
                    refine rg σ2 _ h2 sl2 rt2 vs2 F2 x d sl4 rl2 d2 e5 _ fun σ4 rl4 w4 => ?_
                    split at go
                    · rename_i sl5 rt5 e6
                      exact rb np σ4 _ h2 sl4 rt2 vs2 F2 _ rl4 e6 _ fun σ' H' h' vs' F' st5 rl5 kp5 => ⟨h', F', vs', sl5, rt5, st2.trans st5, rl5, kp2.trans kp5, go⟩
                    · rename_i sl5 rt5 e6
                      exact rb np σ4 _ h2 sl4 rt2 vs2 F2 _ rl4 e6 _ fun σ' H' h' vs' F' st5 rl5 kp5 => ⟨h', F', vs', sl5, rt5, st2.trans st5, rl5, kp2.trans kp5, go⟩
                    · rename_i sl5 rt5 e6
                      cases go
                      exact rb np σ4 _ h2 sl4 rt2 vs2 F2 _ rl4 e6 _ fun σ' H' h' vs' F' st5 rl5 kp5 => k σ' H' h' vs' F' (st2.trans st5) rl5 (kp2.trans kp5)
                    · rename_i t sl5 rt5 e6
                      cases go
                      exact rb np σ4 _ h2 sl4 rt2 vs2 F2 _ rl4 e6 _ fun v σ' H' h' vs' F' G st5 rl5 kp5 ow dj fr => k v σ' H' h' vs' F' G (st2.trans st5) rl5 (kp2.trans kp5) ow dj fun a z => (fr a z).elim (st2.fp a) (st2.back a)
                    · cases go
                · cases go
              · cases go
            · cases go
        · cases hv
      · cases hv
    · cases hv
  · cases hv
theorem never (g : Gd Y c X) : PassesOwn (model X.prog X.w) X.A X.env X.xe := by rw [g.xe]; exact PassesOwn.never
theorem few {v : Expr} {cpos : Pos} {env : Env} (h : noStar v = true) : ((backTo cpos (starEach [v] env)).all (fun x => !x.1) && (backToKw cpos (keywordEach [] env)).all (fun x => x.1.isSome)
      && decide (([v] : List Expr).length + ([] : List Keyword).length + (if ([] : List Keyword).isEmpty then 0 else 1) < 30)) = true := by
  rw [star_cons h]
  rfl
theorem pe_app {x v : Expr} {ap cp : Pos} {to te : TE} (hb : attributeBase x "append" X.env (eval x X.env) = eval x X.env) (hl : (ap.endLine == cp.line) = true) (hs : noStar v = true) (po : PE X x to) (pv : PE X v te) :
    PE X (.Call (.Attribute x "append" ap) [v] [] cp) (tBM X.K "list" rAppend to (tCons te tNil)) :=
  pe_bm PySem.F.plainAttrs_list PySem.F.slot_list_append PySem.F.type_list_append mt_append po (pa_one hs pv) hb (few hs) hl (star_cons hs) rfl
mutual
theorem sndS (y : Y.Ok) : ∀ (s : St) (c : Ck) (a : Stmt), okS Y.I c s a = true → SS Y c s a
  | .asg i e, c, a, ok => by
    unfold okS at ok
    split at ok
    · rename_i x px v pos
      simp only [Bool.and_eq_true, Bool.or_eq_true, Bool.not_eq_true'] at ok
      obtain ⟨⟨h1, h2⟩, h3⟩ := ok
      by_cases hs : swapB c x px v = false
      · obtain ⟨te, pe, re⟩ := (sndE y e c v h2).1
        refine ⟨_, fun X g => ?_, rs_asg re⟩
        obtain ⟨t1, t2, t3⟩ := tgt_ok g.toGd h1
        exact ps_set (by rw [g.N]; exact g.nd) t1 t2 (pe X g.toGd) (swap_ok g hs) t3
      · have hs : swapB c x px v = true := by simpa using hs
        rw [hs] at h3
        have h3 : e.isLc = true := by simpa using h3
        cases e with
        | lc own tg it cond elt =>
          obtain ⟨el, t, iter, ifs, scope, p2, wi, g0, tt, te, rfl, b1, b2, b3, b4, b5, b6, b7, b8⟩ := lc_parts y h2
          refine ⟨_, fun X g => ?_, rs_asg b8⟩
          obtain ⟨t1, t2, t3⟩ := tgt_ok g.toGd h1
          have hl : X.env.scope.names.lookup x = some .local := by
            have hs : (isLoc c x && px.line == p2.line && !(scope.names.any fun (n, k) => n == x && (k == .local || k == .cell))) = true := hs
            have := (and_tt (and_tt hs).1).1
            unfold isLoc at this
            rw [g.sc]
            simpa using this
          have q := ps_setLc (py := px) (spos := pos) (pos := p2) g.calm (by rw [g.N]; exact g.nd) t1 hl (swap_yes g hs) (b2 X g.toGd) (by rw [g.N, g.sc]; exact blkOk_by b1) (fun s H C cl fp => b3 _ (g.toGd.blk s H scope C cl fp)) (fun s H C cl fp => b4 _ (g.toGd.blk s H scope C cl fp)) (fun s H C cl fp => b5 _ (g.toGd.blk s H scope C cl fp)) (fold_plain b6)
          rw [b7] at q
          exact q
        | lc2 own own1 tg it tg1 it1 elt =>
          unfold okE at h2
          split at h2
          · rename_i el t iter t1 iter1 scope p2 _
            simp only [Bool.and_eq_true, decide_eq_true_eq] at h2
            obtain ⟨⟨⟨⟨⟨⟨⟨⟨b1, b2⟩, b3⟩, b2'⟩, b3'⟩, b4⟩, b6⟩, b7⟩, b8⟩ := h2
            obtain ⟨wi, pi, ri⟩ := sndI y it c t iter b2
            obtain ⟨g0, pg, rg⟩ := sndTg (Y := Y) tg (c.blk scope) t b3
            obtain ⟨wi1, pi1, ri1⟩ := sndI y it1 (c.blk scope) t1 iter1 b2'
            obtain ⟨g1, pg1, rg1⟩ := sndTg (Y := Y) tg1 (c.blk scope) t1 b3'
            obtain ⟨⟨te, pe, re⟩, _⟩ := sndE y elt (c.blk scope) el b8
            refine ⟨_, fun X g => ?_, rs_asg (read_lc2 ri rg ri1 rg1 re b6 b7.1 b4.1 b4.2)⟩
            obtain ⟨t1, t2, t3⟩ := tgt_ok g.toGd h1
            have hl : X.env.scope.names.lookup x = some .local := by
              have hs : (isLoc c x && px.line == p2.line && !(scope.names.any fun (n, k) => n == x && (k == .local || k == .cell))) = true := hs
              have := (and_tt (and_tt hs).1).1
              unfold isLoc at this
              rw [g.sc]
              simpa using this
            have eo : (ownOf c own).map (·.2) = own := by
              unfold ownOf
              rw [List.map_map]
              exact List.map_id' own
            have q := ps_setLc2 (vs1 := own1) (py := px) (spos := pos) (pos := p2) g.calm (by rw [g.N]; exact g.nd) t1 hl (swap_yes g hs) (pi X g.toGd) (by rw [g.N, g.sc]; exact blkOk_by b1) (by rw [eo]; exact b7.2) (fun s H C cl fp => pg _ (g.toGd.blk s H scope C cl fp)) (fun s H C cl fp => pts_nil) (fun s H C cl fp => pi1 _ (g.toGd.blk s H scope C cl fp)) (fun s H C cl fp => pg1 _ (g.toGd.blk s H scope C cl fp)) (fun s H C cl fp => pts_nil) (fun s H C cl fp => pe _ (g.toGd.blk s H scope C cl fp)) (fold_plain (okI_set b2)) (fun env => fold_plain (okI_set b2'))
            rw [eo] at q
            exact q
          · cases h2
        | _ => cases h3
    · cases ok
  | .al i j, c, a, ok => by
    unfold okS at ok
    split at ok
    · rename_i x px z pz pos
      simp only [Bool.and_eq_true, decide_eq_true_eq] at ok
      obtain ⟨⟨⟨h1, h2⟩, h3⟩, h4⟩ := ok
      refine ⟨_, fun X g => ?_, rs_al⟩
      obtain ⟨t1, t2, t3⟩ := tgt_ok g.toGd h1
      exact ps_set (by rw [g.N]; exact g.nd) t1 t2 (g.var h2 h3 h4) rfl t3
    · cases ok
  | .par i j a b, c, s, ok => by
    unfold okS at ok
    split at ok
    · rename_i x px z pz kt pt va vb k2 p2 pos
      simp only [Bool.and_eq_true, decide_eq_true_eq, Bool.not_eq_true'] at ok
      obtain ⟨⟨⟨⟨⟨⟨⟨⟨⟨⟨⟨⟨h1, h2⟩, h3⟩, h4⟩, h5⟩, h6⟩, h7⟩, h8⟩, h9⟩, h10⟩, h11⟩, h12⟩, h13⟩ := ok
      obtain ⟨ta, pa, ra⟩ := (sndE y a c va h12).1
      obtain ⟨tb, pb, rb⟩ := (sndE y b c vb h13).1
      refine ⟨_, fun X g => ?_, rs_par ra rb h1⟩
      have l1 : X.env.scope.names.lookup x = some .local := by
        unfold isLoc at h4
        rw [g.sc]
        simpa using h4
      have l2 : X.env.scope.names.lookup z = some .local := by
        unfold isLoc at h5
        rw [g.sc]
        simpa using h5
      exact ps_par g.calm (by rw [g.N]; exact g.nd) (by rw [g.N]; exact h2) (by rw [g.N]; exact h3) h1 l1 l2 (pa_cons (pa X g.toGd) (pa_one h9 (pb X g.toGd)) (star_cons h8)) (stores_par g h4 h5 h6 h7 h8 h9 h10 h11) rfl
    · cases ok
  | .parN i j a b, c, s, ok => by
    unfold okS at ok
    split at ok
    · rename_i x px z pz kt pt va vb k2 p2 pos
      rw [Bool.and_eq_true, Bool.and_eq_true, Bool.and_eq_true, Bool.and_eq_true, Bool.and_eq_true, Bool.and_eq_true] at ok
      obtain ⟨⟨⟨⟨⟨⟨h1, h2⟩, h3⟩, h4⟩, h5⟩, h6⟩, h7⟩ := ok
      obtain ⟨ta, pa, ra⟩ := (sndE y a c va h6).1
      obtain ⟨tb, pb, rb⟩ := (sndE y b c vb h7).1
      refine ⟨_, fun X g => ?_, rs_parN ra rb⟩
      obtain ⟨t1, t2, t3⟩ := tgt_ok g.toGd h1
      obtain ⟨u1, u2, u3⟩ := tgt_ok g.toGd h2
      have hN : X.N.Nodup := by rw [g.N]; exact g.nd
      have q := pg_tup (k := kt) (pos := pt) (n := 2) g.calm (pgs_cons (pg_name (pos := px) hN t1 t2 t3) (pgs_cons (pg_name (pos := pz) hN u1 u2 u3) pgs_nil)) rfl rfl
      rw [g.K] at q
      exact ps_asg (pe_tup (pa_cons (pa X g.toGd) (pa_one h5 (pb X g.toGd)) (star_cons h4))) q (swap_not (v := .Tuple [va, vb] k2 p2) (t := .Tuple [.Name x px, .Name z pz] kt pt) (ln := pos.line) (env := X.env) trivial) (stores_mix g h3) rfl
    · cases ok
  | .asgT tg e, c, s, ok => by
    unfold okS at ok
    split at ok
    · rename_i es k p v pos
      simp only [Bool.and_eq_true] at ok
      obtain ⟨⟨h1, h2⟩, h3⟩ := ok
      obtain ⟨g0, pg, rg⟩ := sndTg (Y := Y) tg c _ h1
      obtain ⟨te, pe, re⟩ := (sndE y e c v h3).1
      exact ⟨_, fun X g => ps_asg (pe X g.toGd) (pg X g.toGd) (swap_not (t := .Tuple es k p) (ln := pos.line) (env := X.env) trivial) (stores_none h2) rfl, rs_asgT re rg⟩
    · cases ok
  | .setx p x e, c, s, ok => by
    unfold okS at ok
    split at ok
    · rename_i o i p1 v pos
      simp only [Bool.and_eq_true] at ok
      obtain ⟨⟨⟨h1, h2⟩, h3⟩, h4⟩ := ok
      obtain ⟨to, po, ro⟩ := sndP y p o h1
      obtain ⟨ti, pi, ri⟩ := sndX y x i h3
      obtain ⟨te, pe, re⟩ := (sndE y e c v h4).1
      refine ⟨_, fun X g => ps_asg (pe X g.toGd) (pg_sub (po X g.toGd) (pi X g.toGd) (PSet.or set_list (set_dict (Nat.lt_of_le_of_lt (by omega) g.toGd.units))) ?_) (swap_not (t := .Subscript o i p1) (ln := pos.line) (env := X.env) trivial) stores_sub rfl, rs_setx re ro ri⟩
      intro v
      cases i <;> first | rfl | cases h2
    · cases ok
  | .app p e, c, s, ok => by
    unfold okS at ok
    split at ok
    · rename_i o m ap v cp pos
      simp only [Bool.and_eq_true, decide_eq_true_eq] at ok
      obtain ⟨⟨⟨⟨rfl, h1⟩, h2⟩, h3⟩, h4⟩ := ok
      obtain ⟨te, pe, re⟩ := (sndE y e c v h4).1
      cases hp : p.isVar with
      | true =>
        cases p with
        | var i =>
          obtain ⟨x, px, rfl, o1, o2, o3⟩ := okP_var h2
          refine ⟨_, fun X g => ?_, rs_appV re⟩
          have q := ps_expr (pos := pos) (pe_app (path_base h2) h1 h3 (g.toGd.var (pos := px) o1 o2 o3) (pe X g.toGd)) rfl
          rw [g.K] at q
          exact q
        | ix _ _ => cases hp
        | «at» _ _ => cases hp
      | false =>
        obtain ⟨to, po, ro⟩ := sndP y p o h2
        refine ⟨_, fun X g => ?_, rs_appP hp re ro⟩
        have q := ps_expr (pos := pos) (pe_app (path_base h2) h1 h3 (po X g.toGd) (pe X g.toGd)) rfl
        rw [g.K] at q
        exact q
    · cases ok
  | .aug i op e, c, s, ok => by
    unfold okS at ok
    split at ok
    · rename_i x px o v pos
      simp only [Bool.and_eq_true] at ok
      obtain ⟨⟨h1, h2⟩, h3⟩ := ok
      cases opIs_eq h2
      obtain ⟨te, pe, re⟩ := (sndE y e c v h3).1
      cases op with
      | add =>
        refine ⟨_, fun X g => ?_, rs_aug re⟩
        obtain ⟨t1, t2, t3⟩ := tgt_ok g.toGd h1
        exact ps_aug (by rw [g.N]; exact g.nd) t1 t2 (pe X g.toGd) ip_add t3
      | sub =>
        refine ⟨_, fun X g => ?_, rs_aug re⟩
        obtain ⟨t1, t2, t3⟩ := tgt_ok g.toGd h1
        exact ps_aug (by rw [g.N]; exact g.nd) t1 t2 (pe X g.toGd) ip_sub t3
      | _ =>
        refine ⟨tNever, fun X g => ps_never, fun np σ H h sl rt vs F r rl hv D k => ?_⟩
        unfold ex at hv
        split at hv
        · split at hv
          · cases hv
          · cases hv
        · cases hv
    · cases ok
  | .fld2 p f gg e, c, s, ok => by
    unfold okS at ok
    split at ok
    · rename_i o f' p1 o' g' p2 kk p3 v pos
      simp only [Bool.and_eq_true, decide_eq_true_eq] at ok
      obtain ⟨⟨⟨⟨⟨⟨⟨rfl, rfl⟩, h1⟩, h2⟩, h3⟩, h4⟩, hS⟩, h5⟩ := ok
      obtain ⟨to, po, ro⟩ := sndP y p o h3
      obtain ⟨to', po', ro'⟩ := sndP y p o' h4
      obtain ⟨te, pe, re⟩ := (sndE y e c v h5).1
      refine ⟨_, fun X g => ?_, rs_fld2 y (by simpa using h1) (by simpa using h2) re ro ro'⟩
      have q := ps_asg (pos := pos) (pe X g.toGd) (pg_tup (n := 2) g.calm (pgs_cons (pg_fld (f := f') (pos := p1) (po X g.toGd)) (pgs_cons (pg_fld (f := g') (pos := p2) (po' X g.toGd)) pgs_nil)) (k := kk) (pos := p3)) (swap_not (t := .Tuple [.Attribute o f' p1, .Attribute o' g' p2] kk p3) (ln := pos.line) (env := X.env) trivial) (stores_none hS)
      rw [g.K] at q
      exact q
    · cases ok
  | .fld p f e, c, s, ok => by
    unfold okS at ok
    split at ok
    · rename_i o gn p1 v pos
      simp only [Bool.and_eq_true, decide_eq_true_eq] at ok
      obtain ⟨⟨⟨rfl, h1⟩, h2⟩, h3⟩ := ok
      obtain ⟨to, po, ro⟩ := sndP y p o h2
      obtain ⟨te, pe, re⟩ := (sndE y e c v h3).1
      refine ⟨_, fun X g => ?_, rs_fld y (by simpa using h1) re ro⟩
      have q := ps_fld (pos := pos) (pos' := p1) (f := gn) (po X g.toGd) (pe X g.toGd) (swap_not (t := .Attribute o gn p1) (ln := pos.line) (env := X.env) trivial)
      rw [g.K] at q
      exact q
    · cases ok
  | .fldaug p f op e, c, s, ok => by
    unfold okS at ok
    split at ok
    · rename_i o gn p1 oo v pos
      simp only [Bool.and_eq_true, decide_eq_true_eq] at ok
      obtain ⟨⟨⟨⟨rfl, h1⟩, h0⟩, h2⟩, h3⟩ := ok
      cases opIs_eq h0
      obtain ⟨to, po, ro⟩ := sndP y p o h2
      obtain ⟨te, pe, re⟩ := (sndE y e c v h3).1
      have h1 : gn ∈ Y.I.fld := by simpa using h1
      cases op with
      | add =>
        refine ⟨_, fun X g => ?_, rs_fldaug y h1 (.inl rfl) re ro⟩
        have q := ps_fldaug (pos := pos) (tpos := p1) (f := gn) (po X g.toGd) (pe X g.toGd) in_add
        rw [g.K] at q
        exact q
      | sub =>
        refine ⟨_, fun X g => ?_, rs_fldaug y h1 (.inr rfl) re ro⟩
        have q := ps_fldaug (pos := pos) (tpos := p1) (f := gn) (po X g.toGd) (pe X g.toGd) in_sub
        rw [g.K] at q
        exact q
      | _ =>
        refine ⟨tNever, fun X g => ps_never, fun np σ H h sl rt vs F r rl hv D k => ?_⟩
        unfold ex at hv
        split at hv
        · split at hv
          · split at hv <;> cases hv
          · cases hv
        · cases hv
    · cases ok
  | .augx p x op e, c, s, ok => by
    unfold okS at ok
    split at ok
    · rename_i o i p1 oo v pos
      simp only [Bool.and_eq_true] at ok
      obtain ⟨⟨⟨⟨h0, h1⟩, h2⟩, h3⟩, h4⟩ := ok
      cases opIs_eq h1
      obtain ⟨to, po, ro⟩ := sndP y p o h2
      obtain ⟨ti, pi, ri⟩ := sndX y x i h3
      obtain ⟨te, pe, re⟩ := (sndE y e c v h4).1
      have ha : ∀ ov iv new, augStore i ov iv new = (do holding [new, ov, iv] (setItem ov iv new); release [new, ov, iv] []; pure .next) := by
        intros
        cases i <;> first | rfl | (cases h0; done)
      cases op with
      | add =>
        refine ⟨_, fun X g => ?_, rs_augx (.inl rfl) re ro ri⟩
        have q := ps_augS (pos := pos) (tpos := p1) (po X g.toGd) (pi X g.toGd) (pget_list (X := X)) (pe X g.toGd) ip_add set_list ha
        rw [g.K] at q
        exact q
      | sub =>
        refine ⟨_, fun X g => ?_, rs_augx (.inr rfl) re ro ri⟩
        have q := ps_augS (pos := pos) (tpos := p1) (po X g.toGd) (pi X g.toGd) (pget_list (X := X)) (pe X g.toGd) ip_sub set_list ha
        rw [g.K] at q
        exact q
      | _ =>
        refine ⟨tNever, fun X g => ps_never, fun np σ H h sl rt vs F r rl hv D k => ?_⟩
        unfold ex at hv
        split at hv
        · split at hv <;> cases hv
        · cases hv
    · cases ok
  | .ext i e, c, s, ok => by
    unfold okS at ok
    split at ok
    · rename_i o m ap v cp pos
      simp only [Bool.and_eq_true, decide_eq_true_eq] at ok
      obtain ⟨⟨⟨⟨rfl, h1⟩, h2⟩, h3⟩, h4⟩ := ok
      obtain ⟨te, pe, re⟩ := (sndE y e c v h4).1
      obtain ⟨x, px, rfl, o1, o2, o3⟩ := okP_var h2
      refine ⟨_, fun X g => ?_, rs_ext re⟩
      have q := ps_expr (pos := pos) (pe_bm PySem.F.plainAttrs_list PySem.F.slot_list_extend PySem.F.type_list_extend mt_extend (g.toGd.var (pos := px) o1 o2 o3) (pa_one h3 (pe X g.toGd)) (path_base h2) (few h3) h1 (star_cons h3) rfl) rfl
      rw [g.K] at q
      exact q
    · cases ok
  | .ex e, c, s, ok => by
    unfold okS at ok
    split at ok
    · rename_i v pos
      rw [Bool.and_eq_true] at ok
      obtain ⟨te, pe, re⟩ := (sndE y e c v ok.2).1
      exact ⟨_, fun X g => ps_expr (pe X g.toGd) (swap_none ok.1), rs_ex re⟩
    · cases ok
  | .ite e a b, c, s, ok => by
    unfold okS at ok
    split at ok
    · rename_i t p q pos
      simp only [Bool.and_eq_true] at ok
      obtain ⟨⟨⟨h1, h2⟩, h3⟩, h4⟩ := ok
      obtain ⟨_, s1⟩ := sndE y e c t h2
      obtain ⟨tc, pc, rc⟩ := s1 h1
      obtain ⟨ta, pa, ra⟩ := sndSs y a c p h3
      obtain ⟨tb, pb, rb⟩ := sndSs y b c q h4
      exact ⟨_, fun X g => ps_if (pc X g.toGd).1 (pa X g) (pb X g), rs_ite rc ra rb⟩
    · cases ok
  | .fr tg it b, c, s, ok => by
    unfold okS at ok
    split at ok
    · rename_i t iter body pos
      simp only [Bool.and_eq_true] at ok
      obtain ⟨⟨⟨h1, h2⟩, h3⟩, h4⟩ := ok
      obtain ⟨wi, pi, ri⟩ := sndI y it c t iter h2
      obtain ⟨g0, pg, rg⟩ := sndTg (Y := Y) tg c t h3
      obtain ⟨tb, pb, rb⟩ := sndSs y b c body h4
      exact ⟨_, fun X g => ps_for (never g.toGd) g.calm (pi X g.toGd) (pg X g.toGd) (pb X g) (fold_plain (okI_set h2)), rs_fr ri rg rb h1⟩
    · cases ok
  | .frV tg i b, c, s, ok => by
    unfold okS at ok
    split at ok
    · rename_i t iter body pos
      simp only [Bool.and_eq_true] at ok
      obtain ⟨⟨h1, h2⟩, h3⟩ := ok
      obtain ⟨x, px, rfl, o1, o2, o3⟩ := okP_var h1
      obtain ⟨g0, pg, rg⟩ := sndTg (Y := Y) tg c t h2
      obtain ⟨tb, pb, rb⟩ := sndSs y b c body h3
      refine ⟨_, fun X g => ?_, rs_frV rg rb⟩
      have q := ps_for (pos := pos) (never g.toGd) g.calm (pi_list (g.toGd.var (pos := px) o1 o2 o3)) (pg X g.toGd) (pb X g) (fold_plain rfl)
      rw [g.K] at q
      exact q
    · cases ok
  | .wh e b, c, s, ok => by
    unfold okS at ok
    split at ok
    · rename_i t body pos
      simp only [Bool.and_eq_true] at ok
      obtain ⟨⟨h1, h2⟩, h3⟩ := ok
      obtain ⟨_, s1⟩ := sndE y e c t h2
      obtain ⟨tc, pc, rc⟩ := s1 h1
      obtain ⟨tb, pb, rb⟩ := sndSs y b c body h3
      exact ⟨_, fun X g => ps_while (never g.toGd) (pc X g.toGd).1 (pb X g), rs_wh rc rb⟩
    · cases ok
  | .ret e, c, s, ok => by
    unfold okS at ok
    split at ok
    · obtain ⟨te, pe, re⟩ := (sndE y e c _ ok).1
      exact ⟨_, fun X g => ps_ret (pe X g.toGd), rs_ret re⟩
    · cases ok
  | .retN, c, s, ok => by
    unfold okS at ok
    split at ok
    · refine ⟨_, fun X g => ps_retN, fun np σ H h sl rt vs F r rl hv D k => ?_⟩
      unfold ex at hv
      cases hv
      exact k .non σ H h vs F [] Stp.refl rl .refl (.cl .non) (fun a z => absurd z (by simp)) fun a z => absurd z (by simp)
    · cases ok
  | .brk, c, s, ok => by
    unfold okS at ok
    split at ok
    · refine ⟨_, fun X g => ps_break, fun np σ H h sl rt vs F r rl hv D k => ?_⟩
      unfold ex at hv
      cases hv
      exact k σ H h vs F Stp.refl rl .refl
    · cases ok
  | .ct, c, s, ok => by
    unfold okS at ok
    split at ok
    · refine ⟨_, fun X g => ps_continue, fun np σ H h sl rt vs F r rl hv D k => ?_⟩
      unfold ex at hv
      cases hv
      exact k σ H h vs F Stp.refl rl .refl
    · cases ok
  | .nop, c, s, ok => by
    have rr : RS Y .nop tNext := fun np σ H h sl rt vs F r rl hv D k => by
      unfold ex at hv
      cases hv
      exact k σ H h vs F Stp.refl rl .refl
    unfold okS at ok
    split at ok
    · exact ⟨_, fun X g => ps_pass, rr⟩
    · exact ⟨_, fun X g => ps_doc, rr⟩
    · cases ok
  | .never, c, s, ok => ⟨tNever, fun X g => ps_never, fun np σ H h sl rt vs F r rl hv D k => by
      unfold ex at hv
      cases hv⟩
theorem sndSs (y : Y.Ok) : ∀ (s : Ss) (c : Ck) (a : List Stmt), okSs Y.I c s a = true → SSs Y c s a
  | .nil, c, a, ok => by
    unfold okSs at ok
    split at ok
    · refine ⟨_, fun X g => pss_nil, fun np σ H h sl rt vs F r rl hv D k => ?_⟩
      unfold exs at hv
      cases hv
      exact k σ H h vs F Stp.refl rl .refl
    · cases ok
  | .cons s r, c, a, ok => by
    unfold okSs at ok
    split at ok
    · rename_i x xs
      rw [Bool.and_eq_true] at ok
      obtain ⟨t, p, rr⟩ := sndS y s c x ok.1
      obtain ⟨u, q, ru⟩ := sndSs y r c xs ok.2
      refine ⟨tSeq t u, fun X g => pss_cons (p X g) (q X g), fun np σ H h sl rt vs F res rl hv D k => ?_⟩
      unfold exs at hv
      split at hv
      · rename_i sl1 rt1 e1
        exact rr np σ H h sl rt vs F _ rl e1 _ fun σ' H' h' vs' F' st1 rl1 kp1 => ru np σ' H' h' sl1 rt1 vs' F' res rl1 hv D (k.thn st1 kp1 (fun j m => List.mem_append_left _ m) fun j m => List.mem_append_right _ m)
      · rename_i hn
        refine rr np σ H h sl rt vs F _ rl hv _ ?_
        obtain ⟨fl, sl', rt'⟩ := res
        cases fl with
        | nx => exact absurd hv (hn sl' rt')
        | bk => exact fun σ' H' h' vs' F' s2 rl k2 => k σ' H' h' vs' F' s2 rl (k2.sup fun j m => List.mem_append_left _ m)
        | ct => exact fun σ' H' h' vs' F' s2 rl k2 => k σ' H' h' vs' F' s2 rl (k2.sup fun j m => List.mem_append_left _ m)
        | rt t => exact fun v σ' H' h' vs' F' G s2 rl k2 => k v σ' H' h' vs' F' G s2 rl (k2.sup fun j m => List.mem_append_left _ m)
    · cases ok
end
end
end Mi
namespace Mi
open PySem PySem.Spec PyProof.Rows L2
section
variable {K : PySem.W.Frag} {C : Nat → Addr} {h H h' H' : Hp}
theorem OwnR.ofOwns : ∀ {vs : List V} {ts : List T} {F : List Addr} (n : Nat), Owns K C h H vs ts F → ∃ F', OwnR K C h H (vs ++ List.replicate n .non) (ts.map some ++ List.replicate n none) F' ∧ ∀ a, a ∈ F' ↔ a ∈ F
  | _, _, _, 0, .nil => ⟨[], .nil, fun a => Iff.rfl⟩
  | _, _, _, n + 1, .nil => by
    obtain ⟨F', o, s⟩ := OwnR.ofOwns n (.nil (K := K) (C := C) (h := h) (H := H))
    exact ⟨F', .no o, s⟩
  | _, _, _, n, .cons (F := F) (G := G) p r dj => by
    obtain ⟨F', o, s⟩ := OwnR.ofOwns n r
    exact ⟨F ++ F', .cons p o fun a z z' => dj a z ((s a).mp z'), fun a => by rw [List.mem_append, List.mem_append, s a]⟩
theorem OwnR.takeN : ∀ {vs : List V} {rt : Rt} {F : List Addr} (n : Nat) {ts : List T}, OwnR K C h H vs rt F → somes (rt.take n) = some ts → ∃ F', Owns K C h H (vs.take n) ts F' ∧ ∀ a, a ∈ F' → a ∈ F
  | _, _, _, 0, ts, o, e => by
    cases e
    exact ⟨[], .nil, fun a z => absurd z (by simp)⟩
  | _, _, _, n + 1, ts, .nil, e => by
    cases e
    exact ⟨[], .nil, fun a z => absurd z (by simp)⟩
  | _, _, _, n + 1, ts, .no r, e => by cases e
  | _, _, _, n + 1, ts, .cons (F := F) (G := G) p r dj, e => by
    rw [List.take_succ_cons] at e
    obtain ⟨us, e1, rfl⟩ := Option.map_eq_some_iff.mp (show (somes _).map _ = some ts from e)
    obtain ⟨F', o, s⟩ := OwnR.takeN n r e1
    exact ⟨F ++ F', .cons p o fun a z z' => dj a z (s a z'), fun a z => (List.mem_append.mp z).elim (List.mem_append_left _) fun z => List.mem_append_right _ (s a z)⟩
theorem Stp.conv {F F' G G' : List Addr} (x : Stp F h H F' h' H') (e : ∀ a, a ∈ F ↔ a ∈ G) (s : ∀ a, a ∈ G' → a ∈ F') : Stp G h H G' h' H' :=
  ⟨fun a o e1 n => x.keep a o e1 fun z => n ((e a).mp z), x.up, fun a o n e1 => (x.new a o n e1).imp (e a).mp id, fun a z => (x.fp a (s a z)).imp (e a).mp id⟩
theorem startSl_at {np ns i : Nat} {s : S} (e : (startSl np ns)[i]? = some (some s)) : i < np ∧ s = .r i := by
  unfold startSl at e
  by_cases hi : i < np
  · rw [List.getElem?_append_left (by simpa using hi)] at e
    rw [List.getElem?_map, List.getElem?_range hi] at e
    cases e
    exact ⟨hi, rfl⟩
  · rw [List.getElem?_append_right (by simpa using Nat.not_lt.mp hi)] at e
    obtain ⟨h1, h2⟩ := List.getElem?_eq_some_iff.mp e
    rw [List.getElem_replicate] at h2
    cases h2
end
structure Card (P : Program) (w : World) (K : PySem.W.Frag) (mg : Str → Option Value) (I : Inf) (C : Nat → Addr) (f : Nat) (fn : Fn) (a : Addr) (fd : FuncData) (ps : List Str) : Prop where
  nm : ∀ x, I.fnm[f]? = some x → x ≠ "" → mg x = some (.ref a) ∧ PySem.W.keepIn K (.ref a) = true
  mth : ∀ c m, (f, c, m) ∈ I.mth → Meth K (C c) m a
  prp : ∀ c m, (f, c, m) ∈ I.prp → ∃ pp, PropOf K (C c) m pp a
  ini : ∀ c, (f, c) ∈ I.ini → Mk K (C c) a
  pat : ∀ n ks pm, (f, n, ks, pm) ∈ I.pat → PatOk K fd ps n ks pm
  str : ∀ n, (f, n) ∈ I.str → StarOk fd ps n
  opr : ∀ c op, (f, c, op) ∈ I.opr → OprOk K (C c) op a
  pad : ∀ n ks dv pm, (f, n, ks, dv, pm) ∈ I.pad → ∃ its dvs, PadOk K fd ps n ks its pm ∧ Vals dvs its ∧ ∀ h, Reps K C h dvs (dv.map Dv.d)
  body : ∃ oc od osl name qual params body scope dV kV doc pm an cdv ct N, fd = PySem.W.fnOf name qual params body scope dV kV doc pm an cdv ct ∧ K.lookup a = some ⟨oc, od, .func (PySem.W.fnOf name qual params body scope dV kV doc pm an cdv ct), osl⟩ ∧
    PySem.W.codeIn K cdv qual = true ∧ FnScope N ps scope ∧ fn.np = ps.length ∧ fn.ns = N.length ∧ okSs I ⟨scope, N, fun _ => true⟩ fn.body body = true
section
variable {P : Program} {w : World} {K : PySem.W.Frag} {mg : Str → Option Value} {base : Heap} {I : Inf} {C : Nat → Addr} {G : List Fn}
theorem run_eq {g : List (Str × D)} {F : Fs} {fn : Fn} {ts ts' : List T} {r : T} (e : runFn g F fn ts = some (r, ts')) : ts.length = fn.np ∧ ∃ fl sl' rt', exs ⟨F, fn.np, g⟩ fn.body (startSl fn.np fn.ns) (startRt fn.ns ts) = some (fl, sl', rt') ∧ somes (rt'.take fn.np) = some ts' ∧ (fl = .rt r ∨ (fl = .nx ∧ r = .cl .non)) := by
  unfold runFn at e
  split at e
  · rename_i hl
    refine ⟨hl, ?_⟩
    split at e
    · rename_i t sl' rt' he
      obtain ⟨as, e1, e2⟩ := Option.map_eq_some_iff.mp e
      cases e2
      exact ⟨_, _, _, he, e1, .inl rfl⟩
    · rename_i sl' rt' he
      obtain ⟨as, e1, e2⟩ := Option.map_eq_some_iff.mp e
      cases e2
      exact ⟨_, _, _, he, e1, .inr ⟨rfl, rfl⟩⟩
    · cases e
  · cases e
theorem card_fok {k d : Nat} (y : Fx.Ok ⟨P, w, K, mg, base, I, C, k, sem I.glb G d⟩) {f : Nat} {fn : Fn} {a : Addr} {fd : FuncData} {ps : List Str} (hG : G[f]? = some fn) (cd : Card P w K mg I C f fn a fd ps) :
    FOk P w K mg base (k + 2) a fd ps (spF K C (sem I.glb G (d + 1)) f) := by
  obtain ⟨_, _, _, _, _, _, _, _, oc, od, osl, name, qual, params, body, scope, dV, kV, doc, pm, an, cdv, ct, N, rfl, hf, hc, S, hnp, hns, ok⟩ := cd
  have hsem : ∀ ts, sem I.glb G (d + 1) f ts = runFn I.glb (sem I.glb G d) fn ts := fun ts => by
    show (match G[f]? with | none => none | some fn => runFn I.glb (sem I.glb G d) fn ts) = _
    rw [hG]
  refine fok_of hf hc S (fun vs H Q sp => ?_) fun A outer s H vs Q room grd sp => ?_
  · obtain ⟨h, ts, Fp, r, ts', _, ow, e, _⟩ := sp
    rw [hsem] at e
    rw [ow.length, (run_eq e).1, hnp]
  · obtain ⟨h, ts, Fp, r, ts', sub, ow, e, kk⟩ := sp
    rw [hsem] at e
    obtain ⟨hl, fl, sl', rt', he, hs, hr⟩ := run_eq e
    obtain ⟨t, p, rr⟩ := sndSs y fn.body ⟨scope, N, fun _ => true⟩ body ok
    refine ⟨t, p _ ⟨⟨rfl, rfl, rfl, rfl, rfl, rfl, rfl, S.nd, rfl, rfl, grd, room, fun _ _ => rfl⟩, S.kind⟩, ?_⟩
    have hvl : vs.length = fn.np := ow.length.trans hl
    have hN : ps.length ≤ N.length := by
      have := congrArg List.length S.pre
      rw [List.length_take] at this
      omega
    obtain ⟨F0, o0, s0⟩ := OwnR.ofOwns fn.ns ow
    have hsl : (L2.start N vs).length = (startSl fn.np fn.ns).length := by
      unfold L2.start startSl
      rw [List.length_append, List.length_append, List.length_map, List.length_map, List.length_replicate, List.length_replicate, List.length_range, hvl, hns]
    have rel : Rel K C (L2.start N vs) H h (startSl fn.np fn.ns) (startRt fn.ns ts) (vs ++ List.replicate fn.ns .non) F0 := by
      refine ⟨sub, o0, fun i s e => ?_, hsl⟩
      obtain ⟨hi, rfl⟩ := startSl_at e
      have hi' : i < vs.length := by rw [hvl]; exact hi
      refine ⟨vs[i], ?_, ?_⟩
      · unfold L2.start
        rw [List.getElem?_append_left (by simpa using hi'), List.getElem?_map, List.getElem?_eq_getElem hi']
        rfl
      · show (vs ++ List.replicate fn.ns .non)[i]? = some vs[i]
        rw [List.getElem?_append_left hi', List.getElem?_eq_getElem hi']
    have fin : ∀ v σ' H' h' vs' F' Gg, Stp F0 h H F' h' H' → Rel K C σ' H' h' sl' rt' vs' F' → Kept fn.np fn.body.stores (vs ++ List.replicate fn.ns .non) vs' → Own K C h' H' v r Gg → (∀ a, a ∈ Gg → a ∉ F') → (∀ a, a ∈ Gg → a ∈ F0 ∨ H a = none) → Q v H' := by
      intro v σ' H' h' vs' F' Gg st rl kp own dj fr
      obtain ⟨F2, o2, s2⟩ := rl.own.takeN fn.np hs
      have ev : vs'.take fn.np = vs := by
        rw [kp.take, ← hvl, List.take_left']
        rfl
      rw [ev] at o2
      exact kk v H' h' F2 Gg (st.conv s0 s2) rl.sub o2 own (fun a z z' => dj a z (s2 a z')) fun a z => (fr a z).imp (s0 a).mp id
    refine rr fn.np (L2.start N vs) H h _ _ _ F0 _ rel he _ ?_
    rcases hr with rfl | ⟨rfl, rfl⟩
    · exact fun v σ' H' h' vs' F' Gg st rl kp own dj fr => fin v σ' H' h' vs' F' Gg st rl kp own dj fr
    · exact fun σ' H' h' vs' F' st rl kp => fin .non σ' H' h' vs' F' [] st rl kp (.cl .non) (fun a z => absurd z (by simp)) fun a z => absurd z (by simp)
theorem tower (blt : ∀ x, x ∈ bltNames → mg x = none) (glb : ∀ x d, I.glb.lookup x = some d → ∃ v u, mg x = some u ∧ RelV v u ∧ ∀ h, Rep K C h v d) (fld : ∀ c f, f ∈ I.fld → Cls K (C c) ∧ NoAttr K (C c) f)
    (cls : I.cls ≠ [] → ∀ c, Cls K (C c)) (cnm : ∀ c x, I.cls[c]? = some x → mg x = some (.ref (C c)))
    (isi : I.isc = true → (∀ c, IsiC K (C c)) ∧ ∀ c c', c < I.cls.length → c' < I.cls.length → PySem.W.kitOne K (.ref (C c')) (.ref (C c)) = some (c' == c))
    (cards : ∀ f, f < I.fnm.length → ∃ fn a fd ps, G[f]? = some fn ∧ Card P w K mg I C f fn a fd ps) : ∀ d, Fx.Ok ⟨P, w, K, mg, base, I, C, 2 * d, sem I.glb G d⟩
  | 0 => by
    refine ⟨blt, glb, fld, cls, cnm, isi, fun f e => ?_⟩
    obtain ⟨fn, a, fd, ps, hG, cd⟩ := cards f e
    refine ⟨a, fd, ps, ⟨fun vs H Q sp => ?_, fun A outer s H args Q G _ _ _ _ ne sp => ?_⟩, cd.nm, cd.mth, cd.prp, cd.ini, cd.pat, cd.str, cd.opr, cd.pad⟩
    · obtain ⟨h, ts, Fp, r, ts', _, _, e, _⟩ := sp
      cases e
    · obtain ⟨vs, H2, g⟩ := ne
      obtain ⟨h, ts, Fp, r, ts', _, _, e, _⟩ := sp vs H2 g
      cases e
  | d + 1 => by
    have ih := tower blt glb fld cls cnm isi cards d
    refine ⟨blt, glb, fld, cls, cnm, isi, fun f e => ?_⟩
    obtain ⟨fn, a, fd, ps, hG, cd⟩ := cards f e
    exact ⟨a, fd, ps, card_fok ih hG cd, cd.nm, cd.mth, cd.prp, cd.ini, cd.pat, cd.str, cd.opr, cd.pad⟩
end
end Mi
namespace Mi
open PySem PySem.Spec PyProof.Rows L2
def Won (s1 : Shared) (r : Result) (s' : Shared) : Prop := r = .ok (.ret (.bool true)) ∧ OldK s1.heap s'.heap ∧ s'.os = s1.os ∧ AllBare s'.gens
section
variable {P : Program} {w : World} {K : PySem.W.Frag} {mg mb : Str → Option Value} {k : Nat} {fa a : Addr} {fd : FuncData} {x : Str} {sp : Sp0} {s1 : Shared} {us : List Value} {ns : List Int}
theorem head_core (hIn : K.In s1.heap) (hmg : s1.heap.Ns mainGlobals mg) (hmb : s1.heap.Ns builtinsNs mb) (hbt : ∀ x : Str, x ≠ "__name__" → mb x = bootBuiltins x) (lim : s1.heap.NoLimit) (noG : s1.gens = #[])
    (at1 : s1.heap.get? a = some { cls := .type "list", data := .seq us.toArray }) (room : Room k callerA) (F : ∀ base : Heap, K.In base → base.Ns mainGlobals mg → FOk P w K mg base k fa fd [x] sp)
    (bnd : ∀ (s : Shared) (u : Value), BindsTo s fd ⟨[u], []⟩ [(x, u)]) {H : Hp} (one : ∀ b, H b = none ∨ (b = a ∧ ∃ o xs, H b = some (.frz o (.lst xs)))) (hok : HOk P w H s1.heap) (notK : H a ≠ none → K.lookup a = none)
    (want : sp [.ref a] H fun v _ => v = .bl true) : codeAny (model P w) callerA (.call (.ref fa) ⟨[.ref a], []⟩) (Won s1) s1 := by
  have free : ∀ {b : Addr} {o : Obj}, s1.heap.get? b = some o → b ≠ a → (hidT s1.heap H).get? b = some o := fun {b o} e n => hidT_get e ((one b).resolve_right fun z => n z.1)
  have spaces : ∀ {b : Addr} {m : Str → Option Value}, s1.heap.Ns b m → (hidT s1.heap H).Ns b m := by
    rintro b m ⟨o, es, ep, e, d, r⟩
    refine ⟨o, es, ep, free e fun z => ?_, d, r⟩
    rw [z, at1] at e
    cases e
    cases d
  have inB : K.In (hidT s1.heap H) := by
    intro b o e
    by_cases z : b = a
    · refine hidT_get (hIn b o e) ?_
      rw [z] at e ⊢
      cases q : H a with
      | none => rfl
      | some u => rw [notK (by rw [q]; simp)] at e; cases e
    · exact free (hIn b o e) z
  have md : Mod K mg (hidT s1.heap H) := by
    refine ⟨inB, spaces hmg, ⟨mb, spaces hmb, hbt⟩, ?_⟩
    obtain ⟨mc, l1, l2⟩ := lim
    exact ⟨mc, spaces l1, l2⟩
  have e0 : Env0 P w K mg (hidT s1.heap H) callerA [] s1 H := by
    refine ⟨rfl, md, fun b o e => of_hidT e, Nat.le_of_eq (hidT_size _ _), trivial, fun b m => ?_, hok, .of_eq noG⟩
    exact absurd (show b ∈ ([] : List Addr) from m) (by simp)
  have go := (F _ inB (spaces hmg)).run0 callerA [] s1 H ⟨[.ref a], []⟩ [.ref a] [.ref a] _ room rfl e0 (bnd s1 (.ref a)) (.cons rfl .nil) want
  refine codeAny_mono go fun r s' q => ?_
  match r, q with
  | .error _, q => exact q.elim
  | .ok .next, q => exact q.elim
  | .ok .brk, q => exact q.elim
  | .ok .cont, q => exact q.elim
  | .ok (.ret u), q =>
    obtain ⟨v, H', hos, bare, un, hok', rel, hv⟩ := q
    have hv : v = .bl true := hv
    subst hv
    have hu : u = Value.bool true := rel
    subst hu
    refine ⟨rfl, OldK.of_keep fun b o e => ?_, hos, bare⟩
    rcases one b with q | ⟨_, ob, xs, q⟩
    · exact un.keep b o e q (fun z => absurd (show b ∈ ([] : List Addr) from z) (by simp)) (by simp)
    · obtain ⟨e1, _⟩ := hok b _ q
      obtain ⟨e2, _⟩ := hok' b _ (un.frzs b ob _ q)
      rw [e] at e1
      cases e1
      exact e2
theorem head_go (hIn : K.In s1.heap) (hmg : s1.heap.Ns mainGlobals mg) (hmb : s1.heap.Ns builtinsNs mb) (hbt : ∀ x : Str, x ≠ "__name__" → mb x = bootBuiltins x) (lim : s1.heap.NoLimit) (noG : s1.gens = #[])
    (at1 : s1.heap.get? a = some { cls := .type "list", data := .seq us.toArray }) (are : IntsAre us ns) (len : ns.length ≤ sizeLine) (room : Room k callerA)
    (F : ∀ base : Heap, K.In base → base.Ns mainGlobals mg → FOk P w K mg base k fa fd [x] sp) (bnd : ∀ (s : Shared) (u : Value), BindsTo s fd ⟨[u], []⟩ [(x, u)])
    (want : ∀ H : Hp, SqL K H a (ns.map V.int) → sp [.ref a] H fun v _ => v = .bl true) : codeAny (model P w) callerA (.call (.ref fa) ⟨[.ref a], []⟩) (Won s1) s1 := by
  have rv := vals_ints are
  cases inK : K.lookup a with
  | some o =>
    have e := hIn a o inK
    rw [at1] at e
    cases e
    refine head_core (H := fun _ => none) hIn hmg hmb hbt lim noG at1 room F bnd (fun _ => .inl rfl) (fun b u z => ?_) (fun z => absurd rfl z) (want _ (.inr ⟨_, us.toArray, _, inK, rfl, rfl, rfl, ?_, ?_⟩))
    · have z' : (none : Option HO) = some u := z
      cases z'
    · rw [List.size_toArray, are.length]
      exact len
    · simpa using rv
  | none =>
    refine head_core (H := fun b => if b = a then some (.frz { cls := .type "list", data := .seq us.toArray } (.lst (ns.map V.int))) else none) hIn hmg hmb hbt lim noG at1 room F bnd (fun b => ?_) (fun b u z => ?_) (fun _ => inK) (want _ (.inl (.inr ⟨_, if_pos rfl⟩)))
    · by_cases e : b = a
      · exact .inr ⟨e, _, _, if_pos e⟩
      · exact .inl (if_neg e)
    · by_cases e : b = a
      · have z' := (if_pos e).symm.trans z
        cases z'
        subst e
        exact ⟨at1, by rw [List.length_map]; exact len, us, _, rv, at1⟩
      · have z' := (if_neg e).symm.trans z
        cases z'
end
theorem walk_mi {l : PySem.W.OpenLaw} {k kd n : Nat} {q : Program} {loose : List Str} {XP : (Str → Option Value) → Heap → Prop} {YP : World → Heap → Prop} {d : DefRec} {Kf : Params → PySem.W.Frag} {x : Str} {I : Inf} {G : List Fn} {fl : Nat}
    (hn : l.most = some n) (hn2 : n ≤ sizeLine) (hdf : d.params.defaults = []) (room : Room k callerA) (hY : ∀ (w : World) (h : Heap), YP w h → (Kf w.params).In h)
    (F : ∀ (w : World) (mg : Str → Option Value) (fa : Addr) (h : Heap), (Kf w.params).In h → h.Ns mainGlobals mg → mg d.name = some (.ref fa) →
      ∃ (C : Nat → Addr) (fd : FuncData), (∀ (s : Shared) (u : Value), BindsTo s fd ⟨[u], []⟩ [(x, u)]) ∧ ∀ base : Heap, (Kf w.params).In base → base.Ns mainGlobals mg → FOk l.prog w (Kf w.params) mg base k fa fd [x] (spF (Kf w.params) C (sem I.glb G kd) fl))
    (pure : ∀ ns : List Int, ns.length ≤ n → ∃ ts, sem I.glb G kd fl [.cl (.scr ns)] = some (.cl (.bl true), ts)) : PySem.W.WalkO q loose XP YP l.row.toRowW d [] (fun f vs => PySem.call f vs) := by
  refine Att.attach_call hn hdf fun w s0 s1 mg mb fa o pm cd doc a us ns Gr Yy _ _ _ hmg at1 are len noG => ?_
  have hIn := hY w _ Yy
  obtain ⟨C, fd, bnd, hF⟩ := F w mg fa _ hIn Gr.T.g hmg
  refine head_go hIn Gr.T.g Gr.T.b Gr.T.builtins Gr.T.nolimit noG at1 are (Nat.le_trans len hn2) room hF bnd fun H hs => ?_
  obtain ⟨ts, e⟩ := pure ns len
  refine ⟨H, [.cl (.scr ns)], [] ++ [], .cl (.bl true), ts, Same.refl _, .cons (.cl (.scr hs)) .nil fun b z => absurd z (by simp), e, ?_⟩
  intro v H' h' F' Gg st sub ow own dj fr
  have rp := rep_d own
  cases rp
  rfl
end Mi
namespace Mi
open PySem PySem.Spec PyProof.Rows L2
theorem pys_map {α : Type} (f : α → D) (g : α → PyData) (h : ∀ x, (f x).py = some (g x)) : ∀ xs : List α, D.pys (xs.map f) = some (xs.map g)
  | [] => rfl
  | x :: xs => by
    rw [List.map_cons, List.map_cons]
    unfold D.pys
    rw [h, pys_map f g h xs]
theorem py_int (i : Int) : (D.int i).py = some (.int i) := by unfold D.py; rfl
theorem py_lst {xs : List D} {ps : List PyData} (h : D.pys xs = some ps) : (D.lst xs).py = some (.list ps) := by unfold D.py; rw [h]; rfl
theorem py_tup {xs : List D} {ps : List PyData} (h : D.pys xs = some ps) : (D.tup xs).py = some (.tuple ps) := by unfold D.py; rw [h]; rfl
theorem py_ints (xs : List Int) : D.pys (xs.map .int) = some (xs.map .int) := pys_map _ _ py_int xs
theorem lay_map {α : Type} (g : α → PyData) (h : ∀ x, (g x).canLay0 = true ∧ (g x).depth = 0) : ∀ xs : List α, PyData.canLayAll0 (xs.map g) = true ∧ PyData.depthAll (xs.map g) = 0
  | [] => ⟨by unfold PyData.canLayAll0; rfl, by unfold PyData.depthAll; rfl⟩
  | x :: xs => by
    obtain ⟨a, b⟩ := lay_map g h xs
    obtain ⟨c, d⟩ := h x
    rw [List.map_cons]
    refine ⟨?_, ?_⟩
    · unfold PyData.canLayAll0
      rw [c, a]; rfl
    · unfold PyData.depthAll
      rw [d, b]; rfl
theorem lay_int (i : Int) : (PyData.int i).canLay0 = true ∧ (PyData.int i).depth = 0 := ⟨by unfold PyData.canLay0; rfl, by unfold PyData.depth; rfl⟩
theorem shaped_lst {ps : List PyData} (h : PyData.canLayAll0 ps = true ∧ PyData.depthAll ps = 0) : SeqAt.shaped (.list ps) = true := by
  unfold SeqAt.shaped PyData.canLay0 PyData.depth
  rw [h.1, h.2]; rfl
theorem shaped_tup {ps : List PyData} (h : PyData.canLayAll0 ps = true ∧ PyData.depthAll ps = 0) : SeqAt.shaped (.tuple ps) = true := by
  unfold SeqAt.shaped PyData.canLay0 PyData.depth
  rw [h.1, h.2]; rfl
theorem shaped_int (i : Int) : SeqAt.shaped (.int i) = true := by
  unfold SeqAt.shaped
  rw [(lay_int i).1, (lay_int i).2]; rfl
theorem eqv_ints : ∀ xs ys : List Int, PyData.eqvAll (xs.map .int) (ys.map .int) = decide (xs = ys)
  | [], [] => by simp [PyData.eqvAll]
  | x :: xs, [] => by simp [PyData.eqvAll]
  | [], y :: ys => by simp [PyData.eqvAll]
  | x :: xs, y :: ys => by
    rw [List.map_cons, List.map_cons]
    unfold PyData.eqvAll
    rw [eqv_ints xs ys]
    by_cases h : x = y <;> by_cases h' : xs = ys <;> simp [PyData.eqv, h, h']
theorem eqD_int (i j : Int) : eqD (.int i) (.int j) = some (decide (i = j)) := by
  unfold eqD
  rw [py_int, py_int]
  simp only
  rw [shaped_int, shaped_int, Bool.and_self, if_pos rfl]
  simp only [PyData.eqv]
  by_cases h : i = j <;> simp [h]
theorem eqD_ints (xs ys : List Int) : eqD (.lst (xs.map .int)) (.lst (ys.map .int)) = some (decide (xs = ys)) := by
  unfold eqD
  rw [py_lst (py_ints xs), py_lst (py_ints ys)]
  simp only
  rw [shaped_lst (lay_map _ lay_int xs), shaped_lst (lay_map _ lay_int ys), Bool.and_self, if_pos rfl]
  simp only [PyData.eqv]
  rw [eqv_ints]
theorem ds_ti : ∀ xs : List D, T.ds (cls xs) = xs
  | [] => rfl
  | x :: xs => by
    unfold cls
    rw [List.map_cons]
    unfold T.ds
    have := ds_ti xs
    unfold cls at this
    rw [this]
    rfl
theorem d_ls (xs : List D) : (T.ls (cls xs)).d = .lst xs := by
  show D.lst (T.ds (cls xs)) = _
  rw [ds_ti]
theorem intsOf_map : ∀ xs : List Int, intsOf (xs.map .int) = some xs
  | [] => rfl
  | x :: xs => by
    rw [List.map_cons]
    unfold intsOf
    rw [intsOf_map xs]
    rfl
theorem oB_mul {i j : Int} (h : mulOk i j = true) : opB .mul (.int i) (.int j) = some (.cl (.int (i * j))) := by
  show (if mulOk i j = true then _ else _) = _
  rw [if_pos h]
theorem oB_mod {i j : Int} (h : j ≠ 0) : opB .mod (.int i) (.int j) = some (.cl (.int (i.fmod j))) := by
  show (if j = 0 then _ else _) = _
  rw [if_neg h]
theorem oB_div {i j : Int} (h : j ≠ 0) (h2 : j.natAbs.log2 < 9000) : opB .fdiv (.int i) (.int j) = some (.cl (.int (i.fdiv j))) := by
  show (if j = 0 ∨ 9000 ≤ j.natAbs.log2 then _ else _) = _
  rw [if_neg (by omega)]
theorem oC_eq (a b : D) : opC .eq a b = eqD a b := by cases a <;> rfl
theorem oC_ne (a b : D) : opC .ne a b = (eqD a b).map (!·) := by cases a <;> rfl
end Mi
namespace Mi
open PySem L2
theorem log2_of {n k : Nat} (h : n < 2 ^ k) (hk : 0 < k) : n.log2 < k := by
  by_cases h0 : n = 0
  · subst h0
    simpa using hk
  · exact (Nat.log2_lt h0).mpr h
theorem mulOk_of {i j : Int} (hi : i.natAbs < 2 ^ 64) (hj : j.natAbs < 2 ^ 64) : mulOk i j = true := by
  unfold mulOk
  have h1 := log2_of hi (by decide)
  have h2 := log2_of hj (by decide)
  exact decide_eq_true (by omega)
def dInt (x : Int) : T := .cl (.int x)
def dk (left : List Int) (b c : Int) : T := .ls [.ls (left.map dInt), .cl (.int b), .cl (.int c)]
theorem at2 (left : List Int) (b c : Int) : atI [T.ls (left.map dInt), .cl (.int b), .cl (.int c)] 2 = some (.cl (.int c)) := rfl
theorem at0 (L : T) (b c : Int) : atI [L, .cl (.int b), .cl (.int c)] 0 = some L := rfl
theorem at1 (L : T) (b c : Int) : atI [L, .cl (.int b), .cl (.int c)] 1 = some (.cl (.int b)) := rfl
theorem leaves_d : ∀ xs : List Int, T.leaves (xs.map dInt) = some (xs.map .int)
  | [] => rfl
  | x :: xs => by
    rw [List.map_cons]
    show (T.leaves (xs.map dInt)).map _ = _
    rw [leaves_d xs]
    rfl
theorem cls_dInt (xs : List Int) : cls (xs.map .int) = xs.map dInt := by
  unfold cls
  rw [List.map_map]
  rfl
end Mi
namespace Mi
open PySem L2
theorem ev_lc_of {c : Cfg} {mv : Bool} {sl : Sl} {own : List Nat} {tg : Tg} {it : It} {cond elt : E} {rt rt1 rt2 : Rt} {xs : List D} {ts : List T} (h1 : evI c sl it rt = some (xs, rt1))
    (h2 : lcGo (fun x => bind (wip sl own) tg x) (fun sl rt => tstOf (ev c false sl cond rt)) (fun sl rt => ev c false sl elt rt) xs [] rt1 = some (ts, rt2)) : ev c mv sl (.lc own tg it cond elt) rt = some (.ls ts, rt2) := by
  unfold ev
  rw [h1]
  simp only
  rw [h2]
theorem evI_rng1_of {c : Cfg} {sl : Sl} {a : E} {rt rt1 : Rt} {n : Int} (h1 : ev c false sl a rt = some (.cl (.int n), rt1)) (h2 : inRng n = true) : evI c sl (.rng1 a) rt = some (rngD 0 n.toNat, rt1) := by
  unfold evI
  rw [h1]
  simp only
  rw [if_pos h2]
theorem evI_rng2_of {c : Cfg} {sl : Sl} {a b : E} {rt rt1 rt2 : Rt} {m n : Int} (h1 : ev c false sl a rt = some (.cl (.int m), rt1)) (h2 : ev c false sl b rt1 = some (.cl (.int n), rt2)) (h3 : inRng m = true) (h4 : inRng n = true) : evI c sl (.rng2 a b) rt = some (rngD m (n - m).toNat, rt2) := by
  unfold evI
  rw [h1]
  simp only
  rw [h2]
  simp only
  rw [h3, h4, Bool.and_self, if_pos rfl]
theorem ex_fr_of {c : Cfg} {tg : Tg} {it : It} {b : Ss} {sl sl' : Sl} {rt rt1 rt2 : Rt} {xs : List D} {f : Fl} (h1 : evI c sl it rt = some (xs, rt1)) (h2 : forGo (fun sl x => bind sl tg x) (fun sl rt => exs c b sl rt) xs sl rt1 = some (f, sl', rt2)) : ex c (.fr tg it b) sl rt = some (f, sl', rt2) := by
  unfold ex
  rw [h1]
  exact h2
theorem exs_nx {c : Cfg} {s : St} {r : Ss} {sl sl' : Sl} {rt rt' : Rt} {o : R3} (h1 : ex c s sl rt = some (.nx, sl', rt')) (h2 : exs c r sl' rt' = o) : exs c (.cons s r) sl rt = o := by
  unfold exs
  rw [h1]
  exact h2
theorem ex_ite_of {c : Cfg} {e : E} {a b : Ss} {sl : Sl} {rt rt1 : Rt} {v : Bool} {o : R3} (h1 : ev c false sl e rt = some (.cl (.bl v), rt1)) (h2 : (if v then exs c a sl rt1 else exs c b sl rt1) = o) : ex c (.ite e a b) sl rt = o := by
  unfold ex
  rw [h1]
  cases v
  · exact h2
  · exact h2
theorem ex_asg_of {c : Cfg} {i : Nat} {e : E} {sl sl' : Sl} {rt rt1 rt2 : Rt} {t : T} (h1 : ev c false sl e rt = some (t, rt1)) (h2 : store c i t sl rt1 = some (sl', rt2)) : ex c (.asg i e) sl rt = some (.nx, sl', rt2) := by
  unfold ex
  rw [h1]
  simp only
  rw [h2]
  rfl
theorem inRng_of {n : Int} (h1 : -(2 ^ 62) ≤ n) (h2 : n < 2 ^ 62) : inRng n = true := by
  unfold inRng
  rw [decide_eq_true h1, decide_eq_true h2]
  rfl
end Mi
namespace Mi
open PySem L2
structure We (c : Cfg) (mv : Bool) (sl : Sl) (e : E) (rt : Rt) (Q : T → Rt → Prop) : Prop where out : ∃ t rt', ev c mv sl e rt = some (t, rt') ∧ Q t rt'
structure Wes (c : Cfg) (mv : Bool) (sl : Sl) (e : Es) (rt : Rt) (Q : List T → Rt → Prop) : Prop where out : ∃ t rt', evs c mv sl e rt = some (t, rt') ∧ Q t rt'
structure Wa (c : Cfg) (sl : Sl) (e : Es) (rt : Rt) (Q : List (D ⊕ Nat) → Rt → Prop) : Prop where out : ∃ t rt', evA c sl e rt = some (t, rt') ∧ Q t rt'
structure Wi (c : Cfg) (sl : Sl) (e : It) (rt : Rt) (Q : List D → Rt → Prop) : Prop where out : ∃ t rt', evI c sl e rt = some (t, rt') ∧ Q t rt'
structure Ws (c : Cfg) (ss : Ss) (sl : Sl) (rt : Rt) (Q : Fl → Sl → Rt → Prop) : Prop where out : ∃ f sl' rt', exs c ss sl rt = some (f, sl', rt') ∧ Q f sl' rt'
structure Wx (c : Cfg) (s : St) (sl : Sl) (rt : Rt) (Q : Fl → Sl → Rt → Prop) : Prop where out : ∃ f sl' rt', ex c s sl rt = some (f, sl', rt') ∧ Q f sl' rt'
structure Ob (op : BOp) (x y : D) (K : T → Prop) : Prop where out : ∃ t, opB op x y = some t ∧ K t
structure Oc (op : COp) (x y : D) (K : Bool → Prop) : Prop where out : ∃ t, opC op x y = some t ∧ K t
structure Of (f : F1) (x : D) (K : T → Prop) : Prop where out : ∃ t, f1D f x = some t ∧ K t
structure Wc (F : Fs) (f : Nat) (pm : List Nat) (xs : List (D ⊕ Nat)) (rt : Rt) (Q : T → Rt → Prop) : Prop where out : ∃ t rt', callGo F f pm xs rt = some (t, rt') ∧ Q t rt'
structure Kq (c : Cfg) (r : Ss) (Q : Fl → Sl → Rt → Prop) (f : Fl) (sl : Sl) (rt : Rt) : Prop where out : match f with
  | .nx => Ws c r sl rt Q
  | f => Q f sl rt
variable {c : Cfg} {mv : Bool} {sl : Sl} {rt : Rt} {Q : T → Rt → Prop} {Qs : Fl → Sl → Rt → Prop}
theorem we_int {i : Int} (h : Q (.cl (.int i)) rt) : We c mv sl (.int i) rt Q := ⟨_, _, by unfold ev; rfl, h⟩
theorem we_bl {i : Bool} (h : Q (.cl (.bl i)) rt) : We c mv sl (.bl i) rt Q := ⟨_, _, by unfold ev; rfl, h⟩
theorem we_non (h : Q (.cl .non) rt) : We c mv sl .non rt Q := ⟨_, _, by unfold ev; rfl, h⟩
theorem we_str {i : Str} (h : Q (.cl (.str i)) rt) : We c mv sl (.str i) rt Q := ⟨_, _, by unfold ev; rfl, h⟩
theorem we_glb {x : Str} {d : D} (e : c.g.lookup x = some d) (h : Q (.cl d) rt) : We c mv sl (.glb x) rt Q := ⟨_, _, by unfold ev; rw [e], h⟩
theorem we_x {x : X0} {d : D} (e : x0 sl rt x = some d) (h : Q (.cl d) rt) : We c mv sl (.x x) rt Q := ⟨_, _, by unfold ev; rw [e], h⟩
theorem we_get {p : P} {d : D} (e : pt sl rt p = some (.cl d)) (h : Q (.cl d) rt) : We c mv sl (.get p) rt Q := ⟨_, _, by unfold ev; rw [e], h⟩
def T.isCl : T → Bool | .cl _ => true | _ => false
theorem we_getr {p : P} {t : T} {k : Nat} (e : pt sl rt p = some t) (n : t.isCl = false) (s : sl[p.root]? = some (some (.r k))) (m : (mv && p.isVar && decide (c.np ≤ k)) = false) (h : Q (.cl t.d) (close rt k)) : We c mv sl (.get p) rt Q :=
  ⟨_, _, by unfold ev; rw [e]; cases t with | cl d => cases n | _ => simp only [s]; rw [if_neg (by rw [m]; decide)], h⟩
theorem we_getm {p : P} {t : T} {k : Nat} (e : pt sl rt p = some t) (n : t.isCl = false) (s : sl[p.root]? = some (some (.r k))) (m : (mv && p.isVar && decide (c.np ≤ k)) = true) (h : Q t (rt.set k none)) : We c mv sl (.get p) rt Q :=
  ⟨_, _, by unfold ev; rw [e]; cases t with | cl d => cases n | _ => simp only [s]; rw [if_pos m], h⟩
theorem we_bin {op : BOp} {a b : E} (h : We c false sl a rt fun x rt => We c false sl b rt fun y rt => Ob op x.d y.d fun t => Q t rt) : We c mv sl (.bin op a b) rt Q := by
  obtain ⟨x, r1, e1, y, r2, e2, t, e3, h⟩ := h
  exact ⟨t, r2, by unfold ev; rw [e1]; simp only; rw [e2]; simp only; rw [e3]; rfl, h⟩
theorem we_neg {a : E} (h : We c false sl a rt fun x rt => ∃ i, x = .cl (.int i) ∧ Q (.cl (.int (-i))) rt) : We c mv sl (.neg a) rt Q := by
  obtain ⟨x, r1, e1, i, rfl, h⟩ := h
  exact ⟨_, r1, by unfold ev; rw [e1], h⟩
theorem we_cmp {op : COp} {a b : E} (h : We c false sl a rt fun x rt => We c false sl b rt fun y rt => Oc op x.d y.d fun t => Q (.cl (.bl t)) rt) : We c mv sl (.cmp op a b) rt Q := by
  obtain ⟨x, r1, e1, y, r2, e2, t, e3, h⟩ := h
  exact ⟨_, r2, by unfold ev; rw [e1]; simp only; rw [e2]; simp only; rw [e3]; rfl, h⟩
theorem we_emp {n : Bool} {p : P} {t : T} {b : Bool} (e : pt sl rt p = some t) (e2 : eqD t.d (.lst []) = some b) (h : Q (.cl (.bl (if n then !b else b))) rt) : We c mv sl (.emp n p) rt Q := ⟨_, _, by unfold ev; rw [e]; simp only; rw [e2]; rfl, h⟩
theorem we_and {a b : E} (h : We c false sl a rt fun x rt => ∃ v, x = .cl (.bl v) ∧ (v = true → We c false sl b rt Q) ∧ (v = false → Q (.cl (.bl false)) rt)) : We c mv sl (.and a b) rt Q := by
  obtain ⟨x, r1, e1, v, rfl, h1, h2⟩ := h
  cases v
  · exact ⟨_, _, by unfold ev; rw [e1], h2 rfl⟩
  · obtain ⟨t, r2, e2, h⟩ := h1 rfl
    exact ⟨t, r2, by unfold ev; rw [e1]; exact e2, h⟩
theorem we_or {a b : E} (h : We c false sl a rt fun x rt => ∃ v, x = .cl (.bl v) ∧ (v = true → Q (.cl (.bl true)) rt) ∧ (v = false → We c false sl b rt Q)) : We c mv sl (.or a b) rt Q := by
  obtain ⟨x, r1, e1, v, rfl, h1, h2⟩ := h
  cases v
  · obtain ⟨t, r2, e2, h⟩ := h2 rfl
    exact ⟨t, r2, by unfold ev; rw [e1]; exact e2, h⟩
  · exact ⟨_, _, by unfold ev; rw [e1], h1 rfl⟩
theorem we_not {a : E} (h : We c false sl a rt fun x rt => ∃ v, x = .cl (.bl v) ∧ Q (.cl (.bl (!v))) rt) : We c mv sl (.not a) rt Q := by
  obtain ⟨x, r1, e1, i, rfl, h⟩ := h
  exact ⟨_, r1, by unfold ev; rw [e1], h⟩
theorem we_ife {t a b : E} (h : We c false sl t rt fun x rt => ∃ v, x = .cl (.bl v) ∧ (v = true → We c mv sl a rt Q) ∧ (v = false → We c mv sl b rt Q)) : We c mv sl (.ife t a b) rt Q := by
  obtain ⟨x, r1, e1, v, rfl, h1, h2⟩ := h
  cases v
  · obtain ⟨t, r2, e2, h⟩ := h2 rfl
    exact ⟨t, r2, by unfold ev; rw [e1]; exact e2, h⟩
  · obtain ⟨t, r2, e2, h⟩ := h1 rfl
    exact ⟨t, r2, by unfold ev; rw [e1]; exact e2, h⟩
theorem we_tup {es : Es} (h : Wes c false sl es rt fun ts rt => ts.length ≤ sizeLine ∧ Q (.cl (.tup (T.ds ts))) rt) : We c mv sl (.tup es) rt Q := by
  obtain ⟨ts, r1, e1, l, h⟩ := h
  exact ⟨_, r1, by unfold ev; rw [e1]; simp only; rw [if_pos l], h⟩
theorem we_lst {es : Es} (h : Wes c mv sl es rt fun ts rt => ts.length ≤ sizeLine ∧ Q (.ls ts) rt) : We c mv sl (.lst es) rt Q := by
  obtain ⟨ts, r1, e1, l, h⟩ := h
  exact ⟨_, r1, by unfold ev; rw [e1]; simp only; rw [if_pos l], h⟩
theorem we_ix {a b : E} (h : We c false sl a rt fun x rt => We c false sl b rt fun y rt => ∃ d, ixD x.d y.d = some d ∧ Q (.cl d) rt) : We c mv sl (.ix a b) rt Q := by
  obtain ⟨x, r1, e1, y, r2, e2, t, e3, h⟩ := h
  exact ⟨_, r2, by unfold ev; rw [e1]; simp only; rw [e2]; simp only; rw [e3]; rfl, h⟩
def optX (sl : Sl) (rt : Rt) : Option X0 → Option (Option Int)
  | none => some none
  | some e => (x0 sl rt e).bind fun d => optI (some d)
theorem we_sl {a : E} {lo hi : Option X0} (h : We c false sl a rt fun x rt => ∃ l u t, optX sl rt lo = some l ∧ optX sl rt hi = some u ∧ slD x.d l u = some t ∧ Q t rt) : We c mv sl (.sl a lo hi) rt Q := by
  obtain ⟨x, r1, e1, l, u, t, e2, e3, e4, h⟩ := h
  refine ⟨t, r1, ?_, h⟩
  unfold ev
  rw [e1]
  simp only
  cases lo <;> cases hi <;> simp only [optX] at e2 e3 <;> simp only [e2, e3] <;> (try cases e2) <;> (try cases e3) <;> (try simp only) <;> rw [e4] <;> rfl
theorem we_rev {a : E} (h : We c false sl a rt fun x rt => ∃ t, revD x.d = some t ∧ Q t rt) : We c mv sl (.rev a) rt Q := by
  obtain ⟨x, r1, e1, t, e2, h⟩ := h
  exact ⟨_, r1, by unfold ev; rw [e1]; simp only; rw [e2]; rfl, h⟩
theorem we_at {a : E} {f : Str} (h : We c false sl a rt fun x rt => ∃ d, atD x.d f = some d ∧ Q (.cl d) rt) : We c mv sl (.at a f) rt Q := by
  obtain ⟨x, r1, e1, t, e2, h⟩ := h
  exact ⟨_, r1, by unfold ev; rw [e1]; simp only; rw [e2]; rfl, h⟩
theorem we_call {f : Nat} {es kw : Es} {pm : List Nat} (h : Wa c sl es rt fun as rt => Wa c sl kw rt fun bs rt => Wc c.F f pm (as ++ bs) rt Q) : We c mv sl (.call f es kw pm) rt Q := by
  obtain ⟨x, r1, e1, y, r2, e2, t, r3, e3, h⟩ := h
  exact ⟨t, r3, by unfold ev; rw [e1]; simp only; rw [e2]; simp only; exact e3, h⟩
theorem we_f1 {f : F1} {a : E} (h : We c false sl a rt fun x rt => Of f x.d fun t => Q t rt) : We c mv sl (.f1 f a) rt Q := by
  obtain ⟨x, r1, e1, t, e2, h⟩ := h
  exact ⟨_, r1, by unfold ev; rw [e1]; simp only; rw [e2]; rfl, h⟩
theorem we_f1p {f : F1} {p : P} {t : T} {xs : List D} (e : pt sl rt p = some t) (e2 : t.items = some xs) (h : Of f t.d fun t => Q t rt) : We c mv sl (.f1p f p) rt Q := by
  obtain ⟨u, e3, h⟩ := h
  exact ⟨_, _, by unfold ev; rw [e]; simp only; rw [e2]; simp only; rw [e3]; rfl, h⟩
theorem we_f2 {f : F2} {a b : E} (h : We c false sl a rt fun x rt => We c false sl b rt fun y rt => ∃ d, f2D f x.d y.d = some d ∧ Q (.cl d) rt) : We c mv sl (.f2 f a b) rt Q := by
  obtain ⟨x, r1, e1, y, r2, e2, t, e3, h⟩ := h
  exact ⟨_, r2, by unfold ev; rw [e1]; simp only; rw [e2]; simp only; rw [e3]; rfl, h⟩
theorem we_pop {p : P} {ts : List T} {t : T} {rt' : Rt} (e : pt sl rt p = some (.ls ts)) (e2 : ts.getLast? = some t) (e3 : upP sl rt p (.ls ts.dropLast) = some rt') (h : Q t rt') : We c mv sl (.pop p) rt Q := ⟨_, _, by unfold ev; rw [e]; simp only; rw [e2]; simp only; rw [e3]; rfl, h⟩
structure Wl (c : Cfg) (sl : Sl) (own : List Nat) (tg : Tg) (cond elt : E) (xs : List D) (rt : Rt) (Q : T → Rt → Prop) : Prop where out : ∃ ts rt', lcGo (fun x => bind (wip sl own) tg x) (fun sl rt => tstOf (ev c false sl cond rt)) (fun sl rt => ev c false sl elt rt) xs [] rt = some (ts, rt') ∧ Q (.ls ts) rt'
theorem we_lc {own : List Nat} {tg : Tg} {it : It} {cond elt : E} (h : Wi c sl it rt fun xs rt => Wl c sl own tg cond elt xs rt Q) : We c mv sl (.lc own tg it cond elt) rt Q := by
  obtain ⟨x, r1, e1, t, r2, e2, h⟩ := h
  exact ⟨_, r2, ev_lc_of e1 e2, h⟩
theorem we_dct {ks : List Key} {es : Es} (h : Wes c mv sl es rt fun ts rt => (ts.length = ks.length ∧ ks.Nodup ∧ ks.length ≤ 15 ∧ ks ≠ []) ∧ Q (.dc ks ts) rt) : We c mv sl (.dct ks es) rt Q := by
  obtain ⟨ts, r1, e1, l, h⟩ := h
  exact ⟨_, r1, by unfold ev; rw [e1]; simp only; rw [if_pos l], h⟩
theorem we_isi {ty : Ty} {a : E} (h : We c false sl a rt fun x rt => ∃ b, isiD ty x.d = some b ∧ Q (.cl (.bl b)) rt) : We c mv sl (.isi ty a) rt Q := by
  obtain ⟨x, r1, e1, t, e2, h⟩ := h
  exact ⟨_, r1, by unfold ev; rw [e1]; simp only; rw [e2]; rfl, h⟩
structure Wm (F : Fs) (cc f : Nat) (pm : List Nat) (xs : List (D ⊕ Nat)) (K : T → Prop) : Prop where out : ∃ t, mkGo F cc f pm xs = some t ∧ K t
theorem we_mk {cc f : Nat} {es kw : Es} {pm : List Nat} (h : Wa c sl es rt fun as rt => Wa c sl kw rt fun bs rt => Wm c.F cc f pm (as ++ bs) fun t => Q t rt) : We c mv sl (.mk cc f es kw pm) rt Q := by
  obtain ⟨x, r1, e1, y, r2, e2, t, e3, h⟩ := h
  exact ⟨t, r2, by unfold ev; rw [e1]; simp only; rw [e2]; simp only; rw [e3]; rfl, h⟩
theorem we_meth {cc : Nat} {m : Str} {f : Nat} {o es kw : Es} {pm : List Nat} (h : Wa c sl o rt fun os rt => ∃ x, os = [x] ∧ recv cc m rt x = true ∧ Wa c sl es rt fun as rt => Wa c sl kw rt fun bs rt => Wc c.F f pm (x :: (as ++ bs)) rt Q) : We c mv sl (.meth cc m f o es kw pm) rt Q := by
  obtain ⟨os, r0, e0, x, rfl, e4, y, r1, e1, z, r2, e2, t, r3, e3, h⟩ := h
  exact ⟨t, r3, by unfold ev; rw [e0]; simp only; rw [if_pos e4, e1]; simp only; rw [e2]; simp only; exact e3, h⟩
theorem we_prop {cc : Nat} {m : Str} {f : Nat} {o : Es} (h : Wa c sl o rt fun os rt => ∃ x, os = [x] ∧ isC cc rt x = true ∧ Wc c.F f [0] [x] rt Q) : We c mv sl (.prop cc m f o) rt Q := by
  obtain ⟨os, r0, e0, x, rfl, e4, t, r3, e3, h⟩ := h
  exact ⟨t, r3, by unfold ev; rw [e0]; simp only; rw [if_pos e4]; exact e3, h⟩
theorem wes_nil {Q : List T → Rt → Prop} (h : Q [] rt) : Wes c mv sl .nil rt Q := ⟨_, _, by unfold evs; rfl, h⟩
theorem wes_cons {e : E} {r : Es} {Q : List T → Rt → Prop} (h : We c mv sl e rt fun t rt => Wes c mv sl r rt fun ts rt => Q (t :: ts) rt) : Wes c mv sl (.cons e r) rt Q := by
  obtain ⟨x, r1, e1, y, r2, e2, h⟩ := h
  exact ⟨_, r2, by unfold evs; rw [e1]; simp only; rw [e2], h⟩
theorem wa_nil {Q : List (D ⊕ Nat) → Rt → Prop} (h : Q [] rt) : Wa c sl .nil rt Q := ⟨_, _, by unfold evA; rfl, h⟩
theorem wa_cons {e : E} {r : Es} {Q : List (D ⊕ Nat) → Rt → Prop} (h : We c false sl e rt fun t rt => Wa c sl r rt fun ts rt => Q (.inl t.d :: ts) rt) : Wa c sl (.cons e r) rt Q := by
  obtain ⟨x, r1, e1, y, r2, e2, h⟩ := h
  exact ⟨_, r2, by unfold evA; rw [e1]; simp only; rw [e2], h⟩
theorem wa_mut {i k : Nat} {r : Es} {Q : List (D ⊕ Nat) → Rt → Prop} (e : sl[i]? = some (some (.r k))) (h : Wa c sl r rt fun ts rt => Q (.inr k :: ts) rt) : Wa c sl (.mut i r) rt Q := by
  obtain ⟨y, r2, e2, h⟩ := h
  exact ⟨_, r2, by unfold evA; rw [e]; simp only; rw [e2], h⟩
theorem wa_mutv {i : Nat} {d : D} {r : Es} {Q : List (D ⊕ Nat) → Rt → Prop} (e : sl[i]? = some (some (.v d))) (h : Wa c sl r rt fun ts rt => Q (.inl d :: ts) rt) : Wa c sl (.mut i r) rt Q := by
  obtain ⟨y, r2, e2, h⟩ := h
  exact ⟨_, r2, by unfold evA; rw [e]; simp only; rw [e2], h⟩
theorem wi_rng1 {a : E} {Q : List D → Rt → Prop} (h : We c false sl a rt fun x rt => ∃ n, x = .cl (.int n) ∧ inRng n = true ∧ Q (rngD 0 n.toNat) rt) : Wi c sl (.rng1 a) rt Q := by
  obtain ⟨x, r1, e1, n, rfl, e2, h⟩ := h
  exact ⟨_, _, evI_rng1_of e1 e2, h⟩
theorem wi_rng2 {a b : E} {Q : List D → Rt → Prop} (h : We c false sl a rt fun x rt => We c false sl b rt fun y rt => ∃ m n, x = .cl (.int m) ∧ y = .cl (.int n) ∧ inRng m = true ∧ inRng n = true ∧ Q (rngD m (n - m).toNat) rt) : Wi c sl (.rng2 a b) rt Q := by
  obtain ⟨x, r1, e1, y, r2, e2, m, n, rfl, rfl, e3, e4, h⟩ := h
  exact ⟨_, _, evI_rng2_of e1 e2 e3 e4, h⟩
theorem wi_seq {a : E} {Q : List D → Rt → Prop} (h : We c false sl a rt fun x rt => ∃ xs, x.d.items = some xs ∧ Q xs rt) : Wi c sl (.seq a) rt Q := by
  obtain ⟨x, r1, e1, n, e2, h⟩ := h
  exact ⟨_, _, by unfold evI; rw [e1]; simp only; rw [e2]; rfl, h⟩
theorem wi_enum {a : E} {Q : List D → Rt → Prop} (h : We c false sl a rt fun x rt => ∃ xs, (x.d = .lst xs ∨ x.d = .tup xs) ∧ Q (enumD 0 xs) rt) : Wi c sl (.enum a) rt Q := by
  obtain ⟨x, r1, e1, xs, e2, h⟩ := h
  refine ⟨_, _, ?_, h⟩
  unfold evI
  rw [e1]
  simp only
  rcases e2 with e2 | e2 <;> rw [e2]
theorem wi_zip {a b : E} {Q : List D → Rt → Prop} (h : We c false sl a rt fun x rt => We c false sl b rt fun y rt => ∃ xs ys, ((x.d = .lst xs ∧ y.d = .lst ys) ∨ (x.d = .tup xs ∧ y.d = .tup ys)) ∧ Q (zipD xs ys) rt) : Wi c sl (.zip a b) rt Q := by
  obtain ⟨x, r1, e1, y, r2, e2, xs, ys, e3, h⟩ := h
  refine ⟨_, _, ?_, h⟩
  unfold evI
  rw [e1]
  simp only
  rw [e2]
  simp only
  rcases e3 with ⟨e3, e4⟩ | ⟨e3, e4⟩ <;> rw [e3, e4]
theorem ob_add {i j : Int} {K : T → Prop} (h : K (.cl (.int (i + j)))) : Ob .add (.int i) (.int j) K := ⟨_, rfl, h⟩
theorem ob_sub {i j : Int} {K : T → Prop} (h : K (.cl (.int (i - j)))) : Ob .sub (.int i) (.int j) K := ⟨_, rfl, h⟩
theorem ob_mul {i j : Int} {K : T → Prop} (e : mulOk i j = true) (h : K (.cl (.int (i * j)))) : Ob .mul (.int i) (.int j) K := ⟨_, oB_mul e, h⟩
theorem ob_modp {i j : Int} {K : T → Prop} (e : 0 < j) (h : K (.cl (.int (i % j)))) : Ob .mod (.int i) (.int j) K := ⟨_, oB_mod (by omega), by rw [Int.fmod_eq_emod_of_nonneg _ (by omega)]; exact h⟩
theorem ob_fdivp {i j : Int} {K : T → Prop} (e : 0 < j) (e2 : j < 2 ^ 64) (h : K (.cl (.int (i / j)))) : Ob .fdiv (.int i) (.int j) K := ⟨_, oB_div (by omega) (Nat.lt_trans (log2_of (k := 64) (by omega) (by decide)) (by decide)), by rw [Int.fdiv_eq_ediv_of_nonneg _ (by omega)]; exact h⟩
theorem ob_pow {i j : Int} {K : T → Prop} (e : 0 ≤ j ∧ j ≤ 1000000 ∧ i.natAbs < 2 ^ 64) (h : K (.cl (.int (i ^ j.toNat)))) : Ob .pow (.int i) (.int j) K := ⟨_, if_pos e, h⟩
theorem ob_rep1 {d : D} {n : Nat} {K : T → Prop} (e : n ≤ 10000) (h : K (.ls (List.replicate n (.cl d)))) : Ob .mul (.lst [d]) (.int n) K := by
  have z : sizeLine = 16777216 := rfl
  refine ⟨_, if_pos ?_, ?_⟩
  · simp only [Bool.and_eq_true, decide_eq_true_eq, List.length_singleton]
    omega
  · have e2 : ∀ n : Nat, cls (List.replicate n [d]).flatten = List.replicate n (.cl d) := fun n => by
      induction n with
      | zero => rfl
      | succ n ih => rw [List.replicate_succ, List.flatten_cons, List.replicate_succ, ← ih]; rfl
    rw [Int.toNat_natCast, e2]
    exact h
theorem oc_lt {i j : Int} {K : Bool → Prop} (h : K (decide (i < j))) : Oc .lt (.int i) (.int j) K := ⟨_, rfl, h⟩
theorem oc_le {i j : Int} {K : Bool → Prop} (h : K (decide (i ≤ j))) : Oc .le (.int i) (.int j) K := ⟨_, rfl, h⟩
theorem oc_gt {i j : Int} {K : Bool → Prop} (h : K (decide (j < i))) : Oc .gt (.int i) (.int j) K := ⟨_, rfl, h⟩
theorem oc_ge {i j : Int} {K : Bool → Prop} (h : K (decide (j ≤ i))) : Oc .ge (.int i) (.int j) K := ⟨_, rfl, h⟩
theorem oc_eqi {i j : Int} {K : Bool → Prop} (h : K (decide (i = j))) : Oc .eq (.int i) (.int j) K := ⟨_, (oC_eq _ _).trans (eqD_int i j), h⟩
theorem oc_nei {i j : Int} {K : Bool → Prop} (h : K (!decide (i = j))) : Oc .ne (.int i) (.int j) K := ⟨_, (oC_ne _ _).trans (by rw [eqD_int]; rfl), h⟩
theorem oc_eq {a b : D} {v : Bool} {K : Bool → Prop} (e : eqD a b = some v) (h : K v) : Oc .eq a b K := ⟨_, (oC_eq _ _).trans e, h⟩
theorem oc_ne {a b : D} {v : Bool} {K : Bool → Prop} (e : eqD a b = some v) (h : K !v) : Oc .ne a b K := ⟨_, (oC_ne _ _).trans (by rw [e]; rfl), h⟩
theorem of_int {i : Int} {K : T → Prop} (h : K (.cl (.int i))) : Of .int (.int i) K := ⟨_, rfl, h⟩
theorem of_intb {b : Bool} {K : T → Prop} (h : K (.cl (.int (if b then 1 else 0)))) : Of .int (.bl b) K := ⟨_, rfl, h⟩
theorem of_sum {xs : List D} {ns : List Int} {K : T → Prop} (e : intsOf xs = some ns) (h : K (.cl (.int ns.sum))) : Of .sum (.lst xs) K := ⟨_, by show (intsOf xs).map _ = _; rw [e]; rfl, h⟩
theorem of_all {xs : List D} {ns : List Bool} {K : T → Prop} (e : blsOf xs = some ns) (h : K (.cl (.bl (ns.all id)))) : Of .all (.lst xs) K := ⟨_, by show (blsOf xs).map _ = _; rw [e]; rfl, h⟩
theorem of_tupl {xs : List D} {K : T → Prop} (h : K (.cl (.tup xs))) : Of .tuple (.lst xs) K := ⟨_, rfl, h⟩
theorem of_tupt {xs : List D} {K : T → Prop} (h : K (.cl (.tup xs))) : Of .tuple (.tup xs) K := ⟨_, rfl, h⟩
theorem of_lstl {xs : List D} {K : T → Prop} (h : K (.ls (cls xs))) : Of .list (.lst xs) K := ⟨_, rfl, h⟩
theorem of_lstt {xs : List D} {K : T → Prop} (h : K (.ls (cls xs))) : Of .list (.tup xs) K := ⟨_, rfl, h⟩
theorem ws_nil (h : Qs .nx sl rt) : Ws c .nil sl rt Qs := ⟨_, _, _, by unfold exs; rfl, h⟩
theorem ws_x {s : St} {r : Ss} (h : Wx c s sl rt (Kq c r Qs)) : Ws c (.cons s r) sl rt Qs := by
  obtain ⟨f, sl', rt', e, ⟨h⟩⟩ := h
  cases f with
  | nx =>
    obtain ⟨f, sl2, rt2, e2, h⟩ := h
    exact ⟨_, _, _, exs_nx e e2, h⟩
  | _ => exact ⟨_, _, _, by unfold exs; rw [e], h⟩
theorem kq_nx {r : Ss} (h : Ws c r sl rt Qs) : Kq c r Qs .nx sl rt := ⟨h⟩
theorem kq_rt {r : Ss} {t : T} (h : Qs (.rt t) sl rt) : Kq c r Qs (.rt t) sl rt := ⟨h⟩
theorem kq_ct {r : Ss} (h : Qs .ct sl rt) : Kq c r Qs .ct sl rt := ⟨h⟩
theorem kq_bk {r : Ss} (h : Qs .bk sl rt) : Kq c r Qs .bk sl rt := ⟨h⟩
theorem wx_asg {i : Nat} {e : E} (h : We c false sl e rt fun t rt => ∃ p, store c i t sl rt = some p ∧ Qs .nx p.1 p.2) : Wx c (.asg i e) sl rt Qs := by
  obtain ⟨t, r1, e1, p, e2, h⟩ := h
  exact ⟨_, _, _, ex_asg_of e1 e2, h⟩
theorem wx_par {i j : Nat} {a b : E} (h : We c false sl a rt fun x rt => We c false sl b rt fun y rt => ∃ p, store c j y sl rt = some p ∧ ∃ q, store c i x p.1 p.2 = some q ∧ Qs .nx q.1 q.2) : Wx c (.par i j a b) sl rt Qs := by
  obtain ⟨x, r1, e1, y, r2, e2, p, e3, q, e4, h⟩ := h
  exact ⟨_, _, _, by unfold ex; rw [e1]; simp only; rw [e2]; simp only; rw [e3]; simp only; rw [e4]; rfl, h⟩
theorem wx_parN {i j : Nat} {a b : E} (h : We c false sl a rt fun x rt => We c false sl b rt fun y rt => ∃ p, store c i x sl rt = some p ∧ ∃ q, store c j y p.1 p.2 = some q ∧ Qs .nx q.1 q.2) : Wx c (.parN i j a b) sl rt Qs := by
  obtain ⟨x, r1, e1, y, r2, e2, p, e3, q, e4, h⟩ := h
  exact ⟨_, _, _, by unfold ex; rw [e1]; simp only; rw [e2]; simp only; rw [e3]; simp only; rw [e4]; rfl, h⟩
theorem wx_asgT {tg : Tg} {e : E} (h : We c false sl e rt fun t rt => ∃ sl', bind sl tg t.d = some sl' ∧ Qs .nx sl' rt) : Wx c (.asgT tg e) sl rt Qs := by
  obtain ⟨t, r1, e1, p, e2, h⟩ := h
  exact ⟨_, _, _, by unfold ex; rw [e1]; simp only; rw [e2]; rfl, h⟩
theorem wx_setx {p : P} {x : X0} {e : E} (h : We c false sl e rt fun t rt => ∃ u i u' rt', pt sl rt p = some u ∧ x0 sl rt x = some i ∧ putIxT u i t = some u' ∧ upP sl rt p u' = some rt' ∧ Qs .nx sl rt') : Wx c (.setx p x e) sl rt Qs := by
  obtain ⟨t, r1, e1, u, i, u', rt', e2, e3, e4, e5, h⟩ := h
  exact ⟨_, _, _, by unfold ex; rw [e1]; simp only; rw [e2, e3]; simp only; rw [e4]; simp only; rw [e5]; rfl, h⟩
theorem wx_app {i : Nat} {e : E} {ts0 : List T} (e0 : pt sl rt (.var i) = some (.ls ts0)) (h : We c false sl e rt fun t rt => ∃ ts rt', pt sl rt (.var i) = some (.ls ts) ∧ ts.length < sizeLine ∧ upP sl rt (.var i) (.ls (ts ++ [t])) = some rt' ∧ Qs .nx sl rt') : Wx c (.app (.var i) e) sl rt Qs := by
  obtain ⟨t, r1, e1, ts, rt', e2, e3, e4, h⟩ := h
  exact ⟨_, _, _, by unfold ex; rw [e0]; simp only [P.isVar, if_true]; rw [e1]; simp only; rw [e2]; simp only; rw [if_pos e3, e4]; rfl, h⟩
theorem wx_app2 {p : P} {e : E} {ts : List T} {d : D} {rt' : Rt} (e0 : p.isVar = false) (e1 : pt sl rt p = some (.ls ts)) (e2 : evq sl rt e = some d) (e3 : ts.length < sizeLine) (e4 : upP sl rt p (.ls (ts ++ [.cl d])) = some rt') (h : Qs .nx sl rt') : Wx c (.app p e) sl rt Qs :=
  ⟨_, _, _, by unfold ex; rw [e1]; simp only [e0]; rw [if_neg (by decide), e2]; simp only [Option.map]; rw [e1]; simp only; rw [if_pos e3, e4], h⟩
theorem wx_augA {i : Nat} {e : E} {a : Int} (e0 : sl[i]? = some (some (.v (.int a)))) (h : We c false sl e rt fun t rt => ∃ b, t = .cl (.int b) ∧ ∃ p, store c i (.cl (.int (a + b))) sl rt = some p ∧ Qs .nx p.1 p.2) : Wx c (.aug i .add e) sl rt Qs := by
  obtain ⟨t, r1, e1, b, rfl, p, e2, h⟩ := h
  exact ⟨_, _, _, by unfold ex; rw [e0]; simp only; rw [e1]; simp only; rw [e2]; rfl, h⟩
theorem wx_augS {i : Nat} {e : E} {a : Int} (e0 : sl[i]? = some (some (.v (.int a)))) (h : We c false sl e rt fun t rt => ∃ b, t = .cl (.int b) ∧ ∃ p, store c i (.cl (.int (a - b))) sl rt = some p ∧ Qs .nx p.1 p.2) : Wx c (.aug i .sub e) sl rt Qs := by
  obtain ⟨t, r1, e1, b, rfl, p, e2, h⟩ := h
  exact ⟨_, _, _, by unfold ex; rw [e0]; simp only; rw [e1]; simp only; rw [e2]; rfl, h⟩
theorem wx_fld {p : P} {f : Str} {e : E} (h : We c false sl e rt fun t rt => ∃ cc ns ts rt', pt sl rt p = some (.ob cc ns ts) ∧ ns.length < 1000 ∧ upP sl rt p (.ob cc (putN f t ns ts).1 (putN f t ns ts).2) = some rt' ∧ Qs .nx sl rt') : Wx c (.fld p f e) sl rt Qs := by
  obtain ⟨t, r1, e1, cc, ns, ts, rt', e2, e3, e4, h⟩ := h
  exact ⟨_, _, _, by unfold ex; rw [e1]; simp only; rw [e2]; simp only; rw [if_pos e3, e4]; rfl, h⟩
theorem wx_augxA {p : P} {x : X0} {e : E} {ts : List T} {i b a : Int} {u : T} {rt' : Rt} (e1 : pt sl rt p = some (.ls ts)) (e2 : x0 sl rt x = some (.int i)) (e3 : evq sl rt e = some (.int b)) (e4 : ixT (.ls ts) (.int i) = some (.cl (.int a))) (e5 : setIxT (.ls ts) (.int i) (.cl (.int (a + b))) = some u) (e6 : upP sl rt p u = some rt') (h : Qs .nx sl rt') : Wx c (.augx p x .add e) sl rt Qs :=
  ⟨_, _, _, by unfold ex; rw [e1, e2, e3]; simp only; rw [e4]; simp only; rw [e5]; simp only; rw [e6]; rfl, h⟩
theorem wx_ext {i : Nat} {e : E} {ts0 : List T} (e0 : pt sl rt (.var i) = some (.ls ts0)) (h : We c false sl e rt fun t rt => ∃ ds ts rt', t.d = .lst ds ∧ pt sl rt (.var i) = some (.ls ts) ∧ ts.length + ds.length ≤ sizeLine ∧ upP sl rt (.var i) (.ls (ts ++ cls ds)) = some rt' ∧ Qs .nx sl rt') : Wx c (.ext i e) sl rt Qs := by
  obtain ⟨t, r1, e1, ds, ts, rt', e2, e3, e4, e5, h⟩ := h
  exact ⟨_, _, _, by unfold ex; rw [e0]; simp only; rw [e1]; simp only; rw [e2]; simp only; rw [e3]; simp only; rw [if_pos e4, e5]; rfl, h⟩
theorem wx_ex {e : E} (h : We c false sl e rt fun _ rt => Qs .nx sl rt) : Wx c (.ex e) sl rt Qs := by
  obtain ⟨t, r1, e1, h⟩ := h
  exact ⟨_, _, _, by unfold ex; rw [e1], h⟩
theorem wx_ite {e : E} {a b : Ss} (h : We c false sl e rt fun t rt => ∃ v, t = .cl (.bl v) ∧ (v = true → Ws c a sl rt Qs) ∧ (v = false → Ws c b sl rt Qs)) : Wx c (.ite e a b) sl rt Qs := by
  obtain ⟨t, r1, e1, v, rfl, h1, h2⟩ := h
  cases v
  · obtain ⟨f, sl', rt', e2, h⟩ := h2 rfl
    exact ⟨f, sl', rt', ex_ite_of e1 e2, h⟩
  · obtain ⟨f, sl', rt', e2, h⟩ := h1 rfl
    exact ⟨f, sl', rt', ex_ite_of e1 e2, h⟩
structure Wg (c : Cfg) (tg : Tg) (b : Ss) (xs : List D) (sl : Sl) (rt : Rt) (Q : Fl → Sl → Rt → Prop) : Prop where out : ∃ f sl' rt', forGo (fun sl x => bind sl tg x) (fun sl rt => exs c b sl rt) xs sl rt = some (f, sl', rt') ∧ Q f sl' rt'
theorem wx_fr {tg : Tg} {it : It} {b : Ss} (h : Wi c sl it rt fun xs rt => Wg c tg b xs sl rt Qs) : Wx c (.fr tg it b) sl rt Qs := by
  obtain ⟨xs, r1, e1, f, sl', rt', e2, h⟩ := h
  exact ⟨f, sl', rt', ex_fr_of e1 e2, h⟩
theorem wx_ret {e : E} (h : We c true sl e rt fun t rt => Qs (.rt t) sl rt) : Wx c (.ret e) sl rt Qs := by
  obtain ⟨t, r1, e1, h⟩ := h
  exact ⟨_, _, _, by unfold ex; rw [e1], h⟩
theorem wx_retN (h : Qs (.rt (.cl .non)) sl rt) : Wx c .retN sl rt Qs := ⟨_, _, _, by unfold ex; rfl, h⟩
theorem wx_brk (h : Qs .bk sl rt) : Wx c .brk sl rt Qs := ⟨_, _, _, by unfold ex; rfl, h⟩
theorem wx_ct (h : Qs .ct sl rt) : Wx c .ct sl rt Qs := ⟨_, _, _, by unfold ex; rfl, h⟩
theorem wx_nop (h : Qs .nx sl rt) : Wx c .nop sl rt Qs := ⟨_, _, _, by unfold ex; rfl, h⟩
theorem wg_ind (I : Nat → Sl → Rt → Prop) {tg : Tg} {b : Ss} : ∀ (xs : List D) (sl : Sl) (rt : Rt), I 0 sl rt →
    (∀ n x sl rt, xs[n]? = some x → I n sl rt → ∃ sl1, bind sl tg x = some sl1 ∧ Ws c b sl1 rt fun f sl rt => (f = .nx ∨ f = .ct) ∧ I (n + 1) sl rt) →
    (∀ sl rt, I xs.length sl rt → Qs .nx sl rt) → Wg c tg b xs sl rt Qs := by
  intro xs
  induction xs generalizing I with
  | nil => exact fun sl rt h _ k => ⟨_, _, _, rfl, k _ _ h⟩
  | cons x xs ih =>
    intro sl rt h st k
    obtain ⟨sl1, e1, f, sl2, rt2, e2, hf, h2⟩ := st 0 x sl rt rfl h
    obtain ⟨f', sl3, rt3, e3, h3⟩ := ih (fun n => I (n + 1)) sl2 rt2 h2 (fun n y sl rt e h => st (n + 1) y sl rt e h) k
    refine ⟨f', sl3, rt3, ?_, h3⟩
    unfold forGo
    rw [e1]
    simp only
    rw [e2]
    rcases hf with rfl | rfl <;> exact e3
theorem wl_ind (I : Nat → List T → Rt → Prop) {own : List Nat} {tg : Tg} {cond elt : E} (xs : List D) (h0 : I 0 [] rt) (hl : xs.length ≤ sizeLine)
    (st : ∀ n x acc rt, xs[n]? = some x → I n acc rt → ∃ sl1, bind (wip sl own) tg x = some sl1 ∧ We c false sl1 cond rt fun t rt => ∃ v, t = .cl (.bl v) ∧ (v = true → We c false sl1 elt rt fun t rt => I (n + 1) (acc ++ [t]) rt) ∧ (v = false → I (n + 1) acc rt))
    (k : ∀ ts rt, I xs.length ts rt → Q (.ls ts) rt) : Wl c sl own tg cond elt xs rt Q := by
  suffices H : ∀ (xs : List D) (I : Nat → List T → Rt → Prop) (acc : List T) (rt : Rt), I 0 acc rt → acc.length + xs.length ≤ sizeLine →
      (∀ n x acc rt, xs[n]? = some x → I n acc rt → ∃ sl1, bind (wip sl own) tg x = some sl1 ∧ We c false sl1 cond rt fun t rt => ∃ v, t = .cl (.bl v) ∧ (v = true → We c false sl1 elt rt fun t rt => I (n + 1) (acc ++ [t]) rt) ∧ (v = false → I (n + 1) acc rt)) →
      ∃ ts rt', lcGo (fun x => bind (wip sl own) tg x) (fun sl rt => tstOf (ev c false sl cond rt)) (fun sl rt => ev c false sl elt rt) xs acc rt = some (ts, rt') ∧ I xs.length ts rt' by
    obtain ⟨ts, rt', e, h⟩ := H xs I [] rt h0 (by simpa using hl) st
    exact ⟨ts, rt', e, k _ _ h⟩
  clear h0 hl st k
  intro xs
  induction xs with
  | nil => exact fun I acc rt h _ _ => ⟨acc, rt, rfl, h⟩
  | cons x xs ih =>
    intro I acc rt h hl st
    rw [List.length_cons] at hl
    obtain ⟨sl1, e1, t, rt1, e2, v, rfl, h1, h2⟩ := st 0 x acc rt rfl h
    cases v
    · obtain ⟨ts, rt3, e3, h3⟩ := ih (fun n => I (n + 1)) acc rt1 (h2 rfl) (by omega) fun n y acc rt e h => st (n + 1) y acc rt e h
      refine ⟨ts, rt3, ?_, h3⟩
      unfold lcGo
      rw [e1]
      simp only [e2, tstOf]
      exact e3
    · obtain ⟨t, rt2, e4, h4⟩ := h1 rfl
      obtain ⟨ts, rt3, e3, h3⟩ := ih (fun n => I (n + 1)) (acc ++ [t]) rt2 h4 (by rw [List.length_append, List.length_singleton]; omega) fun n y acc rt e h => st (n + 1) y acc rt e h
      refine ⟨ts, rt3, ?_, h3⟩
      unfold lcGo
      rw [e1]
      simp only [e2, tstOf, e4]
      rw [if_pos (by omega)]
      exact e3
theorem wl_map {α : Type} (fd ft : α → D) (xs : List α) {own : List Nat} {tg : Tg} {cond elt : E} (hl : xs.length ≤ 1000000)
    (st : ∀ x ∈ xs, ∃ sl1, bind (wip sl own) tg (fd x) = some sl1 ∧ We c false sl1 cond rt fun t rt' => t = .cl (.bl true) ∧ rt' = rt ∧ We c false sl1 elt rt fun t rt' => t = .cl (ft x) ∧ rt' = rt)
    (k : Q (.ls (cls (xs.map ft))) rt) : Wl c sl own tg cond elt (xs.map fd) rt Q := by
  refine wl_ind (fun n ts rt' => rt' = rt ∧ ts = cls ((xs.take n).map ft)) _ ⟨rfl, rfl⟩ (by have : sizeLine = 16777216 := rfl; rw [List.length_map]; omega) ?_ ?_
  · rintro n x acc rt' hx ⟨rfl, rfl⟩
    rw [List.getElem?_map] at hx
    obtain ⟨p, hp, rfl⟩ := Option.map_eq_some_iff.mp hx
    obtain ⟨sl1, e1, t, r1, e2, rfl, rfl, t2, r2, e3, rfl, rfl⟩ := st p (List.mem_of_getElem? hp)
    refine ⟨sl1, e1, _, _, e2, true, rfl, fun _ => ⟨_, _, e3, rfl, ?_⟩, fun h => by cases h⟩
    rw [List.take_succ, hp, List.map_append]
    unfold cls
    rw [List.map_append]
    rfl
  · rintro ts rt' ⟨rfl, rfl⟩
    rw [List.length_map, List.take_length]
    exact k
theorem wc_of {F : Fs} {f : Nat} {pm : List Nat} {xs ys : List (D ⊕ Nat)} {ts ts' : List T} {r : T} (e1 : perm xs pm = some ys) (e2 : (mutsOf ys).Nodup) (e3 : argsOf rt ys = some ts) (e4 : F f ts = some (r, ts')) (e5 : ts'.length = ts.length) (h : Q r (backOf (clr rt ys) ys ts')) : Wc F f pm xs rt Q := by
  refine ⟨r, _, ?_, h⟩
  unfold callGo
  rw [e1]
  simp only
  rw [if_pos e2, e3]
  simp only
  rw [e4]
  simp only
  rw [if_pos e5]
structure Wr (np : Nat) (R : T → List T → Prop) (f : Fl) (sl : Sl) (rt : Rt) : Prop where out : ∃ t ts, ((f = .nx ∧ t = .cl .non) ∨ f = .rt t) ∧ somes (rt.take np) = some ts ∧ R t ts
theorem wr_rt {np : Nat} {R : T → List T → Prop} {t : T} {ts : List T} (e : somes (rt.take np) = some ts) (h : R t ts) : Wr np R (.rt t) sl rt := ⟨t, ts, .inr rfl, e, h⟩
theorem wr_nx {np : Nat} {R : T → List T → Prop} {ts : List T} (e : somes (rt.take np) = some ts) (h : R (.cl .non) ts) : Wr np R .nx sl rt := ⟨_, ts, .inl ⟨rfl, rfl⟩, e, h⟩
structure Wf (g : List (Str × D)) (F : Fs) (f : Fn) (as : List T) (R : T → List T → Prop) : Prop where out : ∃ t ts, runFn g F f as = some (t, ts) ∧ R t ts
theorem wf_of {g : List (Str × D)} {F : Fs} {np ns : Nat} {body : Ss} {as : List T} {R : T → List T → Prop} (h : as.length = np) (e : Ws ⟨F, np, g⟩ body (startSl np ns) (startRt ns as) (Wr np R)) : Wf g F ⟨np, ns, body⟩ as R := by
  obtain ⟨fl, sl', rt', e, t, ts, e1, e2, h2⟩ := e
  refine ⟨t, ts, ?_, h2⟩
  unfold runFn
  rw [if_pos h, e]
  rcases e1 with ⟨rfl, rfl⟩ | rfl <;> simp only <;> rw [e2] <;> rfl
theorem sem_of {g : List (Str × D)} {G : List Fn} {k f : Nat} {fn : Fn} {as : List T} {o : Option (T × List T)} (e : G[f]? = some fn) (h : runFn g (sem g G k) fn as = o) : sem g G (k + 1) f as = o := by
  show (match G[f]? with | none => none | some fn => runFn g (sem g G k) fn as) = o
  rw [e]
  exact h
end Mi
namespace Mi
open PySem L2
def At (F : Fs) (a : Nat) (ds : List D) (t : D) : Prop := F a (cls ds) = some (.cl t, cls ds)
theorem inl_perm (xs : List D) : argsOf rt (xs.map Sum.inl) = some (cls xs) := by
  induction xs with
  | nil => rfl
  | cons x xs ih => rw [List.map_cons]; unfold argsOf; rw [ih]; rfl
theorem inl_back : ∀ (xs : List D) (rt : Rt) (ts : List T), backOf rt (xs.map Sum.inl) ts = rt
  | [], rt, ts => by unfold backOf; rfl
  | x :: xs, rt, [] => by unfold backOf; rfl
  | x :: xs, rt, t :: ts => by rw [List.map_cons]; unfold backOf; exact inl_back xs rt ts
theorem inl_clr (rt : Rt) (xs : List D) : clr rt (xs.map Sum.inl) = rt := by
  induction xs with
  | nil => rfl
  | cons x xs ih => exact ih
theorem inl_muts (xs : List D) : mutsOf (xs.map Sum.inl) = [] := by
  induction xs with
  | nil => rfl
  | cons x xs ih => exact ih
theorem wc_at {F : Fs} {f : Nat} {pm : List Nat} {xs : List (D ⊕ Nat)} {ds : List D} {t : D} {rt : Rt} {Q : T → Rt → Prop} (h : At F f ds t) (e : perm xs pm = some (ds.map .inl)) (k : Q (.cl t) rt) : Wc F f pm xs rt Q := by
  refine wc_of e (by rw [inl_muts]; exact List.nodup_nil) (inl_perm ds) h rfl ?_
  rw [inl_back, inl_clr]
  exact k
theorem at_of {g : List (Str × D)} {G : List Fn} {k a : Nat} {fn : Fn} {ds : List D} {t : D} (e : G[a]? = some fn) (h : Wf g (sem g G k) fn (cls ds) fun u us => u = .cl t ∧ us = cls ds) : At (sem g G (k + 1)) a ds t := by
  obtain ⟨u, us, e2, rfl, rfl⟩ := h
  exact sem_of e e2
theorem rng_get {n i : Nat} {x : D} (h : (rngD 0 n)[i]? = some x) : i < n ∧ x = .int i := by
  unfold rngD at h
  rw [List.getElem?_map] at h
  obtain ⟨p, hp, rfl⟩ := Option.map_eq_some_iff.mp h
  obtain ⟨h1, h2⟩ := List.getElem?_eq_some_iff.mp hp
  rw [List.length_range] at h1
  rw [List.getElem_range] at h2
  subst h2
  exact ⟨h1, by rw [Int.zero_add]⟩
theorem rng_len (a : Int) (n : Nat) : (rngD a n).length = n := by
  unfold rngD
  rw [List.length_map, List.length_range]
def AtT (F : Fs) (a : Nat) (ds : List D) (t : T) : Prop := F a (cls ds) = some (t, cls ds)
theorem wc_atT {F : Fs} {f : Nat} {pm : List Nat} {xs : List (D ⊕ Nat)} {ds : List D} {t : T} {rt : Rt} {Q : T → Rt → Prop} (h : AtT F f ds t) (e : perm xs pm = some (ds.map .inl)) (k : Q t rt) : Wc F f pm xs rt Q := by
  refine wc_of e (by rw [inl_muts]; exact List.nodup_nil) (inl_perm ds) h rfl ?_
  rw [inl_back, inl_clr]
  exact k
theorem atT_of {g : List (Str × D)} {G : List Fn} {k a : Nat} {fn : Fn} {ds : List D} {t : T} (e : G[a]? = some fn) (h : Wf g (sem g G k) fn (cls ds) fun u us => u = t ∧ us = cls ds) : AtT (sem g G (k + 1)) a ds t := by
  obtain ⟨u, us, e2, rfl, rfl⟩ := h
  exact sem_of e e2
end Mi
namespace Mi
open PySem L2
section
variable {c : Cfg} {mv : Bool} {sl : Sl} {rt : Rt}
theorem We.mono {e : E} {Q Q' : T → Rt → Prop} (h : We c mv sl e rt Q) (m : ∀ t rt, Q t rt → Q' t rt) : We c mv sl e rt Q' := by
  obtain ⟨t, r, e, q⟩ := h
  exact ⟨t, r, e, m _ _ q⟩
theorem Wes.mono {e : Es} {Q Q' : List T → Rt → Prop} (h : Wes c mv sl e rt Q) (m : ∀ t rt, Q t rt → Q' t rt) : Wes c mv sl e rt Q' := by
  obtain ⟨t, r, e, q⟩ := h
  exact ⟨t, r, e, m _ _ q⟩
theorem Wa.mono {e : Es} {Q Q' : List (D ⊕ Nat) → Rt → Prop} (h : Wa c sl e rt Q) (m : ∀ t rt, Q t rt → Q' t rt) : Wa c sl e rt Q' := by
  obtain ⟨t, r, e, q⟩ := h
  exact ⟨t, r, e, m _ _ q⟩
theorem Wi.mono {e : It} {Q Q' : List D → Rt → Prop} (h : Wi c sl e rt Q) (m : ∀ t rt, Q t rt → Q' t rt) : Wi c sl e rt Q' := by
  obtain ⟨t, r, e, q⟩ := h
  exact ⟨t, r, e, m _ _ q⟩
theorem Ws.mono {e : Ss} {Q Q' : Fl → Sl → Rt → Prop} (h : Ws c e sl rt Q) (m : ∀ f sl rt, Q f sl rt → Q' f sl rt) : Ws c e sl rt Q' := by
  obtain ⟨f, t, r, e, q⟩ := h
  exact ⟨f, t, r, e, m _ _ _ q⟩
theorem Wx.mono {e : St} {Q Q' : Fl → Sl → Rt → Prop} (h : Wx c e sl rt Q) (m : ∀ f sl rt, Q f sl rt → Q' f sl rt) : Wx c e sl rt Q' := by
  obtain ⟨f, t, r, e, q⟩ := h
  exact ⟨f, t, r, e, m _ _ _ q⟩
theorem Wg.mono {tg : Tg} {b : Ss} {xs : List D} {Q Q' : Fl → Sl → Rt → Prop} (h : Wg c tg b xs sl rt Q) (m : ∀ f sl rt, Q f sl rt → Q' f sl rt) : Wg c tg b xs sl rt Q' := by
  obtain ⟨f, t, r, e, q⟩ := h
  exact ⟨f, t, r, e, m _ _ _ q⟩
theorem Wc.mono {F : Fs} {f : Nat} {pm : List Nat} {xs : List (D ⊕ Nat)} {Q Q' : T → Rt → Prop} (h : Wc F f pm xs rt Q) (m : ∀ t rt, Q t rt → Q' t rt) : Wc F f pm xs rt Q' := by
  obtain ⟨t, r, e, q⟩ := h
  exact ⟨t, r, e, m _ _ q⟩
theorem Wl.mono {own : List Nat} {tg : Tg} {cond elt : E} {xs : List D} {Q Q' : T → Rt → Prop} (h : Wl c sl own tg cond elt xs rt Q) (m : ∀ t rt, Q t rt → Q' t rt) : Wl c sl own tg cond elt xs rt Q' := by
  obtain ⟨t, r, e, q⟩ := h
  exact ⟨t, r, e, m _ _ q⟩
theorem Wm.mono {F : Fs} {cc f : Nat} {pm : List Nat} {xs : List (D ⊕ Nat)} {Q Q' : T → Prop} (h : Wm F cc f pm xs Q) (m : ∀ t, Q t → Q' t) : Wm F cc f pm xs Q' := by
  obtain ⟨t, e, q⟩ := h
  exact ⟨t, e, m _ q⟩
end
theorem Ob.mono {op : BOp} {x y : D} {Q Q' : T → Prop} (h : Ob op x y Q) (m : ∀ t, Q t → Q' t) : Ob op x y Q' := by
  obtain ⟨t, e, q⟩ := h
  exact ⟨t, e, m _ q⟩
theorem Oc.mono {op : COp} {x y : D} {Q Q' : Bool → Prop} (h : Oc op x y Q) (m : ∀ t, Q t → Q' t) : Oc op x y Q' := by
  obtain ⟨t, e, q⟩ := h
  exact ⟨t, e, m _ q⟩
theorem Of.mono {f : F1} {x : D} {Q Q' : T → Prop} (h : Of f x Q) (m : ∀ t, Q t → Q' t) : Of f x Q' := by
  obtain ⟨t, e, q⟩ := h
  exact ⟨t, e, m _ q⟩
inductive A where
  | any | v (d : D) | o (t : T) | p | w (d : D)
def Holds (np : Nat) (sl : Sl) (rt : Rt) (j : Nat) : A → Prop
  | .any => True
  | .v d => sl[j]? = some (some (.v d))
  | .o t => sl[j]? = some (some (.r (np + j))) ∧ rt[np + j]? = some (some t)
  | .p => sl[j]? = some (some (.r j)) ∧ j < np
  | .w d => ∃ t, pt sl rt (.var j) = some t ∧ t.d = d ∧ (t.isCl = true ∨ sl[j]? = some (some (.r (np + j))))
def HomeA (np : Nat) (sl : Sl) : Prop := ∀ j k : Nat, sl[j]? = some (some (.r k)) → k = np + j ∨ (k = j ∧ j < np)
structure Fr (np : Nat) (as : List A) (ps : List T) (sl : Sl) (rt : Rt) : Prop where
  ls : sl.length = as.length
  lr : rt.length = np + as.length
  lp : ps.length = np
  hp : ∀ (j : Nat) (t : T), ps[j]? = some t → rt[j]? = some (some t)
  home : HomeA np sl
  hold : ∀ (j : Nat) (a : A), as[j]? = some a → Holds np sl rt j a
theorem pt_var (sl : Sl) (rt : Rt) (i : Nat) : pt sl rt (.var i) = match sl[i]? with
    | some (some (.v d)) => some (.cl d)
    | some (some (.r k)) => match rt[k]? with | some (some t) => some t | _ => none
    | _ => none := by unfold pt; rfl
section
variable {np : Nat} {as : List A} {ps : List T} {sl : Sl} {rt : Rt}
theorem Fr.upd (f : Fr np as ps sl rt) {i : Nat} {sl' : Sl} {rt' : Rt} {a : A} {ps' : List T} (s : ∀ j : Nat, j ≠ i → sl'[j]? = sl[j]?) (ls : sl'.length = sl.length) (lr : rt'.length = rt.length)
    (r : ∀ k : Nat, k ≠ np + i → (k = i → ¬ i < np) → rt'[k]? = rt[k]?) (hm : ∀ k, sl'[i]? = some (some (.r k)) → k = np + i ∨ (k = i ∧ i < np)) (lp : ps'.length = np) (hp : ∀ (j : Nat) (t : T), ps'[j]? = some t → rt'[j]? = some (some t))
    (ha : Holds np sl' rt' i a) : Fr np (as.set i a) ps' sl' rt' := by
  refine ⟨by rw [List.length_set, ls, f.ls], by rw [List.length_set, lr, f.lr], lp, hp, ?_, ?_⟩
  · intro j k e
    by_cases h : j = i
    · subst h; exact hm k e
    · rw [s j h] at e; exact f.home j k e
  · intro j b e
    rw [List.getElem?_set] at e
    split at e
    · rename_i h
      subst h
      split at e
      · cases e; exact ha
      · cases e
    · rename_i h
      have h : j ≠ i := fun q => h q.symm
      have hb := f.hold j b e
      have hr : ∀ k, sl[j]? = some (some (.r k)) → rt'[k]? = rt[k]? := fun k e => by
        rcases f.home j k e with q | ⟨q, q2⟩ <;> exact r k (by omega) (by omega)
      have hv : pt sl' rt' (.var j) = pt sl rt (.var j) := by
        rw [pt_var, pt_var, s j h]
        cases e1 : sl[j]? with
        | none => rfl
        | some x =>
          cases x with
          | none => rfl
          | some x =>
            cases x with
            | v d => rfl
            | r k => simp only [hr k e1]
      cases b with
      | any => trivial
      | v d => exact (s j h).trans hb
      | o t => exact ⟨(s j h).trans hb.1, (hr _ hb.1).trans hb.2⟩
      | p => exact ⟨(s j h).trans hb.1, hb.2⟩
      | w d =>
        obtain ⟨t, e1, e2, e3⟩ := hb
        exact ⟨t, hv.trans e1, e2, e3.imp id fun q => (s j h).trans q⟩
theorem Fr.keep (f : Fr np as ps sl rt) {i : Nat} (h : as[i]? = some a) : as.set i a = as := by
  apply List.ext_getElem?
  intro j
  rw [List.getElem?_set]
  split
  · rename_i e
    subst e
    split
    · exact h.symm
    · rename_i q
      rw [List.getElem?_eq_none (by omega)] at h
      cases h
  · rfl
theorem len_of {α : Type} {l : List α} {i : Nat} {x : α} (h : l[i]? = some x) : i < l.length := (List.getElem?_eq_some_iff.mp h).1
theorem Fr.setv (f : Fr np as ps sl rt) {i : Nat} (hi : i < as.length) (d : D) : Fr np (as.set i (.v d)) ps (sl.set i (some (.v d))) rt := by
  have hi' : i < sl.length := by rw [f.ls]; exact hi
  have e : (sl.set i (some (S.v d)))[i]? = some (some (.v d)) := by rw [List.getElem?_set_self hi']
  refine f.upd (fun j h => by rw [List.getElem?_set_ne (fun q => h q.symm)]) List.length_set rfl (fun k _ _ => rfl) (fun k q => by rw [e] at q; cases q) f.lp f.hp e
theorem Fr.setn (f : Fr np as ps sl rt) (i : Nat) : Fr np (as.set i .any) ps (sl.set i none) rt := by
  refine f.upd (fun j h => by rw [List.getElem?_set_ne (fun q => h q.symm)]) List.length_set rfl (fun k _ _ => rfl) (fun k q => ?_) f.lp f.hp trivial
  rw [List.getElem?_set] at q
  split at q
  · split at q <;> cases q
  · rename_i h; exact absurd rfl h
theorem Fr.wip (f : Fr np as ps sl rt) (own : List Nat) : Fr np (own.foldr (fun i as => as.set i .any) as) ps (wip sl own) rt := by
  induction own with
  | nil => exact f
  | cons v vs ih => exact ih.setn v
theorem Fr.seto (f : Fr np as ps sl rt) {i : Nat} (hi : i < as.length) (t : T) : Fr np (as.set i (.o t)) ps (sl.set i (some (.r (np + i)))) (rt.set (np + i) (some t)) := by
  have hi' : i < sl.length := by rw [f.ls]; exact hi
  have e : (sl.set i (some (S.r (np + i))))[i]? = some (some (.r (np + i))) := by rw [List.getElem?_set_self hi']
  have hr : np + i < rt.length := by rw [f.lr]; omega
  refine f.upd (fun j h => by rw [List.getElem?_set_ne (fun q => h q.symm)]) List.length_set List.length_set (fun k h _ => by rw [List.getElem?_set_ne (fun q => h q.symm)]) (fun k q => by rw [e] at q; cases q; exact .inl rfl) f.lp
    (fun j t q => ?_) ⟨e, by rw [List.getElem?_set_self hr]⟩
  have := len_of q
  rw [List.getElem?_set_ne (by rw [f.lp] at this; omega)]
  exact f.hp j t q
theorem Fr.upo (f : Fr np as ps sl rt) {i : Nat} {u : T} (h : as[i]? = some (.o u)) (t : T) : Fr np (as.set i (.o t)) ps sl (rt.set (np + i) (some t)) := by
  have := f.seto (len_of h) t
  have e := (f.hold i _ h).1
  rwa [show sl.set i (some (.r (np + i))) = sl by
    apply List.ext_getElem?
    intro j
    rw [List.getElem?_set]
    split
    · rename_i q
      subst q
      rw [if_pos (len_of e), e]
    · rfl] at this
theorem Fr.upp (f : Fr np as ps sl rt) {i : Nat} (h : as[i]? = some .p) (t : T) : Fr np as (ps.set i t) sl (rt.set i (some t)) := by
  have hb := f.hold i _ h
  rw [← f.keep h]
  have hr : i < rt.length := by have := hb.2; rw [f.lr]; omega
  refine f.upd (fun j _ => rfl) rfl List.length_set (fun k _ q => by rw [List.getElem?_set_ne (fun z => q z.symm hb.2)]) (fun k q => f.home i k q) (List.length_set.trans f.lp) (fun j u q => ?_) hb
  rw [List.getElem?_set] at q ⊢
  split at q
  · rename_i e
    rw [if_pos e, if_pos hr]
    split at q <;> cases q
    rfl
  · rename_i e
    rw [if_neg e]
    exact f.hp j u q
theorem Fr.upw (f : Fr np as ps sl rt) {i : Nat} {d : D} {u : T} (h : as[i]? = some (.w d)) (e : sl[i]? = some (some (.r (np + i)))) (e2 : rt[np + i]? = some (some u)) : Fr np as ps sl (rt.set (np + i) (some (.cl u.d))) := by
  obtain ⟨t', e3, e4, e5⟩ := f.hold i _ h
  rw [pt_var, e] at e3
  simp only [e2] at e3
  cases e3
  rw [← f.keep h]
  have hr := len_of e2
  refine f.upd (fun j _ => rfl) rfl List.length_set (fun k' q1 q2 => by rw [List.getElem?_set_ne (fun z => q1 z.symm)]) (fun k q => f.home i k q) f.lp (fun j v q => ?_) ⟨.cl u.d, ?_, e4, .inl rfl⟩
  · have := len_of q
    rw [f.lp] at this
    rw [List.getElem?_set_ne (by omega)]
    exact f.hp j v q
  · rw [pt_var, e]
    simp only [List.getElem?_set_self hr]
inductive Les (ps : List T) : Nat → List A → List A → Prop where
  | nil {j : Nat} : Les ps j [] []
  | any {j : Nat} {a : A} {as bs : List A} : Les ps (j + 1) as bs → Les ps j (a :: as) (.any :: bs)
  | same {j : Nat} {a : A} {as bs : List A} : Les ps (j + 1) as bs → Les ps j (a :: as) (a :: bs)
  | v {j : Nat} {d : D} {as bs : List A} : Les ps (j + 1) as bs → Les ps j (.v d :: as) (.w d :: bs)
  | o {j : Nat} {t : T} {d : D} {as bs : List A} : t.d = d → Les ps (j + 1) as bs → Les ps j (.o t :: as) (.w d :: bs)
  | p {j : Nat} {d : D} {as bs : List A} : ps[j]? = some (.cl d) → Les ps (j + 1) as bs → Les ps j (.p :: as) (.w d :: bs)
theorem Les.hold (h2 : ∀ (j : Nat) (t : T), ps[j]? = some t → rt[j]? = some (some t)) : ∀ {j : Nat} {as bs : List A}, Les ps j as bs → (∀ (i : Nat) (a : A), as[i]? = some a → Holds np sl rt (j + i) a) → ∀ (i : Nat) (a : A), bs[i]? = some a → Holds np sl rt (j + i) a := by
  intro j as bs l
  induction l with
  | nil => exact fun h i a e => h i a e
  | @any j a as bs _ ih =>
    intro h i b e
    cases i with
    | zero => cases e; trivial
    | succ i =>
      rw [List.getElem?_cons_succ] at e
      have := ih (fun i a q => by have := h (i + 1) a (by rw [List.getElem?_cons_succ]; exact q); rwa [show j + (i + 1) = j + 1 + i by omega] at this) i b e
      rwa [show j + 1 + i = j + (i + 1) by omega] at this
  | @same j a as bs _ ih =>
    intro h i b e
    cases i with
    | zero => exact h 0 b e
    | succ i =>
      rw [List.getElem?_cons_succ] at e
      have := ih (fun i a q => by have := h (i + 1) a (by rw [List.getElem?_cons_succ]; exact q); rwa [show j + (i + 1) = j + 1 + i by omega] at this) i b e
      rwa [show j + 1 + i = j + (i + 1) by omega] at this
  | @v j d as bs _ ih =>
    intro h i b e
    cases i with
    | zero =>
      cases e
      have := h 0 _ rfl
      exact ⟨.cl d, by rw [pt_var, show sl[j + 0]? = _ from this], rfl, .inl rfl⟩
    | succ i =>
      rw [List.getElem?_cons_succ] at e
      have := ih (fun i a q => by have := h (i + 1) a (by rw [List.getElem?_cons_succ]; exact q); rwa [show j + (i + 1) = j + 1 + i by omega] at this) i b e
      rwa [show j + 1 + i = j + (i + 1) by omega] at this
  | @o j t d as bs q _ ih =>
    intro h i b e
    cases i with
    | zero =>
      cases e
      obtain ⟨h1, h2⟩ := h 0 _ rfl
      exact ⟨t, by rw [pt_var, h1]; simp only [h2], q, .inr h1⟩
    | succ i =>
      rw [List.getElem?_cons_succ] at e
      have := ih (fun i a q => by have := h (i + 1) a (by rw [List.getElem?_cons_succ]; exact q); rwa [show j + (i + 1) = j + 1 + i by omega] at this) i b e
      rwa [show j + 1 + i = j + (i + 1) by omega] at this
  | @p j d as bs q1 _ ih =>
    intro h i b e
    cases i with
    | zero =>
      cases e
      obtain ⟨h1, h3⟩ := h 0 _ rfl
      exact ⟨.cl d, by rw [pt_var, h1]; simp only [Nat.add_zero, h2 _ _ q1], rfl, .inl rfl⟩
    | succ i =>
      rw [List.getElem?_cons_succ] at e
      have := ih (fun i a q => by have := h (i + 1) a (by rw [List.getElem?_cons_succ]; exact q); rwa [show j + (i + 1) = j + 1 + i by omega] at this) i b e
      rwa [show j + 1 + i = j + (i + 1) by omega] at this
theorem Les.len : ∀ {j : Nat} {as bs : List A}, Les ps j as bs → bs.length = as.length := by
  intro j as bs l
  induction l with
  | nil => rfl
  | any _ ih => simp [ih]
  | same _ ih => simp [ih]
  | v _ ih => simp [ih]
  | o _ _ ih => simp [ih]
  | p _ _ ih => simp [ih]
theorem Les.rfl' : ∀ (as : List A) (j : Nat), Les ps j as as
  | [], j => .nil
  | a :: as, j => .same (Les.rfl' as (j + 1))
theorem Fr.le (f : Fr np as ps sl rt) {bs : List A} (l : Les ps 0 as bs) : Fr np bs ps sl rt :=
  ⟨f.ls.trans l.len.symm, by rw [f.lr, l.len], f.lp, f.hp, f.home, fun j a e => by
    have := l.hold (np := np) (sl := sl) (rt := rt) f.hp (fun i a e => by rw [Nat.zero_add]; exact f.hold i a e) j a e
    rwa [Nat.zero_add] at this⟩
end
mutual
def x0A (as : List A) (ps : List T) : X0 → Option D
  | .int i => some (.int i)
  | .str s => some (.str s)
  | .rd p => match ptA as ps p with | some (.cl d) => if d.scal then some d else none | _ => none
  | .add a b => match x0A as ps a, x0A as ps b with | some (.int i), some (.int j) => some (.int (i + j)) | _, _ => none
  | .sub a b => match x0A as ps a, x0A as ps b with | some (.int i), some (.int j) => some (.int (i - j)) | _, _ => none
  | .neg a => match x0A as ps a with | some (.int i) => some (.int (-i)) | _ => none
  | .len p => match ptA as ps p with | some t => (lenD t.d).map D.int | _ => none
def ptA (as : List A) (ps : List T) : P → Option T
  | .var i => match as[i]? with
    | some (.v d) => some (.cl d)
    | some (.o t) => some t
    | some .p => ps[i]?
    | some (.w d) => some (.cl d)
    | _ => none
  | .ix p e => match ptA as ps p, x0A as ps e with | some t, some i => ixT t i | _, _ => none
  | .at p f => match ptA as ps p with | some t => atT t f | _ => none
end
def exA (as : List A) (i : Nat) : Bool := match as[i]? with
  | some (.w _) => false
  | _ => true
theorem atI_map {α β : Type} (g : α → β) (xs : List α) (i : Int) : atI (xs.map g) i = (atI xs i).map g := by
  unfold atI
  rw [List.length_map]
  cases ixN xs.length i with
  | none => rfl
  | some j => simp
theorem ds_map : ∀ ts : List T, T.ds ts = ts.map T.d
  | [] => rfl
  | t :: r => by unfold T.ds; rw [ds_map r]; rfl
theorem lookK_map {α β : Type} (g : α → β) : ∀ (ks : List Key) (xs : List α) (k : Key), lookK ks (xs.map g) k = (lookK ks xs k).map g
  | [], _, _ => by unfold lookK; rfl
  | _ :: _, [], _ => by unfold lookK; rfl
  | k' :: ks, x :: xs, k => by
    rw [List.map_cons]
    unfold lookK
    split
    · rfl
    · exact lookK_map g ks xs k
theorem lookN_map {α β : Type} (g : α → β) : ∀ (ks : List Str) (xs : List α) (k : Str), lookN ks (xs.map g) k = (lookN ks xs k).map g
  | [], _, _ => by unfold lookN; rfl
  | _ :: _, [], _ => by unfold lookN; rfl
  | k' :: ks, x :: xs, k => by
    rw [List.map_cons]
    unfold lookN
    split
    · rfl
    · exact lookN_map g ks xs k
theorem ixD_d (t : T) (i : D) : ixD t.d i = (ixT t i).map T.d := by
  cases t with
  | cl d => show ixD d i = ((ixD d i).map T.cl).map T.d; cases ixD d i <;> rfl
  | ls ts =>
    have : (T.ls ts).d = .lst (ts.map T.d) := by unfold T.d; rw [ds_map]
    rw [this]
    cases i with
    | int i => show atI (ts.map T.d) i = (atI ts i).map T.d; exact atI_map _ _ _
    | _ => rfl
  | dc ks ts =>
    have : (T.dc ks ts).d = .dct ks (ts.map T.d) := by unfold T.d; rw [ds_map]
    rw [this]
    show i.key.bind (lookK ks (ts.map T.d)) = (i.key.bind (lookK ks ts)).map T.d
    cases i.key with
    | none => rfl
    | some k => exact lookK_map _ _ _ _
  | ob cc ns ts => cases i <;> rfl
theorem atD_d (t : T) (f : Str) : atD t.d f = (atT t f).map T.d := by
  cases t with
  | cl d => show atD d f = ((atD d f).map T.cl).map T.d; cases atD d f <;> rfl
  | ls ts => rfl
  | dc ks ts => rfl
  | ob cc ns ts =>
    have : (T.ob cc ns ts).d = .ins cc ns (ts.map T.d) := by unfold T.d; rw [ds_map]
    rw [this]
    exact lookN_map _ _ _ _
section
variable {np : Nat} {as : List A} {ps : List T} {sl : Sl} {rt : Rt}
theorem scal_cl {t : T} {d : D} (h : t.d = d) (s : d.scal = true) : t = .cl d := by
  subst h
  cases t with
  | cl d => rfl
  | _ => cases s
mutual
theorem x0A_ok (f : Fr np as ps sl rt) : ∀ (e : X0) (d : D), x0A as ps e = some d → x0 sl rt e = some d
  | .int i, d, h => by unfold x0A at h; unfold x0; exact h
  | .str i, d, h => by unfold x0A at h; unfold x0; exact h
  | .rd p, d, h => by
    unfold x0A at h
    unfold x0
    split at h
    · rename_i d' e
      split at h
      · rename_i s
        cases h
        obtain ⟨t, e1, e2⟩ := ptA_ok f p _ e
        rcases e2 with rfl | ⟨e2, -⟩
        · rw [e1]; simp only; rw [if_pos s]
        · cases e2
          rw [e1, scal_cl rfl s]; simp only; rw [if_pos s]; rfl
      · cases h
    · cases h
  | .add a b, d, h => by
    unfold x0A at h
    unfold x0
    split at h
    · rename_i i j e1 e2
      rw [x0A_ok f a _ e1, x0A_ok f b _ e2]
      exact h
    · cases h
  | .sub a b, d, h => by
    unfold x0A at h
    unfold x0
    split at h
    · rename_i i j e1 e2
      rw [x0A_ok f a _ e1, x0A_ok f b _ e2]
      exact h
    · cases h
  | .neg a, d, h => by
    unfold x0A at h
    unfold x0
    split at h
    · rename_i i e1
      rw [x0A_ok f a _ e1]
      exact h
    · cases h
  | .len p, d, h => by
    unfold x0A at h
    unfold x0
    split at h
    · rename_i t' e
      obtain ⟨t, e1, e2⟩ := ptA_ok f p _ e
      rw [e1]
      rcases e2 with rfl | ⟨e2, -⟩
      · exact h
      · subst e2; exact h
    · cases h
theorem ptA_ok (f : Fr np as ps sl rt) : ∀ (p : P) (t : T), ptA as ps p = some t → ∃ t', pt sl rt p = some t' ∧ (t' = t ∨ (t = .cl t'.d ∧ exA as p.root = false))
  | .var i, t, h => by
    unfold ptA at h
    split at h
    · rename_i d e
      cases h
      have := f.hold i _ e
      exact ⟨.cl d, by rw [pt_var, show sl[i]? = _ from this], .inl rfl⟩
    · rename_i u e
      cases h
      have := f.hold i _ e
      exact ⟨t, by rw [pt_var, this.1]; simp only [this.2], .inl rfl⟩
    · rename_i e
      have := f.hold i _ e
      exact ⟨t, by rw [pt_var, this.1]; simp only [f.hp _ _ h], .inl rfl⟩
    · rename_i d e
      cases h
      obtain ⟨t, e1, e2, e3⟩ := f.hold i _ e
      subst e2
      exact ⟨t, e1, .inr ⟨rfl, by show exA as i = false; unfold exA; rw [e]⟩⟩
    · cases h
  | .ix p e, t, h => by
    unfold ptA at h
    unfold pt
    split at h
    · rename_i u i e1 e2
      obtain ⟨u', e3, e4⟩ := ptA_ok f p _ e1
      rw [e3, x0A_ok f e _ e2]
      rcases e4 with rfl | ⟨rfl, e4⟩
      · exact ⟨t, h, .inl rfl⟩
      · have h : (ixD u'.d i).map T.cl = some t := h
        rw [ixD_d] at h
        simp only
        cases e5 : ixT u' i with
        | none => rw [e5] at h; cases h
        | some v => rw [e5] at h; cases h; exact ⟨v, rfl, .inr ⟨rfl, e4⟩⟩
    · cases h
  | .at p g, t, h => by
    unfold ptA at h
    unfold pt
    split at h
    · rename_i u e1
      obtain ⟨u', e3, e4⟩ := ptA_ok f p _ e1
      rw [e3]
      rcases e4 with rfl | ⟨rfl, e4⟩
      · exact ⟨t, h, .inl rfl⟩
      · have h : (atD u'.d g).map T.cl = some t := h
        rw [atD_d] at h
        simp only
        cases e5 : atT u' g with
        | none => rw [e5] at h; cases h
        | some v => rw [e5] at h; cases h; exact ⟨v, rfl, .inr ⟨rfl, e4⟩⟩
    · cases h
end
theorem ptA_ex (f : Fr np as ps sl rt) {p : P} {t : T} (h : ptA as ps p = some t) (x : exA as p.root = true) : pt sl rt p = some t := by
  obtain ⟨t', e1, e2⟩ := ptA_ok f p t h
  rcases e2 with rfl | ⟨-, e2⟩
  · exact e1
  · rw [x] at e2; cases e2
theorem ixT_cl {d : D} {i : D} {t : T} (h : ixT (.cl d) i = some t) : t.isCl = true := by
  have h : (ixD d i).map T.cl = some t := h
  cases e : ixD d i with
  | none => rw [e] at h; cases h
  | some x => rw [e] at h; cases h; rfl
theorem atT_cl {d : D} {i : Str} {t : T} (h : atT (.cl d) i = some t) : t.isCl = true := by
  have h : (atD d i).map T.cl = some t := h
  cases e : atD d i with
  | none => rw [e] at h; cases h
  | some x => rw [e] at h; cases h; rfl
theorem isCl_of {t : T} (h : t.isCl = true) : t = .cl t.d := by
  cases t with
  | cl d => rfl
  | _ => cases h
theorem pt_open : ∀ {p : P} {t : T}, pt sl rt p = some t → t.isCl = false → ∃ k u, sl[p.root]? = some (some (.r k)) ∧ rt[k]? = some (some u)
  | .var i, t, h, n => by
    rw [pt_var] at h
    split at h
    · cases h; cases n
    · rename_i k e
      split at h
      · rename_i u e2
        exact ⟨k, u, e, e2⟩
      · cases h
    · cases h
  | .ix p e, t, h, n => by
    unfold pt at h
    split at h
    · rename_i u i e1 e2
      cases q : u.isCl with
      | false => exact pt_open (p := p) e1 q
      | true =>
        rw [isCl_of q] at h
        rw [ixT_cl h] at n
        cases n
    · cases h
  | .at p g, t, h, n => by
    unfold pt at h
    split at h
    · rename_i u e1
      cases q : u.isCl with
      | false => exact pt_open (p := p) e1 q
      | true =>
        rw [isCl_of q] at h
        rw [atT_cl h] at n
        cases n
    · cases h
end
def isO (as : List A) (i : Nat) : Bool := match as[i]? with
  | some (.o _) => true
  | _ => false
def clA (as : List A) (i : Nat) : List A := match as[i]? with
  | some (.o t) => as.set i (.o (.cl t.d))
  | _ => as
def clP (as : List A) (ps : List T) (i : Nat) : List T := match as[i]? with
  | some .p => match ps[i]? with
    | some t => ps.set i (.cl t.d)
    | none => ps
  | _ => ps
theorem close_of {rt : Rt} {k : Nat} {u : T} (h : rt[k]? = some (some u)) : close rt k = rt.set k (some (.cl u.d)) := by
  unfold close
  apply List.ext_getElem?
  intro j
  rw [List.getElem?_modify, List.getElem?_set]
  split
  · rename_i e
    subst e
    rw [if_pos (len_of h), h]
    rfl
  · simp
def upA (as : List A) (ps : List T) : P → T → Option (List A × List T)
  | .var i, t => match as[i]? with
    | some (.o _) => some (as.set i (.o t), ps)
    | some .p => some (as, ps.set i t)
    | _ => none
  | .ix p e, t => match ptA as ps p, x0A as ps e with
    | some u, some i => (setIxT u i t).bind (upA as ps p)
    | _, _ => none
  | .at p f, t => match ptA as ps p with
    | some (.ob c ns ts) => if (lookN ns ts f).isSome then upA as ps p (.ob c ns (upP.setN f t ns ts)) else none
    | _ => none
section
variable {np : Nat} {as : List A} {ps : List T} {sl : Sl} {rt : Rt}
theorem upA_ex : ∀ {p : P} {t : T} {r : List A × List T}, upA as ps p t = some r → exA as p.root = true
  | .var i, t, r, h => by
    unfold upA at h
    show exA as i = true
    unfold exA
    split at h
    · rename_i e; rw [e]
    · rename_i e; rw [e]
    · cases h
  | .ix p e, t, r, h => by
    unfold upA at h
    split at h
    · rename_i u i e1 e2
      cases q : setIxT u i t with
      | none => rw [q] at h; cases h
      | some v => rw [q] at h; exact upA_ex (p := p) h
    · cases h
  | .at p g, t, r, h => by
    unfold upA at h
    split at h
    · split at h
      · exact upA_ex (p := p) h
      · cases h
    · cases h
theorem upA_ok (f : Fr np as ps sl rt) : ∀ {p : P} {t : T} {as' : List A} {ps' : List T}, upA as ps p t = some (as', ps') → ∃ rt', upP sl rt p t = some rt' ∧ Fr np as' ps' sl rt'
  | .var i, t, as', ps', h => by
    unfold upA at h
    unfold upP
    split at h
    · rename_i u e
      cases h
      have hb := f.hold i _ e
      refine ⟨_, ?_, f.upo e t⟩
      rw [hb.1]
      simp only
      rw [if_pos (len_of hb.2)]
    · rename_i e
      cases h
      have hb := f.hold i _ e
      refine ⟨_, ?_, f.upp e t⟩
      rw [hb.1]
      simp only
      rw [if_pos (by rw [f.lr]; have := hb.2; omega)]
    · cases h
  | .ix p e, t, as', ps', h => by
    have x := upA_ex h
    unfold upA at h
    unfold upP
    split at h
    · rename_i u i e1 e2
      rw [ptA_ex f e1 x, x0A_ok f e _ e2]
      simp only
      cases q : setIxT u i t with
      | none => rw [q] at h; cases h
      | some v => rw [q] at h; exact upA_ok f (p := p) h
    · cases h
  | .at p g, t, as', ps', h => by
    have x := upA_ex h
    unfold upA at h
    unfold upP
    split at h
    · rename_i c ns ts e1
      rw [ptA_ex f e1 x]
      simp only
      split at h
      · rename_i q
        rw [if_pos q]
        exact upA_ok f (p := p) h
      · cases h
    · cases h
end
structure Ve (c : Cfg) (mv : Bool) (e : E) (as : List A) (ps : List T) (Q : T → List A → List T → Prop) : Prop where
  out : ∀ sl rt, Fr c.np as ps sl rt → We c mv sl e rt fun t rt' => ∃ as' ps', Fr c.np as' ps' sl rt' ∧ Q t as' ps'
structure Ves (c : Cfg) (mv : Bool) (e : Es) (as : List A) (ps : List T) (Q : List T → List A → List T → Prop) : Prop where
  out : ∀ sl rt, Fr c.np as ps sl rt → Wes c mv sl e rt fun t rt' => ∃ as' ps', Fr c.np as' ps' sl rt' ∧ Q t as' ps'
def conc (sl : Sl) : D ⊕ Nat → D ⊕ Nat
  | .inl d => .inl d
  | .inr i => match sl[i]? with
    | some (some (.r k)) => .inr k
    | _ => .inr i
structure Va (c : Cfg) (e : Es) (as : List A) (ps : List T) (Q : List (D ⊕ Nat) → List A → List T → Prop) : Prop where
  out : ∀ sl rt, Fr c.np as ps sl rt → Wa c sl e rt fun xs rt' => ∃ ys as' ps', xs = ys.map (conc sl) ∧ Fr c.np as' ps' sl rt' ∧ Q ys as' ps'
structure Vi (c : Cfg) (e : It) (as : List A) (ps : List T) (Q : List D → List A → List T → Prop) : Prop where
  out : ∀ sl rt, Fr c.np as ps sl rt → Wi c sl e rt fun t rt' => ∃ as' ps', Fr c.np as' ps' sl rt' ∧ Q t as' ps'
structure Vl (c : Cfg) (own : List Nat) (tg : Tg) (cond elt : E) (xs : List D) (as : List A) (ps : List T) (Q : T → List A → List T → Prop) : Prop where
  out : ∀ sl rt, Fr c.np as ps sl rt → Wl c sl own tg cond elt xs rt fun t rt' => ∃ as' ps', Fr c.np as' ps' sl rt' ∧ Q t as' ps'
structure Vc (c : Cfg) (f : Nat) (pm : List Nat) (xs : List (D ⊕ Nat)) (as : List A) (ps : List T) (Q : T → List A → List T → Prop) : Prop where
  out : ∀ sl rt, Fr c.np as ps sl rt → Wc c.F f pm (xs.map (conc sl)) rt fun t rt' => ∃ as' ps', Fr c.np as' ps' sl rt' ∧ Q t as' ps'
structure Vs (c : Cfg) (e : Ss) (as : List A) (ps : List T) (Q : Fl → List A → List T → Prop) : Prop where
  out : ∀ sl rt, Fr c.np as ps sl rt → Ws c e sl rt fun f sl' rt' => ∃ as' ps', Fr c.np as' ps' sl' rt' ∧ Q f as' ps'
structure Vx (c : Cfg) (e : St) (as : List A) (ps : List T) (Q : Fl → List A → List T → Prop) : Prop where
  out : ∀ sl rt, Fr c.np as ps sl rt → Wx c e sl rt fun f sl' rt' => ∃ as' ps', Fr c.np as' ps' sl' rt' ∧ Q f as' ps'
structure Vg (c : Cfg) (tg : Tg) (b : Ss) (xs : List D) (as : List A) (ps : List T) (Q : Fl → List A → List T → Prop) : Prop where
  out : ∀ sl rt, Fr c.np as ps sl rt → Wg c tg b xs sl rt fun f sl' rt' => ∃ as' ps', Fr c.np as' ps' sl' rt' ∧ Q f as' ps'
structure Kv (c : Cfg) (r : Ss) (Q : Fl → List A → List T → Prop) (f : Fl) (as : List A) (ps : List T) : Prop where out : match f with
  | .nx => Vs c r as ps Q
  | f => Q f as ps
end Mi
namespace Mi
open PySem L2
section
variable {c : Cfg} {mv : Bool} {as : List A} {ps : List T} {Q : T → List A → List T → Prop} {Qs : Fl → List A → List T → Prop}
theorem Ve.mono {e : E} {Q' : T → List A → List T → Prop} (h : Ve c mv e as ps Q) (m : ∀ t as ps, Q t as ps → Q' t as ps) : Ve c mv e as ps Q' := ⟨fun sl rt f => (h.out sl rt f).mono fun t rt ⟨as, ps, f, q⟩ => ⟨as, ps, f, m _ _ _ q⟩⟩
theorem Vs.mono {e : Ss} {Q' : Fl → List A → List T → Prop} (h : Vs c e as ps Qs) (m : ∀ t as ps, Qs t as ps → Q' t as ps) : Vs c e as ps Q' := ⟨fun sl rt f => (h.out sl rt f).mono fun t sl rt ⟨as, ps, f, q⟩ => ⟨as, ps, f, m _ _ _ q⟩⟩
theorem Vx.mono {e : St} {Q' : Fl → List A → List T → Prop} (h : Vx c e as ps Qs) (m : ∀ t as ps, Qs t as ps → Q' t as ps) : Vx c e as ps Q' := ⟨fun sl rt f => (h.out sl rt f).mono fun t sl rt ⟨as, ps, f, q⟩ => ⟨as, ps, f, m _ _ _ q⟩⟩
theorem ve_int {i : Int} (h : Q (.cl (.int i)) as ps) : Ve c mv (.int i) as ps Q := ⟨fun sl rt f => we_int ⟨as, ps, f, h⟩⟩
theorem ve_bl {i : Bool} (h : Q (.cl (.bl i)) as ps) : Ve c mv (.bl i) as ps Q := ⟨fun sl rt f => we_bl ⟨as, ps, f, h⟩⟩
theorem ve_non (h : Q (.cl .non) as ps) : Ve c mv .non as ps Q := ⟨fun sl rt f => we_non ⟨as, ps, f, h⟩⟩
theorem ve_str {i : Str} (h : Q (.cl (.str i)) as ps) : Ve c mv (.str i) as ps Q := ⟨fun sl rt f => we_str ⟨as, ps, f, h⟩⟩
theorem ve_glb {x : Str} {d : D} (e : c.g.lookup x = some d) (h : Q (.cl d) as ps) : Ve c mv (.glb x) as ps Q := ⟨fun sl rt f => we_glb e ⟨as, ps, f, h⟩⟩
theorem ve_x {x : X0} {d : D} (e : x0A as ps x = some d) (h : Q (.cl d) as ps) : Ve c mv (.x x) as ps Q := ⟨fun sl rt f => we_x (x0A_ok f x d e) ⟨as, ps, f, h⟩⟩
theorem Fr.closed {np : Nat} {sl : Sl} {rt : Rt} {p : P} {t : T} (f : Fr np as ps sl rt) {k : Nat} (h : pt sl rt p = some t) (n : t.isCl = false) (e : sl[p.root]? = some (some (.r k))) (ex : exA as p.root = true) (nn : as[p.root]? ≠ some .any) : Fr np (clA as p.root) (clP as ps p.root) sl (close rt k) := by
  obtain ⟨k', u, e1, e2⟩ := pt_open h n
  rw [e] at e1
  cases e1
  rw [close_of e2]
  have hi : p.root < as.length := by rw [← f.ls]; exact len_of e
  have hg := List.getElem?_eq_getElem hi
  generalize as[p.root] = a at hg
  have hb := f.hold _ _ hg
  unfold clA clP
  unfold exA at ex
  rw [hg] at ex nn ⊢
  cases a with
  | any => exact absurd rfl nn
  | v d => rw [show sl[p.root]? = _ from hb] at e; cases e
  | o v =>
    rw [hb.1] at e
    cases e
    rw [hb.2] at e2
    cases e2
    exact f.upo hg _
  | p =>
    rw [hb.1] at e
    cases e
    have hl : p.root < ps.length := by rw [f.lp]; exact hb.2
    have hq := List.getElem?_eq_getElem hl
    simp only
    rw [hq]
    rw [f.hp _ _ hq] at e2
    cases e2
    exact f.upp hg _
  | w d => cases ex
theorem ptA_any {as : List A} {ps : List T} : ∀ {p : P} {t : T}, ptA as ps p = some t → as[p.root]? ≠ some .any
  | .var i, t, h, e => by
    unfold ptA at h
    rw [show as[i]? = _ from e] at h
    cases h
  | .ix p e, t, h, q => by
    unfold ptA at h
    split at h
    · rename_i e1 _; exact ptA_any (p := p) e1 q
    · cases h
  | .at p e, t, h, q => by
    unfold ptA at h
    split at h
    · rename_i e1; exact ptA_any (p := p) e1 q
    · cases h
theorem exA_w {i : Nat} (h : exA as i = false) : ∃ d, as[i]? = some (.w d) := by
  unfold exA at h
  split at h
  · exact ⟨_, by assumption⟩
  · cases h
theorem pt_closed {sl : Sl} {rt : Rt} {k : Nat} {u : T} : ∀ {p : P} {t : T}, pt sl rt p = some t → sl[p.root]? = some (some (.r k)) → rt[k]? = some (some u) → u.isCl = true → t.isCl = true
  | .var i, t, h, e, e2, n => by
    rw [pt_var, show sl[i]? = _ from e] at h
    simp only [e2] at h
    cases h
    exact n
  | .ix p i, t, h, e, e2, n => by
    unfold pt at h
    split at h
    · rename_i u' i' e3 _
      have := pt_closed (p := p) e3 e e2 n
      rw [isCl_of this] at h
      exact ixT_cl h
    · cases h
  | .at p i, t, h, e, e2, n => by
    unfold pt at h
    split at h
    · rename_i u' e3
      have := pt_closed (p := p) e3 e e2 n
      rw [isCl_of this] at h
      exact atT_cl h
    · cases h
theorem ve_get {p : P} {d : D} (e : ptA as ps p = some (.cl d)) (m : (mv && p.isVar && !exA as p.root) = false) (h : Q (.cl d) as ps) : Ve c mv (.get p) as ps Q := ⟨fun sl rt f => by
  obtain ⟨t, e1, e2⟩ := ptA_ok f p _ e
  rcases e2 with rfl | ⟨e2, ex⟩
  · exact we_get e1 ⟨as, ps, f, h⟩
  · cases e2
    cases n : t.isCl with
    | true =>
      rw [isCl_of n] at e1
      exact we_get e1 ⟨as, ps, f, h⟩
    | false =>
      obtain ⟨k, u, e3, e4⟩ := pt_open e1 n
      obtain ⟨d', hw⟩ := exA_w ex
      rw [ex] at m
      have hk : k = c.np + p.root := by
        obtain ⟨t', q1, q2, q3⟩ := f.hold _ _ hw
        rcases q3 with q3 | q3
        · rw [pt_var, e3] at q1
          simp only [e4] at q1
          cases q1
          have := pt_closed e1 e3 e4 q3
          rw [n] at this
          cases this
        · rw [e3] at q3; cases q3; rfl
      subst hk
      refine we_getr e1 n e3 (by cases mv <;> simp_all) ?_
      rw [close_of e4]
      exact ⟨as, ps, f.upw hw e3 e4, h⟩⟩
theorem ptA_w {d : D} : ∀ {p : P} {t : T}, as[p.root]? = some (.w d) → ptA as ps p = some t → t.isCl = true
  | .var i, t, h, e => by
    unfold ptA at e
    rw [show as[i]? = _ from h] at e
    cases e
    rfl
  | .ix p i, t, h, e => by
    unfold ptA at e
    split at e
    · rename_i u i' e1 _
      have := ptA_w (p := p) h e1
      rw [isCl_of this] at e
      exact ixT_cl e
    · cases e
  | .at p i, t, h, e => by
    unfold ptA at e
    split at e
    · rename_i u e1
      have := ptA_w (p := p) h e1
      rw [isCl_of this] at e
      exact atT_cl e
    · cases e
theorem conc_inr {sl : Sl} {i k : Nat} (e : sl[i]? = some (some (.r k))) : conc sl (.inr i) = .inr k := by
  show (match sl[i]? with | some (some (S.r k)) => Sum.inr k | _ => Sum.inr i) = _
  rw [e]
theorem exA_of {np : Nat} {sl : Sl} {rt : Rt} (f : Fr np as ps sl rt) {p : P} {t : T} (e : ptA as ps p = some t) (n : t.isCl = false) : exA as p.root = true := by
  cases x : exA as p.root with
  | true => rfl
  | false =>
    obtain ⟨t', -, e2⟩ := ptA_ok f p _ e
    obtain ⟨d, hw⟩ := exA_w x
    rw [ptA_w hw e] at n
    cases n
theorem ve_getr {p : P} {t : T} (e : ptA as ps p = some t) (n : t.isCl = false) (m : (mv && p.isVar && isO as p.root) = false) (h : Q (.cl t.d) (clA as p.root) (clP as ps p.root)) : Ve c mv (.get p) as ps Q := ⟨fun sl rt f => by
  have x := exA_of f e n
  have e1 := ptA_ex f e x
  obtain ⟨k, u, e3, e4⟩ := pt_open e1 n
  refine we_getr e1 n e3 ?_ ⟨_, _, f.closed e1 n e3 x (ptA_any e), h⟩
  rcases f.home _ _ e3 with q | ⟨q, q2⟩
  · have hi := len_of e3
    rw [f.ls] at hi
    have hg := List.getElem?_eq_getElem hi
    have hb := f.hold _ _ hg
    generalize as[p.root] = a at hg hb
    unfold isO at m
    rw [hg] at m
    have ha := ptA_any e
    unfold exA at x
    rw [hg] at ha x
    cases a with
    | any => exact absurd rfl ha
    | v d => rw [show sl[p.root]? = _ from hb] at e3; cases e3
    | o v =>
      have m : (mv && p.isVar && true) = false := m
      rw [Bool.and_true] at m
      rw [m]
      rfl
    | p => have := hb.1; rw [e3] at this; cases this; have := hb.2; omega
    | w d => cases x
  · have : decide (c.np ≤ k) = false := by simp; omega
    rw [this, Bool.and_false]⟩
theorem ve_getm {i : Nat} {t : T} (e : as[i]? = some (.o t)) (n : t.isCl = false) (h : Q t (as.set i .any) ps) : Ve c true (.get (.var i)) as ps Q := ⟨fun sl rt f => by
  have hb := f.hold _ _ e
  refine we_getm (p := .var i) (by rw [pt_var, hb.1]; simp only [hb.2]) n hb.1 (by simp [P.isVar]) ⟨_, _, ?_, h⟩
  refine f.upd (fun j _ => rfl) rfl List.length_set (fun k q1 q2 => by rw [List.getElem?_set_ne (fun z => q1 z.symm)]) (fun k q => f.home i k q) f.lp (fun j v q => ?_) trivial
  have := len_of q
  rw [f.lp] at this
  rw [List.getElem?_set_ne (by omega)]
  exact f.hp j v q⟩
theorem Fr.any {np : Nat} {sl : Sl} {rt : Rt} (f : Fr np as ps sl rt) (i : Nat) : Fr np (as.set i .any) ps sl rt := by
  refine ⟨by rw [List.length_set]; exact f.ls, by rw [List.length_set]; exact f.lr, f.lp, f.hp, f.home, fun j a e => ?_⟩
  rw [List.getElem?_set] at e
  split at e
  · split at e <;> cases e
    trivial
  · exact f.hold j a e
theorem ve_bin {op : BOp} {a b : E} (h : Ve c false a as ps fun x as ps => Ve c false b as ps fun y as ps => Ob op x.d y.d fun t => Q t as ps) : Ve c mv (.bin op a b) as ps Q :=
  ⟨fun sl rt f => we_bin ((h.out sl rt f).mono fun x rt ⟨as, ps, f, h⟩ => (h.out sl rt f).mono fun y rt ⟨as, ps, f, h⟩ => h.mono fun t q => ⟨as, ps, f, q⟩)⟩
theorem ve_neg {a : E} (h : Ve c false a as ps fun x as ps => ∃ i, x = .cl (.int i) ∧ Q (.cl (.int (-i))) as ps) : Ve c mv (.neg a) as ps Q :=
  ⟨fun sl rt f => we_neg ((h.out sl rt f).mono fun x rt ⟨as, ps, f, i, e, h⟩ => ⟨i, e, as, ps, f, h⟩)⟩
theorem ve_cmp {op : COp} {a b : E} (h : Ve c false a as ps fun x as ps => Ve c false b as ps fun y as ps => Oc op x.d y.d fun t => Q (.cl (.bl t)) as ps) : Ve c mv (.cmp op a b) as ps Q :=
  ⟨fun sl rt f => we_cmp ((h.out sl rt f).mono fun x rt ⟨as, ps, f, h⟩ => (h.out sl rt f).mono fun y rt ⟨as, ps, f, h⟩ => h.mono fun t q => ⟨as, ps, f, q⟩)⟩
theorem ptA_d {np : Nat} {sl : Sl} {rt : Rt} (f : Fr np as ps sl rt) {p : P} {t : T} (e : ptA as ps p = some t) : ∃ t', pt sl rt p = some t' ∧ t'.d = t.d := by
  obtain ⟨t', e1, e2⟩ := ptA_ok f p _ e
  rcases e2 with rfl | ⟨e2, -⟩
  · exact ⟨_, e1, rfl⟩
  · subst e2; exact ⟨_, e1, rfl⟩
theorem ve_emp {n : Bool} {p : P} {t : T} {b : Bool} (e : ptA as ps p = some t) (e2 : eqD t.d (.lst []) = some b) (h : Q (.cl (.bl (if n then !b else b))) as ps) : Ve c mv (.emp n p) as ps Q := ⟨fun sl rt f => by
  obtain ⟨t', e1, e3⟩ := ptA_d f e
  exact we_emp e1 (by rw [e3]; exact e2) ⟨as, ps, f, h⟩⟩
theorem ve_and {a b : E} (h : Ve c false a as ps fun x as ps => ∃ v, x = .cl (.bl v) ∧ (v = true → Ve c false b as ps Q) ∧ (v = false → Q (.cl (.bl false)) as ps)) : Ve c mv (.and a b) as ps Q :=
  ⟨fun sl rt f => we_and ((h.out sl rt f).mono fun x rt ⟨as, ps, f, v, e, h1, h2⟩ => ⟨v, e, fun q => (h1 q).out sl rt f, fun q => ⟨as, ps, f, h2 q⟩⟩)⟩
theorem ve_or {a b : E} (h : Ve c false a as ps fun x as ps => ∃ v, x = .cl (.bl v) ∧ (v = true → Q (.cl (.bl true)) as ps) ∧ (v = false → Ve c false b as ps Q)) : Ve c mv (.or a b) as ps Q :=
  ⟨fun sl rt f => we_or ((h.out sl rt f).mono fun x rt ⟨as, ps, f, v, e, h1, h2⟩ => ⟨v, e, fun q => ⟨as, ps, f, h1 q⟩, fun q => (h2 q).out sl rt f⟩)⟩
theorem ve_not {a : E} (h : Ve c false a as ps fun x as ps => ∃ v, x = .cl (.bl v) ∧ Q (.cl (.bl (!v))) as ps) : Ve c mv (.not a) as ps Q :=
  ⟨fun sl rt f => we_not ((h.out sl rt f).mono fun x rt ⟨as, ps, f, v, e, h⟩ => ⟨v, e, as, ps, f, h⟩)⟩
theorem ve_ife {t a b : E} (h : Ve c false t as ps fun x as ps => ∃ v, x = .cl (.bl v) ∧ (v = true → Ve c mv a as ps Q) ∧ (v = false → Ve c mv b as ps Q)) : Ve c mv (.ife t a b) as ps Q :=
  ⟨fun sl rt f => we_ife ((h.out sl rt f).mono fun x rt ⟨as, ps, f, v, e, h1, h2⟩ => ⟨v, e, fun q => (h1 q).out sl rt f, fun q => (h2 q).out sl rt f⟩)⟩
theorem ve_tup {es : Es} (h : Ves c false es as ps fun ts as ps => ts.length ≤ sizeLine ∧ Q (.cl (.tup (T.ds ts))) as ps) : Ve c mv (.tup es) as ps Q :=
  ⟨fun sl rt f => we_tup ((h.out sl rt f).mono fun x rt ⟨as, ps, f, l, h⟩ => ⟨l, as, ps, f, h⟩)⟩
theorem ve_lst {es : Es} (h : Ves c mv es as ps fun ts as ps => ts.length ≤ sizeLine ∧ Q (.ls ts) as ps) : Ve c mv (.lst es) as ps Q :=
  ⟨fun sl rt f => we_lst ((h.out sl rt f).mono fun x rt ⟨as, ps, f, l, h⟩ => ⟨l, as, ps, f, h⟩)⟩
theorem ve_ix {a b : E} (h : Ve c false a as ps fun x as ps => Ve c false b as ps fun y as ps => ∃ d, ixD x.d y.d = some d ∧ Q (.cl d) as ps) : Ve c mv (.ix a b) as ps Q :=
  ⟨fun sl rt f => we_ix ((h.out sl rt f).mono fun x rt ⟨as, ps, f, h⟩ => (h.out sl rt f).mono fun y rt ⟨as, ps, f, d, e, h⟩ => ⟨d, e, as, ps, f, h⟩)⟩
def optXA (as : List A) (ps : List T) : Option X0 → Option (Option Int)
  | none => some none
  | some e => (x0A as ps e).bind fun d => optI (some d)
theorem optXA_ok {np : Nat} {sl : Sl} {rt : Rt} (f : Fr np as ps sl rt) {x : Option X0} {i : Option Int} (h : optXA as ps x = some i) : optX sl rt x = some i := by
  cases x with
  | none => exact h
  | some e =>
    show (x0 sl rt e).bind _ = _
    have h : (x0A as ps e).bind (fun d => optI (some d)) = some i := h
    cases q : x0A as ps e with
    | none => rw [q] at h; cases h
    | some d => rw [x0A_ok f e d q]; rw [q] at h; exact h
theorem ve_sl {a : E} {lo hi : Option X0} (h : Ve c false a as ps fun x as ps => ∃ l u t, optXA as ps lo = some l ∧ optXA as ps hi = some u ∧ slD x.d l u = some t ∧ Q t as ps) : Ve c mv (.sl a lo hi) as ps Q :=
  ⟨fun sl rt f => we_sl ((h.out sl rt f).mono fun x rt ⟨as, ps, f, l, u, t, e1, e2, e3, h⟩ => ⟨l, u, t, optXA_ok f e1, optXA_ok f e2, e3, as, ps, f, h⟩)⟩
theorem ve_rev {a : E} (h : Ve c false a as ps fun x as ps => ∃ t, revD x.d = some t ∧ Q t as ps) : Ve c mv (.rev a) as ps Q :=
  ⟨fun sl rt f => we_rev ((h.out sl rt f).mono fun x rt ⟨as, ps, f, d, e, h⟩ => ⟨d, e, as, ps, f, h⟩)⟩
theorem ve_at {a : E} {g : Str} (h : Ve c false a as ps fun x as ps => ∃ d, atD x.d g = some d ∧ Q (.cl d) as ps) : Ve c mv (.at a g) as ps Q :=
  ⟨fun sl rt f => we_at ((h.out sl rt f).mono fun x rt ⟨as, ps, f, d, e, h⟩ => ⟨d, e, as, ps, f, h⟩)⟩
theorem ve_f1 {g : F1} {a : E} (h : Ve c false a as ps fun x as ps => Of g x.d fun t => Q t as ps) : Ve c mv (.f1 g a) as ps Q :=
  ⟨fun sl rt f => we_f1 ((h.out sl rt f).mono fun x rt ⟨as, ps, f, h⟩ => h.mono fun t q => ⟨as, ps, f, q⟩)⟩
theorem ve_f1p {g : F1} {p : P} {t : T} {xs : List D} (e : ptA as ps p = some t) (x : exA as p.root = true) (e2 : t.items = some xs) (h : Of g t.d fun t => Q t as ps) : Ve c mv (.f1p g p) as ps Q :=
  ⟨fun sl rt f => we_f1p (ptA_ex f e x) e2 (h.mono fun t q => ⟨as, ps, f, q⟩)⟩
theorem ve_f2 {g : F2} {a b : E} (h : Ve c false a as ps fun x as ps => Ve c false b as ps fun y as ps => ∃ d, f2D g x.d y.d = some d ∧ Q (.cl d) as ps) : Ve c mv (.f2 g a b) as ps Q :=
  ⟨fun sl rt f => we_f2 ((h.out sl rt f).mono fun x rt ⟨as, ps, f, h⟩ => (h.out sl rt f).mono fun y rt ⟨as, ps, f, d, e, h⟩ => ⟨d, e, as, ps, f, h⟩)⟩
theorem ve_pop {p : P} {ts : List T} {t : T} {as' : List A} {ps' : List T} (e : ptA as ps p = some (.ls ts)) (e2 : ts.getLast? = some t) (e3 : upA as ps p (.ls ts.dropLast) = some (as', ps')) (h : Q t as' ps') : Ve c mv (.pop p) as ps Q := ⟨fun sl rt f => by
  obtain ⟨rt', e4, f'⟩ := upA_ok f e3
  exact we_pop (ptA_ex f e (upA_ex e3)) e2 e4 ⟨_, _, f', h⟩⟩
theorem ve_lc {own : List Nat} {tg : Tg} {it : It} {cond elt : E} (h : Vi c it as ps fun xs as ps => Vl c own tg cond elt xs as ps Q) : Ve c mv (.lc own tg it cond elt) as ps Q :=
  ⟨fun sl rt f => we_lc ((h.out sl rt f).mono fun x rt ⟨as, ps, f, h⟩ => h.out sl rt f)⟩
theorem ve_dct {ks : List Key} {es : Es} (h : Ves c mv es as ps fun ts as ps => (ts.length = ks.length ∧ ks.Nodup ∧ ks.length ≤ 15 ∧ ks ≠ []) ∧ Q (.dc ks ts) as ps) : Ve c mv (.dct ks es) as ps Q :=
  ⟨fun sl rt f => we_dct ((h.out sl rt f).mono fun x rt ⟨as, ps, f, l, h⟩ => ⟨l, as, ps, f, h⟩)⟩
theorem ve_isi {ty : Ty} {a : E} (h : Ve c false a as ps fun x as ps => ∃ b, isiD ty x.d = some b ∧ Q (.cl (.bl b)) as ps) : Ve c mv (.isi ty a) as ps Q :=
  ⟨fun sl rt f => we_isi ((h.out sl rt f).mono fun x rt ⟨as, ps, f, d, e, h⟩ => ⟨d, e, as, ps, f, h⟩)⟩
theorem ve_call {g : Nat} {es kw : Es} {pm : List Nat} (h : Va c es as ps fun xs as ps => Va c kw as ps fun ys as ps => Vc c g pm (xs ++ ys) as ps Q) : Ve c mv (.call g es kw pm) as ps Q :=
  ⟨fun sl rt f => we_call ((h.out sl rt f).mono fun xs rt ⟨xs', as, ps, e, f, h⟩ => (h.out sl rt f).mono fun ys rt ⟨ys', as, ps, e2, f, h⟩ => by subst e e2; rw [← List.map_append]; exact h.out sl rt f)⟩
theorem allD_conc (sl : Sl) : ∀ {xs : List (D ⊕ Nat)} {ds : List D}, allD xs = some ds → xs.map (conc sl) = xs
  | [], _, _ => rfl
  | .inl d :: r, ds, h => by
    unfold allD at h
    cases q : allD r with
    | none => rw [q] at h; cases h
    | some ds' => rw [List.map_cons, allD_conc sl q]; rfl
  | .inr i :: r, ds, h => by unfold allD at h; cases h
theorem Wm.conc {F : Fs} {cc g : Nat} {pm : List Nat} {xs : List (D ⊕ Nat)} {K : T → Prop} (h : Wm F cc g pm xs K) (sl : Sl) : Wm F cc g pm (xs.map (conc sl)) K := by
  obtain ⟨t, e, k⟩ := h
  have : ∃ ds, allD xs = some ds := by
    unfold mkGo at e
    split at e
    · cases e
    · exact ⟨_, by assumption⟩
  obtain ⟨ds, e2⟩ := this
  rw [allD_conc sl e2]
  exact ⟨t, e, k⟩
theorem ve_mk {cc g : Nat} {es kw : Es} {pm : List Nat} (h : Va c es as ps fun xs as ps => Va c kw as ps fun ys as ps => Wm c.F cc g pm (xs ++ ys) fun t => Q t as ps) : Ve c mv (.mk cc g es kw pm) as ps Q :=
  ⟨fun sl rt f => we_mk ((h.out sl rt f).mono fun xs rt ⟨xs', as, ps, e, f, h⟩ => (h.out sl rt f).mono fun ys rt ⟨ys', as, ps, e2, f, h⟩ => by
    subst e e2; rw [← List.map_append]; exact (h.conc sl).mono fun t q => ⟨as, ps, f, q⟩)⟩
theorem we_mkS' {sl : Sl} {rt : Rt} {cc f : Nat} {e : E} {pm : List Nat} {Q : T → Rt → Prop} (h : We c false sl e rt fun x rt => ∃ ds, x.d.items = some ds ∧ ds.length + 1 = pm.length ∧ Wm c.F cc f pm (ds.map .inl) fun t => Q t rt) : We c mv sl (.mkS cc f e pm) rt Q := by
  obtain ⟨x, r1, e1, ds, e2, e3, t, e4, h⟩ := h
  exact ⟨t, r1, by unfold ev; rw [e1]; simp only; rw [e2]; simp only; rw [if_pos e3, e4]; rfl, h⟩
theorem ve_mkS {cc g : Nat} {e : E} {pm : List Nat} (h : Ve c false e as ps fun x as ps => ∃ ds, x.d.items = some ds ∧ ds.length + 1 = pm.length ∧ Wm c.F cc g pm (ds.map .inl) fun t => Q t as ps) : Ve c mv (.mkS cc g e pm) as ps Q :=
  ⟨fun sl rt f => we_mkS' ((h.out sl rt f).mono fun x rt ⟨as, ps, f, ds, e1, e2, h⟩ => ⟨ds, e1, e2, h.mono fun t q => ⟨as, ps, f, q⟩⟩)⟩
def treeA (as : List A) (ps : List T) (i : Nat) : Option T := match as[i]? with
  | some (.o t) => some t
  | some .p => ps[i]?
  | _ => none
def clsA (as : List A) (ps : List T) : D ⊕ Nat → Option (Nat × List Str)
  | .inl (.ins c ns _) => some (c, ns)
  | .inr i => match treeA as ps i with
    | some (.ob c ns _) => some (c, ns)
    | some (.cl (.ins c ns _)) => some (c, ns)
    | _ => none
  | _ => none
def recvA (c : Nat) (m : Str) (as : List A) (ps : List T) (x : D ⊕ Nat) : Bool := match clsA as ps x with
  | some (c', ns) => c' == c && !ns.contains m
  | none => false
structure RecvOk (c : Nat) (m : Str) (as : List A) (ps : List T) (x : D ⊕ Nat) : Prop where out : recvA c m as ps x = true
def isCA (c : Nat) (as : List A) (ps : List T) (x : D ⊕ Nat) : Bool := match clsA as ps x with
  | some (c', _) => c' == c
  | none => false
structure IsOk (c : Nat) (as : List A) (ps : List T) (x : D ⊕ Nat) : Prop where out : isCA c as ps x = true
theorem treeA_ok {np : Nat} {sl : Sl} {rt : Rt} (f : Fr np as ps sl rt) {i : Nat} {t : T} (h : treeA as ps i = some t) : ∃ k, sl[i]? = some (some (.r k)) ∧ rt[k]? = some (some t) ∧ ((k = np + i ∧ as[i]? = some (.o t)) ∨ (k = i ∧ i < np ∧ as[i]? = some .p ∧ ps[i]? = some t)) := by
  unfold treeA at h
  split at h
  · rename_i u e
    cases h
    have := f.hold _ _ e
    exact ⟨_, this.1, this.2, .inl ⟨rfl, e⟩⟩
  · rename_i e
    have := f.hold _ _ e
    exact ⟨_, this.1, f.hp _ _ h, .inr ⟨rfl, this.2, e, h⟩⟩
  · cases h
theorem clsA_ok {np : Nat} {sl : Sl} {rt : Rt} (f : Fr np as ps sl rt) {x : D ⊕ Nat} {r : Nat × List Str} (h : clsA as ps x = some r) : clsOf rt (conc sl x) = some r := by
  cases x with
  | inl d => cases d <;> first | exact h | cases h
  | inr i =>
    have h : (match treeA as ps i with | some (.ob c ns _) => some (c, ns) | some (.cl (.ins c ns _)) => some (c, ns) | _ => none) = some r := h
    cases q : treeA as ps i with
    | none => rw [q] at h; cases h
    | some t =>
      rw [q] at h
      obtain ⟨k, e1, e2, -⟩ := treeA_ok f q
      rw [conc_inr e1]
      show (match rt[k]? with | some (some (.ob c ns _)) => some (c, ns) | some (some (.cl (.ins c ns _))) => some (c, ns) | _ => none) = _
      rw [e2]
      cases t with
      | cl d => cases d <;> first | exact h | cases h
      | ob c ns ts => exact h
      | ls _ => cases h
      | dc _ _ => cases h
theorem recvA_ok {np : Nat} {sl : Sl} {rt : Rt} (f : Fr np as ps sl rt) {cc : Nat} {m : Str} {x : D ⊕ Nat} (h : recvA cc m as ps x = true) : recv cc m rt (conc sl x) = true := by
  unfold recvA at h
  split at h
  · rename_i c' ns e
    unfold recv
    rw [clsA_ok f e]
    exact h
  · cases h
theorem isCA_ok {np : Nat} {sl : Sl} {rt : Rt} (f : Fr np as ps sl rt) {cc : Nat} {x : D ⊕ Nat} (h : isCA cc as ps x = true) : isC cc rt (conc sl x) = true := by
  unfold isCA at h
  split at h
  · rename_i c' ns e
    unfold isC
    rw [clsA_ok f e]
    exact h
  · cases h
theorem ve_meth {cc : Nat} {m : Str} {g : Nat} {o es kw : Es} {pm : List Nat} (h : Va c o as ps fun os as ps => ∃ x, os = [x] ∧ RecvOk cc m as ps x ∧ Va c es as ps fun xs as ps => Va c kw as ps fun ys as ps => Vc c g pm (x :: (xs ++ ys)) as ps Q) : Ve c mv (.meth cc m g o es kw pm) as ps Q :=
  ⟨fun sl rt f => we_meth ((h.out sl rt f).mono fun os rt ⟨os', as, ps, e, f, x, e0, ⟨r⟩, h⟩ => by
    subst e e0
    refine ⟨conc sl x, rfl, recvA_ok f r, (h.out sl rt f).mono fun xs rt ⟨xs', as, ps, e, f, h⟩ => (h.out sl rt f).mono fun ys rt ⟨ys', as, ps, e2, f, h⟩ => ?_⟩
    subst e e2
    rw [← List.map_append, ← List.map_cons]
    exact h.out sl rt f)⟩
theorem ve_prop {cc : Nat} {m : Str} {g : Nat} {o : Es} (h : Va c o as ps fun os as ps => ∃ x, os = [x] ∧ IsOk cc as ps x ∧ Vc c g [0] [x] as ps Q) : Ve c mv (.prop cc m g o) as ps Q :=
  ⟨fun sl rt f => we_prop ((h.out sl rt f).mono fun os rt ⟨os', as, ps, e, f, x, e0, ⟨r⟩, h⟩ => by
    subst e e0
    exact ⟨conc sl x, rfl, isCA_ok f r, h.out sl rt f⟩)⟩
theorem we_olen' {sl : Sl} {rt : Rt} {cc f : Nat} {o : Es} {Q : T → Rt → Prop} (h : Wa c sl o rt fun os rt => ∃ x, os = [x] ∧ isC cc rt x = true ∧ Wc c.F f [0] [x] rt fun t rt => ∃ n, t = .cl (.int n) ∧ (0 ≤ n ∧ n < 2 ^ 63) ∧ Q (.cl (.int n)) rt) : We c mv sl (.olen cc f o) rt Q := by
  obtain ⟨os, r0, e0, x, rfl, e4, t, r3, e3, n, rfl, hn, h⟩ := h
  exact ⟨_, r3, by unfold ev; rw [e0]; simp only; rw [if_pos e4]; simp only [e3]; rw [if_pos hn], h⟩
theorem ve_olen {cc g : Nat} {o : Es} (h : Va c o as ps fun os as ps => ∃ x, os = [x] ∧ IsOk cc as ps x ∧ Vc c g [0] [x] as ps fun t as ps => ∃ n, t = .cl (.int n) ∧ (0 ≤ n ∧ n < 2 ^ 63) ∧ Q (.cl (.int n)) as ps) : Ve c mv (.olen cc g o) as ps Q :=
  ⟨fun sl rt f => we_olen' ((h.out sl rt f).mono fun os rt ⟨os', as, ps, e, f, x, e0, ⟨r⟩, h⟩ => by
    subst e e0
    exact ⟨conc sl x, rfl, isCA_ok f r, (h.out sl rt f).mono fun t rt ⟨as, ps, f, n, e, b, h⟩ => ⟨n, e, b, as, ps, f, h⟩⟩)⟩
theorem we_oeq' {sl : Sl} {rt : Rt} {cc f : Nat} {a b : E} {Q : T → Rt → Prop} (h : We c false sl a rt fun x rt => We c false sl b rt fun y rt => (isC cc rt (.inl x.d) && isC cc rt (.inl y.d)) = true ∧ Wc c.F f [0, 1] [.inl x.d, .inl y.d] rt fun t rt => ∃ v, t = .cl (.bl v) ∧ Q (.cl (.bl v)) rt) : We c mv sl (.oeq cc f a b) rt Q := by
  obtain ⟨x, r1, e1, y, r2, e2, e3, t, r3, e4, v, rfl, h⟩ := h
  exact ⟨_, r3, by unfold ev; rw [e1]; simp only; rw [e2]; simp only; rw [if_pos e3]; simp only [e4], h⟩
theorem ve_oeq {cc g : Nat} {a b : E} (h : Ve c false a as ps fun x as ps => Ve c false b as ps fun y as ps => (isCA cc as ps (.inl x.d) && isCA cc as ps (.inl y.d)) = true ∧ Vc c g [0, 1] [.inl x.d, .inl y.d] as ps fun t as ps => ∃ v, t = .cl (.bl v) ∧ Q (.cl (.bl v)) as ps) : Ve c mv (.oeq cc g a b) as ps Q :=
  ⟨fun sl rt f => we_oeq' ((h.out sl rt f).mono fun x rt ⟨as, ps, f, h⟩ => (h.out sl rt f).mono fun y rt ⟨as, ps, f, r, h⟩ => by
    rw [Bool.and_eq_true] at r
    refine ⟨by rw [Bool.and_eq_true]; exact ⟨isCA_ok (sl := sl) f r.1, isCA_ok (sl := sl) f r.2⟩, (h.out sl rt f).mono fun t rt ⟨as, ps, f, v, e, h⟩ => ⟨v, e, as, ps, f, h⟩⟩)⟩
theorem ves_nil {Q : List T → List A → List T → Prop} (h : Q [] as ps) : Ves c mv .nil as ps Q := ⟨fun sl rt f => wes_nil ⟨as, ps, f, h⟩⟩
theorem ves_cons {e : E} {r : Es} {Q : List T → List A → List T → Prop} (h : Ve c mv e as ps fun t as ps => Ves c mv r as ps fun ts as ps => Q (t :: ts) as ps) : Ves c mv (.cons e r) as ps Q :=
  ⟨fun sl rt f => wes_cons ((h.out sl rt f).mono fun x rt ⟨as, ps, f, h⟩ => h.out sl rt f)⟩
theorem wes_star' {sl : Sl} {rt : Rt} {e : E} {r : Es} {Q : List T → Rt → Prop} (h : We c false sl e rt fun x rt => ∃ ds, x.d.items = some ds ∧ Wes c mv sl r rt fun ts rt => Q (cls ds ++ ts) rt) : Wes c mv sl (.star e r) rt Q := by
  obtain ⟨x, r1, e1, ds, e2, ts, r2, e3, h⟩ := h
  exact ⟨_, r2, by unfold evs; rw [e1]; simp only; rw [e2]; simp only; rw [e3], h⟩
theorem ves_star {e : E} {r : Es} {Q : List T → List A → List T → Prop} (h : Ve c false e as ps fun x as ps => ∃ ds, x.d.items = some ds ∧ Ves c mv r as ps fun ts as ps => Q (cls ds ++ ts) as ps) : Ves c mv (.star e r) as ps Q :=
  ⟨fun sl rt f => wes_star' ((h.out sl rt f).mono fun x rt ⟨as, ps, f, ds, e, h⟩ => ⟨ds, e, h.out sl rt f⟩)⟩
theorem va_nil {Q : List (D ⊕ Nat) → List A → List T → Prop} (h : Q [] as ps) : Va c .nil as ps Q := ⟨fun sl rt f => wa_nil ⟨[], as, ps, rfl, f, h⟩⟩
theorem va_cons {e : E} {r : Es} {Q : List (D ⊕ Nat) → List A → List T → Prop} (h : Ve c false e as ps fun t as ps => Va c r as ps fun ts as ps => Q (.inl t.d :: ts) as ps) : Va c (.cons e r) as ps Q :=
  ⟨fun sl rt f => wa_cons ((h.out sl rt f).mono fun x rt ⟨as, ps, f, h⟩ => (h.out sl rt f).mono fun xs rt ⟨ys, as, ps, e, f, h⟩ => ⟨.inl x.d :: ys, as, ps, by subst e; rfl, f, h⟩)⟩
theorem va_mut {i : Nat} {t : T} {r : Es} {Q : List (D ⊕ Nat) → List A → List T → Prop} (e : treeA as ps i = some t) (h : Va c r as ps fun ts as ps => Q (.inr i :: ts) as ps) : Va c (.mut i r) as ps Q := ⟨fun sl rt f => by
  obtain ⟨k, e1, e2, -⟩ := treeA_ok f e
  refine wa_mut e1 ((h.out sl rt f).mono fun xs rt ⟨ys, as, ps, e, f, h⟩ => ⟨.inr i :: ys, as, ps, ?_, f, h⟩)
  subst e
  rw [List.map_cons, conc_inr e1]⟩
theorem va_mutv {i : Nat} {d : D} {r : Es} {Q : List (D ⊕ Nat) → List A → List T → Prop} (e : as[i]? = some (.v d)) (h : Va c r as ps fun ts as ps => Q (.inl d :: ts) as ps) : Va c (.mut i r) as ps Q := ⟨fun sl rt f => by
  refine wa_mutv (f.hold _ _ e) ((h.out sl rt f).mono fun xs rt ⟨ys, as, ps, e, f, h⟩ => ⟨.inl d :: ys, as, ps, ?_, f, h⟩)
  subst e
  rfl⟩
structure RngOk (n : Int) : Prop where out : inRng n = true
theorem vi_rng1 {a : E} {Q : List D → List A → List T → Prop} (h : Ve c false a as ps fun x as ps => ∃ n, x = .cl (.int n) ∧ RngOk n ∧ Q (rngD 0 n.toNat) as ps) : Vi c (.rng1 a) as ps Q :=
  ⟨fun sl rt f => wi_rng1 ((h.out sl rt f).mono fun x rt ⟨as, ps, f, n, e, ⟨r⟩, h⟩ => ⟨n, e, r, as, ps, f, h⟩)⟩
theorem vi_rng2 {a b : E} {Q : List D → List A → List T → Prop} (h : Ve c false a as ps fun x as ps => Ve c false b as ps fun y as ps => ∃ m n, x = .cl (.int m) ∧ y = .cl (.int n) ∧ RngOk m ∧ RngOk n ∧ Q (rngD m (n - m).toNat) as ps) : Vi c (.rng2 a b) as ps Q :=
  ⟨fun sl rt f => wi_rng2 ((h.out sl rt f).mono fun x rt ⟨as, ps, f, h⟩ => (h.out sl rt f).mono fun y rt ⟨as, ps, f, m, n, e1, e2, ⟨r1⟩, ⟨r2⟩, h⟩ => ⟨m, n, e1, e2, r1, r2, as, ps, f, h⟩)⟩
theorem vi_seq {a : E} {Q : List D → List A → List T → Prop} (h : Ve c false a as ps fun x as ps => ∃ xs, x.d.items = some xs ∧ Q xs as ps) : Vi c (.seq a) as ps Q :=
  ⟨fun sl rt f => wi_seq ((h.out sl rt f).mono fun x rt ⟨as, ps, f, n, e, h⟩ => ⟨n, e, as, ps, f, h⟩)⟩
theorem vi_enum {a : E} {Q : List D → List A → List T → Prop} (h : Ve c false a as ps fun x as ps => ∃ xs, (x.d = .lst xs ∨ x.d = .tup xs) ∧ Q (enumD 0 xs) as ps) : Vi c (.enum a) as ps Q :=
  ⟨fun sl rt f => wi_enum ((h.out sl rt f).mono fun x rt ⟨as, ps, f, n, e, h⟩ => ⟨n, e, as, ps, f, h⟩)⟩
theorem vi_zip {a b : E} {Q : List D → List A → List T → Prop} (h : Ve c false a as ps fun x as ps => Ve c false b as ps fun y as ps => ∃ xs ys, ((x.d = .lst xs ∧ y.d = .lst ys) ∨ (x.d = .tup xs ∧ y.d = .tup ys)) ∧ Q (zipD xs ys) as ps) : Vi c (.zip a b) as ps Q :=
  ⟨fun sl rt f => wi_zip ((h.out sl rt f).mono fun x rt ⟨as, ps, f, h⟩ => (h.out sl rt f).mono fun y rt ⟨as, ps, f, xs, ys, e, h⟩ => ⟨xs, ys, e, as, ps, f, h⟩)⟩
end
end Mi
namespace Mi
open PySem L2
theorem perm_map {α β : Type} (g : α → β) (xs : List α) : ∀ pm : List Nat, perm (xs.map g) pm = (perm xs pm).map (List.map g)
  | [] => rfl
  | i :: r => by
    unfold perm
    rw [perm_map g xs r, List.getElem?_map]
    cases xs[i]? with
    | none => rfl
    | some x => cases perm xs r <;> rfl
section
variable {c : Cfg} {mv : Bool} {as : List A} {ps : List T} {Q : T → List A → List T → Prop} {Qs : Fl → List A → List T → Prop}
theorem conc_inl (sl : Sl) (ds : List D) : (ds.map Sum.inl).map (conc sl) = ds.map Sum.inl := by
  rw [List.map_map]
  rfl
theorem vc_at {g : Nat} {pm : List Nat} {xs : List (D ⊕ Nat)} {ds : List D} {t : D} (h : At c.F g ds t) (e : perm xs pm = some (ds.map .inl)) (k : Q (.cl t) as ps) : Vc c g pm xs as ps Q :=
  ⟨fun sl rt f => wc_at h (by rw [perm_map, e]; exact congrArg some (conc_inl sl ds)) ⟨as, ps, f, k⟩⟩
theorem vc_atT {g : Nat} {pm : List Nat} {xs : List (D ⊕ Nat)} {ds : List D} {t : T} (h : AtT c.F g ds t) (e : perm xs pm = some (ds.map .inl)) (k : Q t as ps) : Vc c g pm xs as ps Q :=
  ⟨fun sl rt f => wc_atT h (by rw [perm_map, e]; exact congrArg some (conc_inl sl ds)) ⟨as, ps, f, k⟩⟩
def treesA (as : List A) (ps : List T) : List (D ⊕ Nat) → Option (List T)
  | [] => some []
  | .inl d :: r => (treesA as ps r).map (.cl d :: ·)
  | .inr i :: r => match treeA as ps i with
    | some t => (treesA as ps r).map (t :: ·)
    | none => none
def slotsOf : List (D ⊕ Nat) → List Nat
  | [] => []
  | .inl _ :: r => slotsOf r
  | .inr i :: r => i :: slotsOf r
def putA (as : List A) (ps : List T) (i : Nat) (t : T) : List A × List T := match as[i]? with
  | some (.o _) => (as.set i (.o t), ps)
  | some .p => (as, ps.set i t)
  | _ => (as, ps)
def backA : List A × List T → List (D ⊕ Nat) → List T → List A × List T
  | st, .inr i :: r, t :: ts => backA (putA st.1 st.2 i t) r ts
  | st, .inl _ :: r, _ :: ts => backA st r ts
  | st, _, _ => st
theorem args_conc {np : Nat} {sl : Sl} {rt : Rt} (f : Fr np as ps sl rt) : ∀ {ys : List (D ⊕ Nat)} {ts : List T}, treesA as ps ys = some ts → argsOf rt (ys.map (conc sl)) = some ts
  | [], ts, h => h
  | .inl d :: r, ts, h => by
    unfold treesA at h
    rw [List.map_cons]
    show (argsOf rt (r.map (conc sl))).map _ = _
    cases q : treesA as ps r with
    | none => rw [q] at h; cases h
    | some us => rw [args_conc f q]; rw [q] at h; exact h
  | .inr i :: r, ts, h => by
    unfold treesA at h
    split at h
    · rename_i t e
      obtain ⟨k, e1, e2, -⟩ := treeA_ok f e
      rw [List.map_cons, conc_inr e1]
      show (match rt[k]? with | some (some t) => (argsOf rt (r.map (conc sl))).map (t :: ·) | _ => none) = _
      rw [e2]
      simp only
      cases q : treesA as ps r with
      | none => rw [q] at h; cases h
      | some us => rw [args_conc f q]; rw [q] at h; exact h
    · cases h
theorem muts_mem {np : Nat} {sl : Sl} {rt : Rt} (f : Fr np as ps sl rt) {k : Nat} : ∀ {ys : List (D ⊕ Nat)} {ts : List T}, treesA as ps ys = some ts → k ∈ mutsOf (ys.map (conc sl)) → ∃ i ∈ slotsOf ys, sl[i]? = some (some (.r k))
  | [], ts, h, m => by cases m
  | .inl d :: r, ts, h, m => by
    unfold treesA at h
    cases q : treesA as ps r with
    | none => rw [q] at h; cases h
    | some us => exact muts_mem (ys := r) f q m
  | .inr i :: r, ts, h, m => by
    unfold treesA at h
    split at h
    · rename_i t e
      obtain ⟨k', e1, e2, -⟩ := treeA_ok f e
      rw [List.map_cons, conc_inr e1] at m
      rcases List.mem_cons.mp m with rfl | m
      · exact ⟨i, List.mem_cons_self, e1⟩
      · cases q : treesA as ps r with
        | none => rw [q] at h; cases h
        | some us =>
          obtain ⟨j, hj, e3⟩ := muts_mem f q m
          exact ⟨j, List.mem_cons_of_mem _ hj, e3⟩
    · cases h
theorem home_inj {np : Nat} {sl : Sl} (h : HomeA np sl) {i j k : Nat} (e1 : sl[i]? = some (some (.r k))) (e2 : sl[j]? = some (some (.r k))) (n : np ≤ i ∨ k ≠ np + j ∨ True) (hi : k = np + i ∨ (k = i ∧ i < np)) (hj : k = np + j ∨ (k = j ∧ j < np)) : i = j := by omega
theorem muts_nodup {np : Nat} {sl : Sl} {rt : Rt} (f : Fr np as ps sl rt) : ∀ {ys : List (D ⊕ Nat)} {ts : List T}, treesA as ps ys = some ts → (slotsOf ys).Nodup → (mutsOf (ys.map (conc sl))).Nodup
  | [], ts, h, m => List.nodup_nil
  | .inl d :: r, ts, h, m => by
    unfold treesA at h
    cases q : treesA as ps r with
    | none => rw [q] at h; cases h
    | some us => exact muts_nodup (ys := r) f q m
  | .inr i :: r, ts, h, m => by
    unfold treesA at h
    split at h
    · rename_i t e
      obtain ⟨k', e1, e2, -⟩ := treeA_ok f e
      cases q : treesA as ps r with
      | none => rw [q] at h; cases h
      | some us =>
        obtain ⟨m1, m2⟩ := List.nodup_cons.mp m
        rw [List.map_cons, conc_inr e1]
        refine List.nodup_cons.mpr ⟨fun z => ?_, muts_nodup f q m2⟩
        obtain ⟨j, hj, e3⟩ := muts_mem f q z
        have := home_inj f.home e1 e3 (.inr (.inr trivial)) (f.home _ _ e1) (f.home _ _ e3)
        subst this
        exact m1 hj
    · cases h
theorem clr_set : ∀ (xs : List (D ⊕ Nat)) (rt : Rt) (k : Nat) (o : Option T), k ∉ mutsOf xs → clr (rt.set k o) xs = (clr rt xs).set k o
  | [], rt, k, o, h => rfl
  | .inl _ :: r, rt, k, o, h => clr_set r rt k o h
  | .inr j :: r, rt, k, o, h => by
    show clr ((rt.set k o).set j none) r = (clr (rt.set j none) r).set k o
    have h1 : k ≠ j := fun e => h (by rw [e]; exact List.mem_cons_self)
    rw [List.set_comm _ _ h1]
    exact clr_set r _ k o fun m => h (List.mem_cons_of_mem _ m)
theorem back_clr : ∀ (xs : List (D ⊕ Nat)) (rt : Rt) (ts : List T), (mutsOf xs).Nodup → ts.length = xs.length → backOf (clr rt xs) xs ts = backOf rt xs ts
  | [], rt, ts, h, l => rfl
  | .inl _ :: r, rt, [], h, l => by cases l
  | .inl _ :: r, rt, t :: ts, h, l => back_clr r rt ts h (by simpa using l)
  | .inr j :: r, rt, [], h, l => by cases l
  | .inr j :: r, rt, t :: ts, h, l => by
    obtain ⟨h1, h2⟩ := List.nodup_cons.mp h
    show backOf ((clr (rt.set j none) r).set j (some t)) r ts = backOf (rt.set j (some t)) r ts
    rw [← clr_set r _ j _ h1, List.set_set]
    exact back_clr r _ ts h2 (by simpa using l)
theorem put_tree {np : Nat} {sl : Sl} {rt : Rt} (f : Fr np as ps sl rt) {i : Nat} {t u : T} (h : treeA as ps i = some u) {k : Nat} (e : sl[i]? = some (some (.r k))) : Fr np (putA as ps i t).1 (putA as ps i t).2 sl (rt.set k (some t)) ∧ ∀ j v, treeA as ps j = some v → ∃ v', treeA (putA as ps i t).1 (putA as ps i t).2 j = some v' := by
  obtain ⟨k', e1, e2, e3⟩ := treeA_ok f h
  rw [e] at e1
  cases e1
  rcases e3 with ⟨rfl, e3⟩ | ⟨rfl, hk, e3, e4⟩
  · unfold putA
    rw [e3]
    refine ⟨f.upo e3 t, fun j v q => ?_⟩
    by_cases z : i = j
    · subst z
      exact ⟨t, by unfold treeA; rw [List.getElem?_set_self (len_of e3)]⟩
    · exact ⟨v, by unfold treeA at q ⊢; rw [List.getElem?_set_ne z]; exact q⟩
  · unfold putA
    rw [e3]
    refine ⟨f.upp e3 t, fun j v q => ?_⟩
    by_cases z : k = j
    · subst z
      exact ⟨t, by unfold treeA; rw [e3]; simp only; rw [List.getElem?_set_self (len_of e4)]⟩
    · exact ⟨v, by unfold treeA at q ⊢; simp only; rw [List.getElem?_set_ne z]; exact q⟩
theorem back_fr {np : Nat} {sl : Sl} : ∀ {ys : List (D ⊕ Nat)} {ts : List T} {as : List A} {ps : List T} {rt : Rt}, Fr np as ps sl rt → (∀ i ∈ slotsOf ys, ∃ t, treeA as ps i = some t) → Fr np (backA (as, ps) ys ts).1 (backA (as, ps) ys ts).2 sl (backOf rt (ys.map (conc sl)) ts)
  | [], ts, as, ps, rt, f, h => by
    unfold backA backOf
    cases ts <;> exact f
  | .inl d :: r, [], as, ps, rt, f, h => by
    unfold backA
    exact f
  | .inl d :: r, t :: ts, as, ps, rt, f, h => back_fr (ys := r) f h
  | .inr i :: r, [], as, ps, rt, f, h => by
    rw [List.map_cons]
    obtain ⟨t, ht⟩ := h i List.mem_cons_self
    obtain ⟨k, e1, -, -⟩ := treeA_ok f ht
    rw [conc_inr e1]
    exact f
  | .inr i :: r, t :: ts, as, ps, rt, f, h => by
    obtain ⟨u, hu⟩ := h i List.mem_cons_self
    obtain ⟨k, e1, e2, -⟩ := treeA_ok f hu
    rw [List.map_cons, conc_inr e1]
    obtain ⟨f', h'⟩ := put_tree f (t := t) hu e1
    refine back_fr (ys := r) f' fun j m => ?_
    obtain ⟨v, hv⟩ := h j (List.mem_cons_of_mem _ m)
    exact h' j v hv
theorem trees_len : ∀ {ys : List (D ⊕ Nat)} {ts : List T}, treesA as ps ys = some ts → ts.length = ys.length ∧ ∀ i ∈ slotsOf ys, ∃ t, treeA as ps i = some t
  | [], ts, h => by cases h; exact ⟨rfl, fun i m => by cases m⟩
  | .inl d :: r, ts, h => by
    unfold treesA at h
    cases q : treesA as ps r with
    | none => rw [q] at h; cases h
    | some us =>
      rw [q] at h
      cases h
      obtain ⟨h1, h2⟩ := trees_len q
      exact ⟨by simp [h1], h2⟩
  | .inr i :: r, ts, h => by
    unfold treesA at h
    split at h
    · rename_i t e
      cases q : treesA as ps r with
      | none => rw [q] at h; cases h
      | some us =>
        rw [q] at h
        cases h
        obtain ⟨h1, h2⟩ := trees_len q
        refine ⟨by simp [h1], fun j m => ?_⟩
        rcases List.mem_cons.mp m with rfl | m
        · exact ⟨t, e⟩
        · exact h2 j m
    · cases h
theorem vc_call {g : Nat} {pm : List Nat} {xs ys : List (D ⊕ Nat)} {ts ts' : List T} {r : T} (e1 : perm xs pm = some ys) (e2 : treesA as ps ys = some ts) (e3 : (slotsOf ys).Nodup) (e4 : c.F g ts = some (r, ts')) (e5 : ts'.length = ts.length) (k : Q r (backA (as, ps) ys ts').1 (backA (as, ps) ys ts').2) : Vc c g pm xs as ps Q := ⟨fun sl rt f => by
  have hn := muts_nodup f e2 e3
  obtain ⟨l, ht⟩ := trees_len e2
  refine wc_of (by rw [perm_map, e1]; rfl) hn (args_conc f e2) e4 e5 ⟨_, _, ?_, k⟩
  rw [back_clr _ _ _ hn (by rw [List.length_map, e5, l])]
  exact back_fr f ht⟩
mutual
def bindA (as : List A) : Tg → D → Option (List A)
  | .var i, d => if i < as.length then some (as.set i (.v d)) else none
  | .tup ts, d => match d with
    | .tup xs => bindsA as ts xs
    | .lst xs => bindsA as ts xs
    | _ => none
def bindsA (as : List A) : List Tg → List D → Option (List A)
  | [], [] => some as
  | t :: ts, x :: xs => match bindA as t x with
    | some as' => bindsA as' ts xs
    | none => none
  | _, _ => none
end
mutual
theorem bindA_ok {np : Nat} {rt : Rt} : ∀ {tg : Tg} {as as' : List A} {sl : Sl} {d : D}, Fr np as ps sl rt → bindA as tg d = some as' → ∃ sl', bind sl tg d = some sl' ∧ Fr np as' ps sl' rt ∧ ∀ j, j ∉ tg.slots → sl'[j]? = sl[j]?
  | .var i, as, as', sl, d, f, h => by
    unfold bindA at h
    split at h
    · rename_i hi
      cases h
      refine ⟨_, by unfold bind; rw [if_pos (by rw [f.ls]; exact hi)], f.setv hi d, fun j hj => ?_⟩
      rw [List.getElem?_set_ne (fun z => hj (by rw [← z]; exact List.mem_singleton.mpr rfl))]
    · cases h
  | .tup ts, as, as', sl, d, f, h => by
    unfold bindA at h
    split at h
    · obtain ⟨sl', e, f', k⟩ := bindsA_ok f h
      exact ⟨sl', by unfold bind; exact e, f', k⟩
    · obtain ⟨sl', e, f', k⟩ := bindsA_ok f h
      exact ⟨sl', by unfold bind; exact e, f', k⟩
    · cases h
theorem bindsA_ok {np : Nat} {rt : Rt} : ∀ {ts : List Tg} {as as' : List A} {sl : Sl} {ds : List D}, Fr np as ps sl rt → bindsA as ts ds = some as' → ∃ sl', binds sl ts ds = some sl' ∧ Fr np as' ps sl' rt ∧ ∀ j, j ∉ Tg.slots.slotss ts → sl'[j]? = sl[j]?
  | [], as, as', sl, [], f, h => by
    unfold bindsA at h
    cases h
    exact ⟨sl, by unfold binds; rfl, f, fun j _ => rfl⟩
  | [], as, as', sl, _ :: _, f, h => by unfold bindsA at h; cases h
  | _ :: _, as, as', sl, [], f, h => by unfold bindsA at h; cases h
  | t :: ts, as, as', sl, x :: xs, f, h => by
    unfold bindsA at h
    split at h
    · rename_i as1 e1
      obtain ⟨sl1, e2, f1, k1⟩ := bindA_ok f e1
      obtain ⟨sl2, e3, f2, k2⟩ := bindsA_ok f1 h
      refine ⟨sl2, by unfold binds; rw [e2]; exact e3, f2, fun j hj => ?_⟩
      have hj : j ∉ Tg.slots t ++ Tg.slots.slotss ts := hj
      rw [List.mem_append] at hj
      exact (k2 j fun m => hj (.inr m)).trans (k1 j fun m => hj (.inl m))
    · cases h
end
def wipA (as : List A) (own : List Nat) : List A := own.foldr (fun i as => as.set i .any) as
theorem wipA_len (own : List Nat) : (wipA as own).length = as.length := by
  induction own with
  | nil => rfl
  | cons v vs ih => exact List.length_set.trans ih
theorem wipA_get {own : List Nat} {j : Nat} {a : A} (h : (wipA as own)[j]? = some a) : a = .any ∨ (j ∉ own ∧ as[j]? = some a) := by
  induction own with
  | nil => exact .inr ⟨by simp, h⟩
  | cons v vs ih =>
    have h : ((wipA as vs).set v .any)[j]? = some a := h
    rw [List.getElem?_set] at h
    split at h
    · split at h <;> cases h
      exact .inl rfl
    · rename_i z
      rcases ih h with q | ⟨q1, q2⟩
      · exact .inl q
      · exact .inr ⟨fun m => by rcases List.mem_cons.mp m with m | m; exact z m.symm; exact q1 m, q2⟩
theorem wip_get {sl : Sl} {own : List Nat} {j : Nat} (h : j ∉ own) : (wip sl own)[j]? = sl[j]? := by
  induction own with
  | nil => rfl
  | cons v vs ih =>
    show ((wip sl vs).set v none)[j]? = _
    rw [List.getElem?_set_ne (fun z => h (by rw [z]; exact List.mem_cons_self))]
    exact ih fun m => h (List.mem_cons_of_mem _ m)
theorem Fr.unwip {np : Nat} {sl sl1 : Sl} {rt : Rt} {own : List Nat} (f : Fr np as ps sl1 rt) (ho : HomeA np sl) (hl : sl.length = sl1.length) (h : ∀ j, j ∉ own → sl1[j]? = sl[j]?) : Fr np (wipA as own) ps sl rt := by
  refine ⟨by rw [wipA_len, hl, f.ls], by rw [wipA_len, f.lr], f.lp, f.hp, ho, fun j a e => ?_⟩
  rcases wipA_get e with rfl | ⟨q1, q2⟩
  · trivial
  · have hb := f.hold j a q2
    have hs := h j q1
    cases a with
    | any => trivial
    | v d => exact hs.symm.trans hb
    | o t => exact ⟨hs.symm.trans hb.1, hb.2⟩
    | p => exact ⟨hs.symm.trans hb.1, hb.2⟩
    | w d =>
      obtain ⟨t, e1, e2, e3⟩ := hb
      exact ⟨t, by rw [pt_var] at e1 ⊢; rw [← hs]; exact e1, e2, e3.imp id fun q => hs.symm.trans q⟩
theorem vl_ind (I : Nat → List T → List A → List T → Prop) {own : List Nat} {tg : Tg} {cond elt : E} (xs : List D) (ho : tg.slots.all (own.contains ·) = true) (h0 : ∃ as', Les ps 0 (wipA as own) as' ∧ I 0 [] as' ps) (hl : xs.length ≤ sizeLine)
    (st : ∀ n x acc as ps, xs[n]? = some x → I n acc as ps → ∃ as1, bindA as tg x = some as1 ∧ Ve c false cond as1 ps fun t as ps => ∃ v, t = .cl (.bl v) ∧ (v = true → Ve c false elt as ps fun t as ps => ∃ as', Les ps 0 (wipA as own) as' ∧ I (n + 1) (acc ++ [t]) as' ps) ∧ (v = false → ∃ as', Les ps 0 (wipA as own) as' ∧ I (n + 1) acc as' ps))
    (k : ∀ ts as ps, I xs.length ts as ps → Q (.ls ts) (wipA as own) ps) : Vl c own tg cond elt xs as ps Q := ⟨fun sl rt f => by
  have hsub : ∀ j, j ∉ own → j ∉ tg.slots := fun j h m => h (by simpa using List.all_eq_true.mp ho j m)
  have fw : ∀ {as : List A} {ps : List T} {rt : Rt}, Fr c.np as ps sl rt → Fr c.np (wipA as own) ps (wip sl own) rt := fun f => f.wip own
  have hw : ∀ {as : List A} {ps : List T} {rt : Rt}, Fr c.np as ps (wip sl own) rt → Fr c.np (wipA as own) ps sl rt := fun f' => f'.unwip f.home wip_length.symm fun j h => wip_get h
  obtain ⟨as0, l0, i0⟩ := h0
  refine wl_ind (fun n ts rt => ∃ as ps, Fr c.np as ps (wip sl own) rt ∧ I n ts as ps) xs ⟨as0, ps, (fw f).le l0, i0⟩ hl ?_ ?_
  · rintro n x acc rt hx ⟨as, ps, f1, hi⟩
    obtain ⟨as1, e1, h1⟩ := st n x acc as ps hx hi
    obtain ⟨sl1, e2, f2, k1⟩ := bindA_ok f1 e1
    have hb : ∀ {as : List A} {ps : List T} {rt : Rt}, Fr c.np as ps sl1 rt → Fr c.np (wipA as own) ps (wip sl own) rt := fun f' => f'.unwip f1.home (by
      rw [f1.ls, f2.ls]
      have : ∀ {tg : Tg} {as as' : List A} {sl : Sl} {d : D}, Fr c.np as ps sl rt → bindA as tg d = some as' → as'.length = as.length := fun {tg as as' sl d} f e => by
        obtain ⟨sl', -, f', -⟩ := bindA_ok f e
        have h1 := f.lr
        have h2 := f'.lr
        omega
      exact (this f1 e1).symm) fun j h => k1 j (hsub j h)
    refine ⟨sl1, e2, (h1.out sl1 rt f2).mono fun t rt ⟨as, ps, f3, v, e, ht, hf⟩ => ⟨v, e, fun q => ((ht q).out sl1 rt f3).mono fun t rt ⟨as, ps, f4, as', l, hi⟩ => ⟨as', ps, (hb f4).le l, hi⟩, fun q => ?_⟩⟩
    obtain ⟨as', l, hi⟩ := hf q
    exact ⟨as', ps, (hb f3).le l, hi⟩
  · rintro ts rt ⟨as, ps, f1, hi⟩
    exact ⟨wipA as own, ps, hw f1, k _ _ _ hi⟩⟩
end
end Mi
namespace Mi
open PySem L2
section
variable {c : Cfg} {mv : Bool} {as : List A} {ps : List T} {Q : T → List A → List T → Prop} {Qs : Fl → List A → List T → Prop}
theorem vl_map {α : Type} (fd ft : α → D) (xs : List α) {own : List Nat} {tg : Tg} {cond elt : E} {bs : List A} (ho : tg.slots.all (own.contains ·) = true) (l : Les ps 0 (wipA as own) bs) (hl : xs.length ≤ 1000000)
    (st : ∀ x ∈ xs, ∃ as1, bindA bs tg (fd x) = some as1 ∧ Ve c false cond as1 ps fun t as2 ps2 => t = .cl (.bl true) ∧ Ve c false elt as2 ps2 fun t as3 ps3 => t = .cl (ft x) ∧ Les ps 0 (wipA as3 own) bs ∧ ps3 = ps)
    (k : Q (.ls (cls (xs.map ft))) (wipA bs own) ps) : Vl c own tg cond elt (xs.map fd) as ps Q := by
  refine vl_ind (fun n ts as' ps' => as' = bs ∧ ps' = ps ∧ ts = cls ((xs.take n).map ft)) _ ho ⟨bs, l, rfl, rfl, rfl⟩ (by have : sizeLine = 16777216 := rfl; rw [List.length_map]; omega) ?_ ?_
  · rintro n x acc as' ps' hx ⟨rfl, rfl, rfl⟩
    rw [List.getElem?_map] at hx
    obtain ⟨p, hp, rfl⟩ := Option.map_eq_some_iff.mp hx
    obtain ⟨as1, e1, h⟩ := st p (List.mem_of_getElem? hp)
    refine ⟨as1, e1, h.mono fun t as ps ⟨e, h⟩ => ⟨true, e, fun _ => h.mono fun t as ps ⟨e, l, e2⟩ => ⟨_, by rw [e2]; exact l, rfl, e2, ?_⟩, fun h => by cases h⟩⟩
    rw [e, List.take_succ, hp, List.map_append]
    unfold cls
    rw [List.map_append]
    rfl
  · rintro ts as' ps' ⟨rfl, rfl, rfl⟩
    rw [List.length_map, List.take_length]
    exact k
structure Lt (i n : Nat) : Prop where out : Nat.blt i n = true
theorem Lt.lt {i n : Nat} (h : Lt i n) : i < n := by
  have h := h.out
  simpa [Nat.blt_eq] using h
def stA : T → A
  | .cl d => .v d
  | t => .o t
theorem stA_of {t : T} (h : t.isCl = false) : stA t = .o t := by
  cases t with
  | cl d => cases h
  | _ => rfl
theorem store_ok {sl : Sl} {rt : Rt} (f : Fr c.np as ps sl rt) {i : Nat} (hi : i < as.length) (t : T) : ∃ sl' rt', store c i t sl rt = some (sl', rt') ∧ Fr c.np (as.set i (stA t)) ps sl' rt' := by
  cases q : t.isCl with
  | true =>
    rw [isCl_of q]
    exact ⟨_, _, by unfold store; rw [if_pos (by rw [f.ls]; exact hi)], f.setv hi _⟩
  | false =>
    rw [stA_of q]
    refine ⟨_, _, ?_, f.seto hi t⟩
    have hu : usedBy sl i (c.np + i) sl.length = false := by
      have : ∀ n, usedBy sl i (c.np + i) n = false := fun n => by
        induction n with
        | zero => rfl
        | succ n ih =>
          unfold usedBy
          rw [ih, Bool.false_or]
          by_cases e : n = i
          · subst e; simp
          · cases e2 : sl[n]? with
            | none => simp
            | some o =>
              cases o with
              | none => simp
              | some s =>
                cases s with
                | v d => simp
                | r k' =>
                  have := f.home _ _ e2
                  have : k' ≠ c.np + i := by omega
                  simp [this]
      exact this _
    unfold store
    rw [if_pos (by rw [f.ls]; exact hi)]
    cases t with
    | cl d => cases q
    | _ => simp only; rw [hu, if_neg (by decide), if_pos (by rw [f.lr]; omega)]
theorem vs_nil (h : Qs .nx as ps) : Vs c .nil as ps Qs := ⟨fun sl rt f => ws_nil ⟨as, ps, f, h⟩⟩
theorem vs_x {s : St} {r : Ss} (h : Vx c s as ps (Kv c r Qs)) : Vs c (.cons s r) as ps Qs := ⟨fun sl rt f => ws_x ((h.out sl rt f).mono fun fl sl rt ⟨as, ps, f, ⟨h⟩⟩ => ⟨by
  cases fl with
  | nx => exact h.out sl rt f
  | _ => exact ⟨as, ps, f, h⟩⟩)⟩
theorem nf_cons {α : Type} {l l1 l2 : List α} {a : α} (e : l = a :: l1) (h : l1 = l2) : l = a :: l2 := by rw [e, h]
theorem nf_nil {α : Type} {l : List α} (e : l = []) : l = [] := e
theorem kv_nx {r : Ss} {bs : List A} {qs : List T} (h1 : as = bs) (h2 : ps = qs) (h : Vs c r bs qs Qs) : Kv c r Qs .nx as ps := ⟨by rw [h1, h2]; exact h⟩
theorem kv_rt {r : Ss} {t : T} (h : Qs (.rt t) as ps) : Kv c r Qs (.rt t) as ps := ⟨h⟩
theorem kv_ct {r : Ss} (h : Qs .ct as ps) : Kv c r Qs .ct as ps := ⟨h⟩
theorem kv_bk {r : Ss} (h : Qs .bk as ps) : Kv c r Qs .bk as ps := ⟨h⟩
theorem vx_asg {i : Nat} {e : E} (h : Ve c false e as ps fun t as ps => Lt i as.length ∧ Qs .nx (as.set i (stA t)) ps) : Vx c (.asg i e) as ps Qs := ⟨fun sl rt f => wx_asg ((h.out sl rt f).mono fun t rt ⟨as, ps, f, l, h⟩ => by
  obtain ⟨sl', rt', e, f'⟩ := store_ok f l.lt t
  exact ⟨_, e, _, _, f', h⟩)⟩
theorem vx_par {i j : Nat} {a b : E} (h : Ve c false a as ps fun x as ps => Ve c false b as ps fun y as ps => Lt i as.length ∧ Lt j as.length ∧ Qs .nx ((as.set j (stA y)).set i (stA x)) ps) : Vx c (.par i j a b) as ps Qs :=
  ⟨fun sl rt f => wx_par ((h.out sl rt f).mono fun x rt ⟨as, ps, f, h⟩ => (h.out sl rt f).mono fun y rt ⟨as, ps, f, l1, l2, h⟩ => by
    obtain ⟨sl', rt', e, f'⟩ := store_ok f l2.lt y
    obtain ⟨sl2, rt2, e2, f2⟩ := store_ok f' (i := i) (by rw [List.length_set]; exact l1.lt) x
    exact ⟨_, e, _, e2, _, _, f2, h⟩)⟩
theorem vx_parN {i j : Nat} {a b : E} (h : Ve c false a as ps fun x as ps => Ve c false b as ps fun y as ps => Lt i as.length ∧ Lt j as.length ∧ Qs .nx ((as.set i (stA x)).set j (stA y)) ps) : Vx c (.parN i j a b) as ps Qs :=
  ⟨fun sl rt f => wx_parN ((h.out sl rt f).mono fun x rt ⟨as, ps, f, h⟩ => (h.out sl rt f).mono fun y rt ⟨as, ps, f, l1, l2, h⟩ => by
    obtain ⟨sl', rt', e, f'⟩ := store_ok f l1.lt x
    obtain ⟨sl2, rt2, e2, f2⟩ := store_ok f' (i := j) (by rw [List.length_set]; exact l2.lt) y
    exact ⟨_, e, _, e2, _, _, f2, h⟩)⟩
theorem vx_asgT {tg : Tg} {e : E} (h : Ve c false e as ps fun t as ps => ∃ as', bindA as tg t.d = some as' ∧ Qs .nx as' ps) : Vx c (.asgT tg e) as ps Qs := ⟨fun sl rt f => wx_asgT ((h.out sl rt f).mono fun t rt ⟨as, ps, f, as', e, h⟩ => by
  obtain ⟨sl', e2, f', -⟩ := bindA_ok f e
  exact ⟨_, e2, _, _, f', h⟩)⟩
theorem vx_setx {p : P} {x : X0} {e : E} (h : Ve c false e as ps fun t as ps => ∃ u i u' as' ps', ptA as ps p = some u ∧ x0A as ps x = some i ∧ putIxT u i t = some u' ∧ upA as ps p u' = some (as', ps') ∧ Qs .nx as' ps') : Vx c (.setx p x e) as ps Qs := ⟨fun sl rt f => wx_setx ((h.out sl rt f).mono fun t rt ⟨as, ps, f, u, i, u', as', ps', e1, e2, e3, e4, h⟩ => by
  obtain ⟨rt', e5, f'⟩ := upA_ok f e4
  exact ⟨_, _, _, _, ptA_ex f e1 (upA_ex e4), x0A_ok f _ _ e2, e3, e5, _, _, f', h⟩)⟩
theorem vx_app {i : Nat} {e : E} {ts0 : List T} (e0 : ptA as ps (.var i) = some (.ls ts0)) (h : Ve c false e as ps fun t as ps => ∃ ts as' ps', ptA as ps (.var i) = some (.ls ts) ∧ ts.length < sizeLine ∧ upA as ps (.var i) (.ls (ts ++ [t])) = some (as', ps') ∧ Qs .nx as' ps') : Vx c (.app (.var i) e) as ps Qs :=
  ⟨fun sl rt f => wx_app (ptA_ex f e0 (exA_of f e0 rfl)) ((h.out sl rt f).mono fun t rt ⟨as, ps, f, ts, as', ps', e1, e2, e3, h⟩ => by
    obtain ⟨rt', e5, f'⟩ := upA_ok f e3
    exact ⟨_, _, ptA_ex f e1 (upA_ex e3), e2, e5, _, _, f', h⟩)⟩
def evqA (as : List A) (ps : List T) : E → Option D
  | .int i => some (.int i)
  | .bl b => some (.bl b)
  | .non => some .non
  | .str s => some (.str s)
  | .get p => match ptA as ps p with
    | some (.cl d) => if exA as p.root then some d else none
    | _ => none
  | .bin op a b => match evqA as ps a, evqA as ps b with
    | some x, some y => match opB op x y with | some (.cl d) => some d | _ => none
    | _, _ => none
  | .neg a => match evqA as ps a with
    | some (.int i) => some (.int (-i))
    | _ => none
  | .x e => x0A as ps e
  | .tup (.cons a (.cons b .nil)) => match evqA as ps a, evqA as ps b with
    | some x, some y => some (.tup [x, y])
    | _, _ => none
  | _ => none
theorem evqA_ok {np : Nat} {sl : Sl} {rt : Rt} (f : Fr np as ps sl rt) : ∀ (e : E) (d : D), evqA as ps e = some d → evq sl rt e = some d := by
  intro e d h
  fun_induction evqA as ps e generalizing d with
  | case1 => exact h
  | case2 => exact h
  | case3 => exact h
  | case4 => exact h
  | case5 p d' e1 x => cases h; unfold evq; rw [ptA_ex f e1 x]
  | case6 => cases h
  | case7 => cases h
  | case8 op a b x y e1 e2 d' e3 ih1 ih2 => cases h; unfold evq; rw [ih2 _ e1, ih1 _ e2]; simp only; rw [e3]
  | case9 => cases h
  | case10 => cases h
  | case11 a i e1 ih => cases h; unfold evq; rw [ih _ e1]
  | case12 => cases h
  | case13 x => unfold evq; exact x0A_ok f _ _ h
  | case14 a b x y e1 e2 ih1 ih2 => cases h; unfold evq; rw [ih2 _ e1, ih1 _ e2]
  | case15 => cases h
  | case16 => cases h
theorem vx_app2 {p : P} {e : E} {ts : List T} {d : D} {as' : List A} {ps' : List T} (e0 : p.isVar = false) (e1 : ptA as ps p = some (.ls ts)) (e2 : evqA as ps e = some d) (e3 : ts.length < sizeLine) (e4 : upA as ps p (.ls (ts ++ [.cl d])) = some (as', ps')) (h : Qs .nx as' ps') : Vx c (.app p e) as ps Qs := ⟨fun sl rt f => by
  obtain ⟨rt', e5, f'⟩ := upA_ok f e4
  exact wx_app2 e0 (ptA_ex f e1 (upA_ex e4)) (evqA_ok f _ _ e2) e3 e5 ⟨_, _, f', h⟩⟩
theorem vx_augA {i : Nat} {e : E} {a : Int} (e0 : as[i]? = some (.v (.int a))) (h : Ve c false e as ps fun t as ps => ∃ b, t = .cl (.int b) ∧ Lt i as.length ∧ Qs .nx (as.set i (.v (.int (a + b)))) ps) : Vx c (.aug i .add e) as ps Qs :=
  ⟨fun sl rt f => wx_augA (f.hold _ _ e0) ((h.out sl rt f).mono fun t rt ⟨as, ps, f, b, e, l, h⟩ => by
    obtain ⟨sl', rt', e5, f'⟩ := store_ok f l.lt (.cl (.int (a + b)))
    exact ⟨b, e, _, e5, _, _, f', h⟩)⟩
theorem vx_augS {i : Nat} {e : E} {a : Int} (e0 : as[i]? = some (.v (.int a))) (h : Ve c false e as ps fun t as ps => ∃ b, t = .cl (.int b) ∧ Lt i as.length ∧ Qs .nx (as.set i (.v (.int (a - b)))) ps) : Vx c (.aug i .sub e) as ps Qs :=
  ⟨fun sl rt f => wx_augS (f.hold _ _ e0) ((h.out sl rt f).mono fun t rt ⟨as, ps, f, b, e, l, h⟩ => by
    obtain ⟨sl', rt', e5, f'⟩ := store_ok f l.lt (.cl (.int (a - b)))
    exact ⟨b, e, _, e5, _, _, f', h⟩)⟩
theorem vx_fld {p : P} {g : Str} {e : E} (h : Ve c false e as ps fun t as ps => ∃ cc ns ts as' ps', ptA as ps p = some (.ob cc ns ts) ∧ ns.length < 1000 ∧ upA as ps p (.ob cc (putN g t ns ts).1 (putN g t ns ts).2) = some (as', ps') ∧ Qs .nx as' ps') : Vx c (.fld p g e) as ps Qs :=
  ⟨fun sl rt f => wx_fld ((h.out sl rt f).mono fun t rt ⟨as, ps, f, cc, ns, ts, as', ps', e1, e2, e3, h⟩ => by
    obtain ⟨rt', e5, f'⟩ := upA_ok f e3
    exact ⟨_, _, _, _, ptA_ex f e1 (upA_ex e3), e2, e5, _, _, f', h⟩)⟩
theorem wx_fldaugA {p : P} {g : Str} {e : E} {sl : Sl} {rt rt' : Rt} {Qs : Fl → Sl → Rt → Prop} {cc : Nat} {ns : List Str} {ts : List T} {a b : Int} (e1 : pt sl rt p = some (.ob cc ns ts)) (e2 : lookN ns ts g = some (.cl (.int a))) (e3 : evq sl rt e = some (.int b)) (e4 : ns.length < 1000) (e5 : upP sl rt p (.ob cc ns (upP.setN g (.cl (.int (a + b))) ns ts)) = some rt') (h : Qs .nx sl rt') : Wx c (.fldaug p g .add e) sl rt Qs :=
  ⟨_, _, _, by unfold ex; rw [e1]; simp only; rw [e2, e3]; simp only; rw [if_pos e4, e5]; rfl, h⟩
theorem vx_fldaugA {p : P} {g : Str} {e : E} {cc : Nat} {ns : List Str} {ts : List T} {a b : Int} {as' : List A} {ps' : List T} (e1 : ptA as ps p = some (.ob cc ns ts)) (e2 : lookN ns ts g = some (.cl (.int a))) (e3 : evqA as ps e = some (.int b)) (e4 : ns.length < 1000) (e5 : upA as ps p (.ob cc ns (upP.setN g (.cl (.int (a + b))) ns ts)) = some (as', ps')) (h : Qs .nx as' ps') : Vx c (.fldaug p g .add e) as ps Qs := ⟨fun sl rt f => by
  obtain ⟨rt', e6, f'⟩ := upA_ok f e5
  exact wx_fldaugA (ptA_ex f e1 (upA_ex e5)) e2 (evqA_ok f _ _ e3) e4 e6 ⟨_, _, f', h⟩⟩
theorem vx_augxA {p : P} {x : X0} {e : E} {ts : List T} {i b a : Int} {u : T} {as' : List A} {ps' : List T} (e1 : ptA as ps p = some (.ls ts)) (e2 : x0A as ps x = some (.int i)) (e3 : evqA as ps e = some (.int b)) (e4 : ixT (.ls ts) (.int i) = some (.cl (.int a))) (e5 : setIxT (.ls ts) (.int i) (.cl (.int (a + b))) = some u) (e6 : upA as ps p u = some (as', ps')) (h : Qs .nx as' ps') : Vx c (.augx p x .add e) as ps Qs := ⟨fun sl rt f => by
  obtain ⟨rt', e7, f'⟩ := upA_ok f e6
  exact wx_augxA (ptA_ex f e1 (upA_ex e6)) (x0A_ok f _ _ e2) (evqA_ok f _ _ e3) e4 e5 e7 ⟨_, _, f', h⟩⟩
theorem vx_ext {i : Nat} {e : E} {ts0 : List T} (e0 : ptA as ps (.var i) = some (.ls ts0)) (h : Ve c false e as ps fun t as ps => ∃ ds ts as' ps', t.d = .lst ds ∧ ptA as ps (.var i) = some (.ls ts) ∧ ts.length + ds.length ≤ sizeLine ∧ upA as ps (.var i) (.ls (ts ++ cls ds)) = some (as', ps') ∧ Qs .nx as' ps') : Vx c (.ext i e) as ps Qs :=
  ⟨fun sl rt f => wx_ext (ptA_ex f e0 (exA_of f e0 rfl)) ((h.out sl rt f).mono fun t rt ⟨as, ps, f, ds, ts, as', ps', e1, e2, e3, e4, h⟩ => by
    obtain ⟨rt', e5, f'⟩ := upA_ok f e4
    exact ⟨_, _, _, e1, ptA_ex f e2 (upA_ex e4), e3, e5, _, _, f', h⟩)⟩
theorem vx_ex {e : E} (h : Ve c false e as ps fun _ as ps => Qs .nx as ps) : Vx c (.ex e) as ps Qs := ⟨fun sl rt f => wx_ex ((h.out sl rt f).mono fun t rt h => h)⟩
theorem vx_ite {e : E} {a b : Ss} (h : Ve c false e as ps fun t as ps => ∃ v, t = .cl (.bl v) ∧ (v = true → Vs c a as ps Qs) ∧ (v = false → Vs c b as ps Qs)) : Vx c (.ite e a b) as ps Qs :=
  ⟨fun sl rt f => wx_ite ((h.out sl rt f).mono fun t rt ⟨as, ps, f, v, e, h1, h2⟩ => ⟨v, e, fun q => (h1 q).out sl rt f, fun q => (h2 q).out sl rt f⟩)⟩
theorem vx_fr {tg : Tg} {it : It} {b : Ss} (h : Vi c it as ps fun xs as ps => Vg c tg b xs as ps Qs) : Vx c (.fr tg it b) as ps Qs := ⟨fun sl rt f => wx_fr ((h.out sl rt f).mono fun xs rt ⟨as, ps, f, h⟩ => h.out sl rt f)⟩
theorem vx_ret {e : E} (h : Ve c true e as ps fun t as ps => Qs (.rt t) as ps) : Vx c (.ret e) as ps Qs := ⟨fun sl rt f => wx_ret ((h.out sl rt f).mono fun t rt h => h)⟩
theorem vx_retN (h : Qs (.rt (.cl .non)) as ps) : Vx c .retN as ps Qs := ⟨fun sl rt f => wx_retN ⟨as, ps, f, h⟩⟩
theorem vx_brk (h : Qs .bk as ps) : Vx c .brk as ps Qs := ⟨fun sl rt f => wx_brk ⟨as, ps, f, h⟩⟩
theorem vx_ct (h : Qs .ct as ps) : Vx c .ct as ps Qs := ⟨fun sl rt f => wx_ct ⟨as, ps, f, h⟩⟩
theorem vx_nop (h : Qs .nx as ps) : Vx c .nop as ps Qs := ⟨fun sl rt f => wx_nop ⟨as, ps, f, h⟩⟩
structure Kg (I : List A → List T → Prop) (Q : Fl → List A → List T → Prop) (f : Fl) (as : List A) (ps : List T) : Prop where out : match f with
  | .nx => ∃ as', Les ps 0 as as' ∧ I as' ps
  | .ct => ∃ as', Les ps 0 as as' ∧ I as' ps
  | .bk => Q .nx as ps
  | .rt t => Q (.rt t) as ps
theorem kg_nx {I : List A → List T → Prop} (h : ∃ as', Les ps 0 as as' ∧ I as' ps) : Kg I Qs .nx as ps := ⟨h⟩
theorem kg_ct {I : List A → List T → Prop} (h : ∃ as', Les ps 0 as as' ∧ I as' ps) : Kg I Qs .ct as ps := ⟨h⟩
theorem kg_bk {I : List A → List T → Prop} (h : Qs .nx as ps) : Kg I Qs .bk as ps := ⟨h⟩
theorem kg_rt {I : List A → List T → Prop} {t : T} (h : Qs (.rt t) as ps) : Kg I Qs (.rt t) as ps := ⟨h⟩
theorem vg_ind (I : Nat → List A → List T → Prop) {tg : Tg} {b : Ss} (xs : List D) (h0 : ∃ as', Les ps 0 as as' ∧ I 0 as' ps)
    (st : ∀ n x as ps, xs[n]? = some x → I n as ps → ∃ as1, bindA as tg x = some as1 ∧ Vs c b as1 ps (Kg (I (n + 1)) Qs))
    (k : ∀ as ps, I xs.length as ps → Qs .nx as ps) : Vg c tg b xs as ps Qs := ⟨fun sl rt f => by
  suffices H : ∀ (xs : List D) (I : Nat → List A → List T → Prop) (as : List A) (ps : List T) (sl : Sl) (rt : Rt), Fr c.np as ps sl rt → I 0 as ps →
      (∀ n x as ps, xs[n]? = some x → I n as ps → ∃ as1, bindA as tg x = some as1 ∧ Vs c b as1 ps (Kg (I (n + 1)) Qs)) → (∀ as ps, I xs.length as ps → Qs .nx as ps) →
      Wg c tg b xs sl rt fun f sl' rt' => ∃ as' ps', Fr c.np as' ps' sl' rt' ∧ Qs f as' ps' by
    obtain ⟨as0, l0, i0⟩ := h0
    exact H xs I as0 ps sl rt (f.le l0) i0 st k
  clear h0 st k f sl rt I xs
  intro xs
  induction xs with
  | nil => exact fun I as ps sl rt f i0 st k => ⟨_, _, _, rfl, _, _, f, k _ _ i0⟩
  | cons x xs ih =>
    intro I as0 ps sl rt f i0 st k
    obtain ⟨as1, e1, h1⟩ := st 0 x as0 ps rfl i0
    obtain ⟨sl1, e2, f1, -⟩ := bindA_ok f e1
    obtain ⟨fl, sl2, rt2, e3, as2, ps2, f2, ⟨h2⟩⟩ := h1.out sl1 rt f1
    cases fl with
    | nx =>
      obtain ⟨as3, l3, i3⟩ := h2
      obtain ⟨fl', sl3, rt3, e4, h4⟩ := ih (fun n => I (n + 1)) as3 ps2 sl2 rt2 (f2.le l3) i3 (fun n y as ps e h => st (n + 1) y as ps e h) k
      exact ⟨fl', sl3, rt3, by unfold forGo; rw [e2]; simp only; rw [e3]; exact e4, h4⟩
    | ct =>
      obtain ⟨as3, l3, i3⟩ := h2
      obtain ⟨fl', sl3, rt3, e4, h4⟩ := ih (fun n => I (n + 1)) as3 ps2 sl2 rt2 (f2.le l3) i3 (fun n y as ps e h => st (n + 1) y as ps e h) k
      exact ⟨fl', sl3, rt3, by unfold forGo; rw [e2]; simp only; rw [e3]; exact e4, h4⟩
    | bk => exact ⟨.nx, sl2, rt2, by unfold forGo; rw [e2]; simp only; rw [e3], as2, ps2, f2, h2⟩
    | rt t => exact ⟨.rt t, sl2, rt2, by unfold forGo; rw [e2]; simp only; rw [e3], as2, ps2, f2, h2⟩⟩
theorem vx_wh (I : Nat → List A → List T → Prop) (N : Nat) (hN : N < 1000000000) {e : E} {b : Ss} (h0 : ∃ as', Les ps 0 as as' ∧ I N as' ps)
    (st : ∀ n as ps, I n as ps → Ve c false e as ps fun t as ps => ∃ v, t = .cl (.bl v) ∧ (v = true → ∃ m, n = m + 1 ∧ Vs c b as ps (Kg (I m) Qs)) ∧ (v = false → Qs .nx as ps)) : Vx c (.wh e b) as ps Qs := ⟨fun sl rt f => by
  suffices H : ∀ (F n : Nat) (as : List A) (ps : List T) (sl : Sl) (rt : Rt), n < F → Fr c.np as ps sl rt → I n as ps → ∃ f sl' rt', whGo (fun sl rt => tstOf (ev c false sl e rt)) (fun sl rt => exs c b sl rt) F sl rt = some (f, sl', rt') ∧ ∃ as' ps', Fr c.np as' ps' sl' rt' ∧ Qs f as' ps' by
    obtain ⟨as0, l0, i0⟩ := h0
    obtain ⟨fl, sl', rt', e4, h4⟩ := H whMax N as0 ps sl rt hN (f.le l0) i0
    exact ⟨fl, sl', rt', by unfold ex; exact e4, h4⟩
  clear h0 f sl rt hN N
  intro F
  induction F with
  | zero => exact fun n as ps sl rt h => absurd h (Nat.not_lt_zero n)
  | succ F ih =>
    intro n as ps sl rt hn f i0
    obtain ⟨t, rt1, e1, as1, ps1, f1, v, rfl, ht, hf⟩ := (st n as ps i0).out sl rt f
    have e1 : tstOf (ev c false sl e rt) = some (v, rt1) := by rw [e1]; rfl
    cases v with
    | false => exact ⟨.nx, sl, rt1, by unfold whGo; rw [e1], as1, ps1, f1, hf rfl⟩
    | true =>
      obtain ⟨m, rfl, h1⟩ := ht rfl
      obtain ⟨fl, sl2, rt2, e3, as2, ps2, f2, ⟨h2⟩⟩ := h1.out sl rt1 f1
      cases fl with
      | nx =>
        obtain ⟨as3, l3, i3⟩ := h2
        obtain ⟨fl', sl3, rt3, e4, h4⟩ := ih m as3 ps2 sl2 rt2 (by omega) (f2.le l3) i3
        exact ⟨fl', sl3, rt3, by unfold whGo; rw [e1]; simp only; rw [e3]; exact e4, h4⟩
      | ct =>
        obtain ⟨as3, l3, i3⟩ := h2
        obtain ⟨fl', sl3, rt3, e4, h4⟩ := ih m as3 ps2 sl2 rt2 (by omega) (f2.le l3) i3
        exact ⟨fl', sl3, rt3, by unfold whGo; rw [e1]; simp only; rw [e3]; exact e4, h4⟩
      | bk => exact ⟨.nx, sl2, rt2, by unfold whGo; rw [e1]; simp only; rw [e3], as2, ps2, f2, h2⟩
      | rt t => exact ⟨.rt t, sl2, rt2, by unfold whGo; rw [e1]; simp only; rw [e3], as2, ps2, f2, h2⟩⟩
end
structure Vr (R : T → List T → Prop) (f : Fl) (as : List A) (ps : List T) : Prop where out : ∃ t, ((f = .nx ∧ t = .cl .non) ∨ f = .rt t) ∧ R t ps
theorem vr_rt {R : T → List T → Prop} {t : T} {as : List A} {ps : List T} (h : R t ps) : Vr R (.rt t) as ps := ⟨t, .inr rfl, h⟩
theorem vr_nx {R : T → List T → Prop} {as : List A} {ps : List T} (h : R (.cl .non) ps) : Vr R .nx as ps := ⟨_, .inl ⟨rfl, rfl⟩, h⟩
def startA (np ns : Nat) : List A := List.replicate np .p ++ List.replicate (ns - np) .any
theorem startA_get {np ns j : Nat} {a : A} (h : (startA np ns)[j]? = some a) : a = .any ∨ (a = .p ∧ j < np) := by
  unfold startA at h
  rw [List.getElem?_append] at h
  split at h
  · rename_i hl
    rw [List.length_replicate] at hl
    rw [List.getElem?_replicate, if_pos hl] at h
    exact .inr ⟨(Option.some.inj h).symm, hl⟩
  · rw [List.getElem?_replicate] at h
    split at h
    · exact .inl (Option.some.inj h).symm
    · cases h
theorem start_fr {np ns : Nat} {as : List T} (h : as.length = np) (hn : np ≤ ns) : Fr np (startA np ns) as (startSl np ns) (startRt ns as) := by
  have hs : ∀ j : Nat, j < np → (startSl np ns)[j]? = some (some (.r j)) := fun j hj => by
    unfold startSl
    rw [List.getElem?_append_left (by simpa using hj), List.getElem?_map, List.getElem?_range hj]
    rfl
  refine ⟨by simp [startSl, startA], by simp [startRt, startA, h]; omega, h, fun j t e => ?_, fun j k e => ?_, fun j a e => ?_⟩
  · have hj := len_of e
    unfold startRt
    rw [List.getElem?_append_left (by simpa using hj), List.getElem?_map, e]
    rfl
  · by_cases hj : j < np
    · rw [hs j hj] at e
      cases e
      exact .inr ⟨rfl, hj⟩
    · unfold startSl at e
      rw [List.getElem?_append_right (by simpa using hj), List.getElem?_replicate] at e
      split at e <;> cases e
  · rcases startA_get e with rfl | ⟨rfl, hj⟩
    · trivial
    · exact ⟨hs j hj, hj⟩
theorem somes_of : ∀ {ps : List T} {rt : Rt}, (∀ (j : Nat) (t : T), ps[j]? = some t → rt[j]? = some (some t)) → somes (rt.take ps.length) = some ps
  | [], rt, h => by rw [List.length_nil, List.take_zero]; rfl
  | t :: ps, [], h => by have := h 0 t rfl; cases this
  | t :: ps, r :: rt, h => by
    have h0 := h 0 t rfl
    cases h0
    rw [List.length_cons, List.take_succ_cons]
    unfold somes
    rw [somes_of fun j u e => by have := h (j + 1) u (by rw [List.getElem?_cons_succ]; exact e); rwa [List.getElem?_cons_succ] at this]
    rfl
theorem vf_of {g : List (Str × D)} {F : Fs} {np ns : Nat} {body : Ss} {as : List T} {R : T → List T → Prop} (h : as.length = np) (hn : Nat.ble np ns = true) (e : Vs ⟨F, np, g⟩ body (startA np ns) as (Vr R)) : Wf g F ⟨np, ns, body⟩ as R := by
  refine wf_of h ?_
  refine (e.out _ _ (start_fr h (Nat.le_of_ble_eq_true hn))).mono fun f sl rt ⟨as', ps', f', t, e, r⟩ => ⟨t, ps', ?_, ?_, r⟩
  · rcases e with ⟨rfl, rfl⟩ | rfl
    · exact .inl ⟨rfl, rfl⟩
    · exact .inr rfl
  · have := somes_of f'.hp
    rwa [f'.lp] at this
end Mi
namespace Mi
open PySem L2
section
variable {c : Cfg} {mv : Bool} {as : List A} {ps : List T} {Q : T → List A → List T → Prop} {Qs : Fl → List A → List T → Prop}
theorem we_sls {sl : Sl} {rt : Rt} {Q : T → Rt → Prop} {a : E} {lo : Option X0} {st : X0} (h : We c false sl a rt fun x rt => ∃ (l : Option Int) (k : Nat) (t : T), optX sl rt lo = some l ∧ x0 sl rt st = some (.int k) ∧ 1 ≤ k ∧ slkD x.d l k = some t ∧ Q t rt) : We c mv sl (.sls a lo st) rt Q := by
  obtain ⟨x, r1, e1, l, k, t, e2, e3, e4, e5, h⟩ := h
  refine ⟨t, r1, ?_, h⟩
  unfold ev
  rw [e1]
  cases lo with
  | none =>
    simp only [optX] at e2
    cases e2
    simp only [e3]
    rw [if_pos (by omega), Int.toNat_natCast, e5]
    rfl
  | some lo =>
    simp only [optX] at e2
    simp only [e2, e3]
    rw [if_pos (by omega), Int.toNat_natCast, e5]
    rfl
theorem ve_sls {a : E} {lo : Option X0} {st : X0} (h : Ve c false a as ps fun x as ps => ∃ (l : Option Int) (k : Nat) (t : T), optXA as ps lo = some l ∧ x0A as ps st = some (.int k) ∧ 1 ≤ k ∧ slkD x.d l k = some t ∧ Q t as ps) : Ve c mv (.sls a lo st) as ps Q :=
  ⟨fun sl rt f => we_sls ((h.out sl rt f).mono fun x rt ⟨as, ps, f, l, k, t, e1, e2, e3, e4, h⟩ => ⟨l, k, t, optXA_ok f e1, x0A_ok f _ _ e2, e3, e4, as, ps, f, h⟩)⟩
theorem we_methS {sl : Sl} {rt : Rt} {Q : T → Rt → Prop} {cc : Nat} {m : Str} {f : Nat} {o es : Es} (h : Wa c sl o rt fun os rt => ∃ x, os = [x] ∧ recv cc m rt x = true ∧ Wa c sl es rt fun xs rt => ∃ ds, allD xs = some ds ∧ ds.length ≤ 1000 ∧ Wc c.F f [0, 1] [x, .inl (.tup ds)] rt Q) : We c mv sl (.methS cc m f o es) rt Q := by
  obtain ⟨os, r0, e0, x, rfl, e4, y, r1, e1, ds, e2, e5, t, r3, e3, h⟩ := h
  exact ⟨t, r3, by unfold ev; rw [e0]; simp only; rw [if_pos e4, e1]; simp only; rw [e2]; simp only; rw [if_pos e5]; exact e3, h⟩
theorem ve_methS {cc : Nat} {m : Str} {g : Nat} {o es : Es} (h : Va c o as ps fun os as ps => ∃ x, os = [x] ∧ RecvOk cc m as ps x ∧ Va c es as ps fun xs as ps => ∃ ds, allD xs = some ds ∧ ds.length ≤ 1000 ∧ Vc c g [0, 1] [x, .inl (.tup ds)] as ps Q) : Ve c mv (.methS cc m g o es) as ps Q :=
  ⟨fun sl rt f => we_methS ((h.out sl rt f).mono fun os rt ⟨os', as, ps, e, f, x, e0, ⟨r⟩, h⟩ => by
    subst e e0
    refine ⟨conc sl x, rfl, recvA_ok f r, (h.out sl rt f).mono fun xs rt ⟨xs', as, ps, e, f, ds, e2, l, h⟩ => ⟨ds, ?_, l, h.out sl rt f⟩⟩
    subst e
    rw [allD_conc sl e2]
    exact e2)⟩
theorem we_callS {sl : Sl} {rt : Rt} {Q : T → Rt → Prop} {f : Nat} {es : Es} (h : Wa c sl es rt fun xs rt => ∃ ds, allD xs = some ds ∧ ds.length ≤ 1000 ∧ Wc c.F f [0] [.inl (.tup ds)] rt Q) : We c mv sl (.callS f es) rt Q := by
  obtain ⟨y, r1, e1, ds, e2, e5, t, r3, e3, h⟩ := h
  exact ⟨t, r3, by unfold ev; rw [e1]; simp only; rw [e2]; simp only; rw [if_pos e5]; exact e3, h⟩
theorem ve_callS {g : Nat} {es : Es} (h : Va c es as ps fun xs as ps => ∃ ds, allD xs = some ds ∧ ds.length ≤ 1000 ∧ Vc c g [0] [.inl (.tup ds)] as ps Q) : Ve c mv (.callS g es) as ps Q :=
  ⟨fun sl rt f => we_callS ((h.out sl rt f).mono fun xs rt ⟨xs', as, ps, e, f, ds, e2, l, h⟩ => ⟨ds, by subst e; rw [allD_conc sl e2]; exact e2, l, h.out sl rt f⟩)⟩
theorem vl_mapE {α : Type} (fd ft : α → D) (xs : List α) {own : List Nat} {tg : Tg} {cond elt : E} {bs : List A} (ho : tg.slots.all (own.contains ·) = true) (hl : xs.length ≤ 1000000) (nf : wipA as own = bs)
    (st : ∀ x ∈ xs, ∃ as1, bindA bs tg (fd x) = some as1 ∧ Ve c false cond as1 ps fun t as2 ps2 => t = .cl (.bl true) ∧ Ve c false elt as2 ps2 fun t as3 ps3 => t = .cl (ft x) ∧ wipA as3 own = bs ∧ ps3 = ps)
    (k : Q (.ls (cls (xs.map ft))) (wipA bs own) ps) : Vl c own tg cond elt (xs.map fd) as ps Q := by
  refine vl_map fd ft xs ho (nf ▸ Les.rfl' _ 0) hl (fun x m => ?_) k
  obtain ⟨as1, e1, h⟩ := st x m
  exact ⟨as1, e1, h.mono fun t as ps ⟨e, h⟩ => ⟨e, h.mono fun t as ps ⟨e, e2, e3⟩ => ⟨e, e2 ▸ Les.rfl' _ 0, e3⟩⟩⟩
end
end Mi
namespace Mi
open PySem L2
section
variable {c : Cfg} {mv : Bool} {as : List A} {ps : List T} {Q : T → List A → List T → Prop} {Qs : Fl → List A → List T → Prop}
theorem we_oop {sl : Sl} {rt : Rt} {op : BOp} {cc f : Nat} {a b : E} {Q : T → Rt → Prop} (h : We c false sl a rt fun x rt => We c false sl b rt fun y rt => (isC cc rt (.inl x.d) && isC cc rt (.inl y.d)) = true ∧ Wc c.F f [0, 1] [.inl x.d, .inl y.d] rt fun t rt => ∃ c' ns ts, t = .ob c' ns ts ∧ Q (.ob c' ns ts) rt) : We c mv sl (.oop cc f op a b) rt Q := by
  obtain ⟨x, r1, e1, y, r2, e2, e3, t, r3, e4, c', ns, ts, rfl, h⟩ := h
  exact ⟨_, r3, by unfold ev; rw [e1]; simp only; rw [e2]; simp only; rw [if_pos e3]; simp only [e4], h⟩
theorem we_dn {sl : Sl} {rt : Rt} {Q : T → Rt → Prop} (h : Q (.dc [] []) rt) : We c mv sl .dn rt Q := ⟨_, _, by unfold ev; rfl, h⟩
theorem ve_dn (h : Q (.dc [] []) as ps) : Ve c mv .dn as ps Q := ⟨fun sl rt f => we_dn ⟨as, ps, f, h⟩⟩
structure Vd (c : Cfg) (own : List Nat) (tg : Tg) (kx vx : E) (xs : List D) (acc : List (Int × Int)) (as : List A) (ps : List T) (Q : T → List A → List T → Prop) : Prop where
  out : tg.slots.all (own.contains ·) = true → ∀ sl rt, HomeA c.np sl → Fr c.np as ps (wip sl own) rt → ∃ acc' rt', dcGo (fun x => bind (wip sl own) tg x) (fun sl rt => ev c false sl kx rt) (fun sl rt => ev c false sl vx rt) xs acc rt = some (acc', rt') ∧ ∃ as' ps', Fr c.np as' ps' sl rt' ∧ Q (dcT acc') as' ps'
theorem we_dcc {sl : Sl} {rt : Rt} {own : List Nat} {tg : Tg} {it : It} {kx vx : E} {Q : T → Rt → Prop} (h : Wi c sl it rt fun xs rt => ∃ acc rt', dcGo (fun x => bind (wip sl own) tg x) (fun sl rt => ev c false sl kx rt) (fun sl rt => ev c false sl vx rt) xs [] rt = some (acc, rt') ∧ Q (dcT acc) rt') : We c mv sl (.dcc own tg it kx vx) rt Q := by
  obtain ⟨xs, r1, e1, ts, r2, e2, h⟩ := h
  exact ⟨_, r2, by unfold ev; rw [e1]; simp only; rw [e2], h⟩
theorem ve_dcc {own : List Nat} {tg : Tg} {it : It} {kx vx : E} (ho : tg.slots.all (own.contains ·) = true) (h : Vi c it as ps fun xs as ps => Vd c own tg kx vx xs [] (wipA as own) ps Q) : Ve c mv (.dcc own tg it kx vx) as ps Q :=
  ⟨fun sl rt f => we_dcc ((h.out sl rt f).mono fun xs rt ⟨as, ps, f, h⟩ => by
    obtain ⟨acc, rt', e, as', ps', f', h⟩ := h.out ho sl rt f.home (f.wip own)
    exact ⟨acc, rt', e, as', ps', f', h⟩)⟩
theorem we_idx {sl : Sl} {rt : Rt} {a e : E} {Q : T → Rt → Prop} (h : We c false sl a rt fun x rt => We c false sl e rt fun y rt => ∃ n : Nat, idxD x.d y.d = some n ∧ Q (.cl (.int (n : Int))) rt) : We c mv sl (.idx a e) rt Q := by
  obtain ⟨x, r1, e1, y, r2, e2, n, e3, h⟩ := h
  exact ⟨_, r2, by unfold ev; rw [e1]; simp only; rw [e2]; simp only; rw [e3]; rfl, h⟩
theorem ve_idx {a e : E} (h : Ve c false a as ps fun x as ps => Ve c false e as ps fun y as ps => ∃ n : Nat, idxD x.d y.d = some n ∧ Q (.cl (.int (n : Int))) as ps) : Ve c mv (.idx a e) as ps Q :=
  ⟨fun sl rt f => we_idx ((h.out sl rt f).mono fun x rt ⟨as, ps, f, h⟩ => (h.out sl rt f).mono fun y rt ⟨as, ps, f, n, e, h⟩ => ⟨n, e, as, ps, f, h⟩)⟩
theorem we_inn {sl : Sl} {rt : Rt} {n : Bool} {a : E} {p : P} {Q : T → Rt → Prop} (h : We c false sl a rt fun x rt => ∃ t b, pt sl rt p = some t ∧ inD x.d t.d = some b ∧ Q (.cl (.bl (if n then !b else b))) rt) : We c mv sl (.inn n a p) rt Q := by
  obtain ⟨x, r1, e1, t, b, e2, e3, h⟩ := h
  exact ⟨_, r1, by unfold ev; rw [e1]; simp only; rw [e2]; simp only; rw [e3]; rfl, h⟩
theorem ve_inn {n : Bool} {a : E} {p : P} (h : Ve c false a as ps fun x as ps => ∃ t b, ptA as ps p = some t ∧ inD x.d t.d = some b ∧ Q (.cl (.bl (if n then !b else b))) as ps) : Ve c mv (.inn n a p) as ps Q :=
  ⟨fun sl rt f => we_inn ((h.out sl rt f).mono fun x rt ⟨as, ps, f, t, b, e1, e2, h⟩ => by
    obtain ⟨t', e3, e4⟩ := ptA_d f e1
    exact ⟨t', b, e3, by rw [e4]; exact e2, as, ps, f, h⟩)⟩
structure BothOk (cc : Nat) (as : List A) (ps : List T) (x y : D) : Prop where out : (isCA cc as ps (.inl x) && isCA cc as ps (.inl y)) = true
theorem ve_oop {op : BOp} {cc g : Nat} {a b : E} (h : Ve c false a as ps fun x as ps => Ve c false b as ps fun y as ps => BothOk cc as ps x.d y.d ∧ Vc c g [0, 1] [.inl x.d, .inl y.d] as ps fun t as ps => ∃ c' ns ts, t = .ob c' ns ts ∧ Q (.ob c' ns ts) as ps) : Ve c mv (.oop cc g op a b) as ps Q :=
  ⟨fun sl rt f => we_oop ((h.out sl rt f).mono fun x rt ⟨as, ps, f, h⟩ => (h.out sl rt f).mono fun y rt ⟨as, ps, f, ⟨r⟩, h⟩ => by
    rw [Bool.and_eq_true] at r
    refine ⟨by rw [Bool.and_eq_true]; exact ⟨isCA_ok (sl := sl) f r.1, isCA_ok (sl := sl) f r.2⟩, (h.out sl rt f).mono fun t rt ⟨as, ps, f, c', ns, ts, e, h⟩ => ⟨c', ns, ts, e, as, ps, f, h⟩⟩)⟩
theorem we_methD {sl : Sl} {rt : Rt} {Q : T → Rt → Prop} {cc : Nat} {m : Str} {f : Nat} {o es kw : Es} {dv : List Dv} {pm : List Nat} (h : Wa c sl o rt fun os rt => ∃ x, os = [x] ∧ recv cc m rt x = true ∧ Wa c sl es rt fun xs rt => Wa c sl kw rt fun ys rt => Wc c.F f pm (x :: ((xs ++ ys) ++ dv.map fun d => .inl d.d)) rt Q) : We c mv sl (.methD cc m f o es kw dv pm) rt Q := by
  obtain ⟨os, r0, e0, x, rfl, e4, xs, r1, e1, ys, r2, e2, t, r3, e3, h⟩ := h
  exact ⟨t, r3, by unfold ev; rw [e0]; simp only; rw [if_pos e4, e1]; simp only; rw [e2]; exact e3, h⟩
theorem dv_conc (sl : Sl) (dv : List Dv) : (dv.map fun d => (.inl d.d : D ⊕ Nat)).map (conc sl) = dv.map fun d => .inl d.d := by
  rw [List.map_map]
  rfl
theorem ve_methD {cc : Nat} {m : Str} {g : Nat} {o es kw : Es} {dv : List Dv} {pm : List Nat} (h : Va c o as ps fun os as ps => ∃ x, os = [x] ∧ RecvOk cc m as ps x ∧ Va c es as ps fun xs as ps => Va c kw as ps fun ys as ps => Vc c g pm (x :: ((xs ++ ys) ++ dv.map fun d => .inl d.d)) as ps Q) : Ve c mv (.methD cc m g o es kw dv pm) as ps Q :=
  ⟨fun sl rt f => we_methD ((h.out sl rt f).mono fun os rt ⟨os', as, ps, e, f, x, e0, ⟨r⟩, h⟩ => by
    subst e e0
    refine ⟨conc sl x, rfl, recvA_ok f r, (h.out sl rt f).mono fun xs rt ⟨xs', as, ps, e, f, h⟩ => (h.out sl rt f).mono fun ys rt ⟨ys', as, ps, e2, f, h⟩ => ?_⟩
    subst e e2
    rw [← dv_conc sl, ← List.map_append, ← List.map_append, ← List.map_cons]
    exact h.out sl rt f)⟩
theorem we_mkD {sl : Sl} {rt : Rt} {Q : T → Rt → Prop} {cc f : Nat} {es kw : Es} {dv : List Dv} {pm : List Nat} (h : Wa c sl es rt fun xs rt => Wa c sl kw rt fun ys rt => Wm c.F cc f pm ((xs ++ ys) ++ dv.map fun d => .inl d.d) fun t => Q t rt) : We c mv sl (.mkD cc f es kw dv pm) rt Q := by
  obtain ⟨xs, r1, e1, ys, r2, e2, t, e3, h⟩ := h
  exact ⟨t, r2, by unfold ev; rw [e1]; simp only; rw [e2]; simp only; rw [e3]; rfl, h⟩
theorem ve_mkD {cc g : Nat} {es kw : Es} {dv : List Dv} {pm : List Nat} (h : Va c es as ps fun xs as ps => Va c kw as ps fun ys as ps => Wm c.F cc g pm ((xs ++ ys) ++ dv.map fun d => .inl d.d) fun t => Q t as ps) : Ve c mv (.mkD cc g es kw dv pm) as ps Q :=
  ⟨fun sl rt f => we_mkD ((h.out sl rt f).mono fun xs rt ⟨xs', as, ps, e, f, h⟩ => (h.out sl rt f).mono fun ys rt ⟨ys', as, ps, e2, f, h⟩ => by
    subst e e2
    rw [← dv_conc sl, ← List.map_append, ← List.map_append]
    exact (h.conc sl).mono fun t q => ⟨as, ps, f, q⟩)⟩
structure Vw (c : Cfg) (own own1 : List Nat) (tg : Tg) (it1 : It) (tg1 : Tg) (elt : E) (xs : List D) (acc : List T) (as : List A) (ps : List T) (Q : T → List A → List T → Prop) : Prop where
  out : tg.slots.all (own.contains ·) = true → tg1.slots.all (own1.contains ·) = true → own1.all (own.contains ·) = true → ∀ sl rt, HomeA c.np sl → Fr c.np as ps (wip sl own) rt → ∃ ts rt', lc2Go (fun x => bind (wip sl own) tg x) (fun sl rt => evI c sl it1 rt) (fun sl x => bind (wip sl own1) tg1 x) (fun sl rt => ev c false sl elt rt) xs acc rt = some (ts, rt') ∧ ∃ as' ps', Fr c.np as' ps' sl rt' ∧ Q (.ls ts) as' ps'
theorem we_lc2 {sl : Sl} {rt : Rt} {own own1 : List Nat} {tg tg1 : Tg} {it it1 : It} {elt : E} {Q : T → Rt → Prop} (h : Wi c sl it rt fun xs rt => ∃ ts rt', lc2Go (fun x => bind (wip sl own) tg x) (fun sl rt => evI c sl it1 rt) (fun sl x => bind (wip sl own1) tg1 x) (fun sl rt => ev c false sl elt rt) xs [] rt = some (ts, rt') ∧ Q (.ls ts) rt') : We c mv sl (.lc2 own own1 tg it tg1 it1 elt) rt Q := by
  obtain ⟨xs, r1, e1, ts, r2, e2, h⟩ := h
  exact ⟨_, r2, by unfold ev; rw [e1]; simp only; rw [e2], h⟩
theorem ve_lc2 {own own1 : List Nat} {tg tg1 : Tg} {it it1 : It} {elt : E} (ho : tg.slots.all (own.contains ·) = true) (ho1 : tg1.slots.all (own1.contains ·) = true) (hoo : own1.all (own.contains ·) = true) (h : Vi c it as ps fun xs as ps => Vw c own own1 tg it1 tg1 elt xs [] (wipA as own) ps Q) : Ve c mv (.lc2 own own1 tg it tg1 it1 elt) as ps Q :=
  ⟨fun sl rt f => we_lc2 ((h.out sl rt f).mono fun xs rt ⟨as, ps, f, h⟩ => by
    obtain ⟨ts, rt', e, as', ps', f', h⟩ := h.out ho ho1 hoo sl rt f.home (f.wip own)
    exact ⟨ts, rt', e, as', ps', f', h⟩)⟩
end
end Mi
namespace Mi
open PySem L2
section
variable {c : Cfg} {mv : Bool} {as : List A} {ps : List T} {Q : T → List A → List T → Prop} {Qs : Fl → List A → List T → Prop}
theorem we_chn {sl : Sl} {rt : Rt} {Q : T → Rt → Prop} {o p : COp} {a b d : E} (h : We c false sl a rt fun x rt => We c false sl b rt fun y rt => Oc o x.d y.d fun v => (v = true → We c false sl d rt fun z rt => Oc p y.d z.d fun w => Q (.cl (.bl w)) rt) ∧ (v = false → Q (.cl (.bl false)) rt)) : We c mv sl (.chn o p a b d) rt Q := by
  obtain ⟨x, r1, e1, y, r2, e2, ⟨v, e3, h1, h2⟩⟩ := h
  cases v with
  | true =>
    obtain ⟨z, r3, e4, ⟨w, e5, h⟩⟩ := h1 rfl
    exact ⟨_, r3, by unfold ev; rw [e1]; simp only; rw [e2]; simp only; rw [e3]; simp only; rw [e4]; simp only; rw [e5]; rfl, h⟩
  | false => exact ⟨_, r2, by unfold ev; rw [e1]; simp only; rw [e2]; simp only; rw [e3], h2 rfl⟩
theorem ve_chn {o p : COp} {a b d : E} (h : Ve c false a as ps fun x as ps => Ve c false b as ps fun y as ps => Oc o x.d y.d fun v => (v = true → Ve c false d as ps fun z as ps => Oc p y.d z.d fun w => Q (.cl (.bl w)) as ps) ∧ (v = false → Q (.cl (.bl false)) as ps)) : Ve c mv (.chn o p a b d) as ps Q :=
  ⟨fun sl rt f => we_chn ((h.out sl rt f).mono fun x rt ⟨as, ps, f, h⟩ => (h.out sl rt f).mono fun y rt ⟨as, ps, f, h⟩ => h.mono fun v ⟨h1, h2⟩ =>
    ⟨fun q => ((h1 q).out sl rt f).mono fun z rt ⟨as, ps, f, h⟩ => h.mono fun w q => ⟨as, ps, f, q⟩, fun q => ⟨as, ps, f, h2 q⟩⟩)⟩
theorem we_popi {sl : Sl} {rt : Rt} {Q : T → Rt → Prop} {i : Nat} {a : E} {ts0 : List T} (e0 : pt sl rt (.var i) = some (.ls ts0)) (h : We c false sl a rt fun t rt => ∃ j ts ds n d rt', t = .cl (.int j) ∧ pt sl rt (.var i) = some (.ls ts) ∧ T.leaves ts = some ds ∧ (-(2 ^ 63) ≤ j ∧ j < 2 ^ 63) ∧ ixN ds.length j = some n ∧ ds[n]? = some d ∧ upP sl rt (.var i) (.ls (cls (ds.eraseIdx n))) = some rt' ∧ Q (.cl d) rt') : We c mv sl (.popi i a) rt Q := by
  obtain ⟨t, r1, e1, j, ts, ds, n, d, r2, rfl, e2, e3, e4, e5, e6, e7, h⟩ := h
  exact ⟨_, r2, by unfold ev; rw [e0]; simp only; rw [e1]; simp only; rw [e2]; simp only; rw [e3]; simp only; rw [if_pos (by rw [Bool.and_eq_true, decide_eq_true_iff, decide_eq_true_iff]; exact e4), e5]; simp only; rw [e6]; simp only; rw [e7]; rfl, h⟩
theorem ve_popi {i : Nat} {a : E} {ts0 : List T} (e0 : ptA as ps (.var i) = some (.ls ts0)) (h : Ve c false a as ps fun t as ps => ∃ j ts ds n d as' ps', t = .cl (.int j) ∧ ptA as ps (.var i) = some (.ls ts) ∧ T.leaves ts = some ds ∧ (-(2 ^ 63) ≤ j ∧ j < 2 ^ 63) ∧ ixN ds.length j = some n ∧ ds[n]? = some d ∧ upA as ps (.var i) (.ls (cls (ds.eraseIdx n))) = some (as', ps') ∧ Q (.cl d) as' ps') : Ve c mv (.popi i a) as ps Q :=
  ⟨fun sl rt f => we_popi (ptA_ex f e0 (exA_of f e0 rfl)) ((h.out sl rt f).mono fun t rt ⟨as, ps, f, j, ts, ds, n, d, as', ps', e1, e2, e3, e4, e5, e6, e7, h⟩ => by
    obtain ⟨rt', e8, f'⟩ := upA_ok f e7
    exact ⟨j, ts, ds, n, d, rt', e1, ptA_ex f e2 (upA_ex e7), e3, e4, e5, e6, e8, _, _, f', h⟩)⟩
theorem we_lrg1 {sl : Sl} {rt : Rt} {Q : T → Rt → Prop} {tu : Bool} {b : E} (h : We c false sl b rt fun x rt => ∃ n, x = .cl (.int n) ∧ rgOk 0 n = true ∧ Q (if tu then .cl (.tup (rngD 0 n.toNat)) else .ls (cls (rngD 0 n.toNat))) rt) : We c mv sl (.lrg1 tu b) rt Q := by
  obtain ⟨x, r1, e1, n, rfl, e2, h⟩ := h
  exact ⟨_, r1, by unfold ev; rw [e1]; simp only; rw [if_pos e2], h⟩
theorem ve_lrg1 {tu : Bool} {b : E} (h : Ve c false b as ps fun x as ps => ∃ n, x = .cl (.int n) ∧ rgOk 0 n = true ∧ Q (if tu then .cl (.tup (rngD 0 n.toNat)) else .ls (cls (rngD 0 n.toNat))) as ps) : Ve c mv (.lrg1 tu b) as ps Q :=
  ⟨fun sl rt f => we_lrg1 ((h.out sl rt f).mono fun x rt ⟨as, ps, f, n, e, e2, h⟩ => ⟨n, e, e2, as, ps, f, h⟩)⟩
theorem ex_wip {as : List A} {own : List Nat} {bs : List A} {P : List A → Prop} (h1 : wipA as own = bs) (h : P bs) : ∃ bs, wipA as own = bs ∧ P bs := ⟨bs, h1, h⟩
theorem ex_ps {ps qs : List T} {P : List T → Prop} (h1 : ps = qs) (h : P qs) : ∃ qs, ps = qs ∧ P qs := ⟨qs, h1, h⟩
theorem wx_fld2 {sl : Sl} {rt : Rt} {Qs : Fl → Sl → Rt → Prop} {p : P} {f g : Str} {e : E} (h : We c false sl e rt fun t rt => ∃ x y cc ns ts rt1 cc2 ns2 ts2 rt2, t.d = .tup [x, y] ∧ pt sl rt p = some (.ob cc ns ts) ∧ ns.length < 1000 ∧ upP sl rt p (.ob cc (putN f (.cl x) ns ts).1 (putN f (.cl x) ns ts).2) = some rt1 ∧
    pt sl rt1 p = some (.ob cc2 ns2 ts2) ∧ ns2.length < 1000 ∧ upP sl rt1 p (.ob cc2 (putN g (.cl y) ns2 ts2).1 (putN g (.cl y) ns2 ts2).2) = some rt2 ∧ Qs .nx sl rt2) : Wx c (.fld2 p f g e) sl rt Qs := by
  obtain ⟨t, r1, e1, x, y, cc, ns, ts, r2, cc2, ns2, ts2, r3, e2, e3, e4, e5, e6, e7, e8, h⟩ := h
  exact ⟨_, _, _, by unfold ex; rw [e1]; simp only; rw [e2]; simp only; rw [e3]; simp only; rw [if_pos e4, e5]; simp only; rw [e6]; simp only; rw [if_pos e7, e8]; rfl, h⟩
theorem vx_fld2 {p : P} {f g : Str} {e : E} (h : Ve c false e as ps fun t as ps => ∃ x y cc ns ts as1 ps1 cc2 ns2 ts2 as2 ps2, t.d = .tup [x, y] ∧ ptA as ps p = some (.ob cc ns ts) ∧ ns.length < 1000 ∧ upA as ps p (.ob cc (putN f (.cl x) ns ts).1 (putN f (.cl x) ns ts).2) = some (as1, ps1) ∧
    ptA as1 ps1 p = some (.ob cc2 ns2 ts2) ∧ ns2.length < 1000 ∧ upA as1 ps1 p (.ob cc2 (putN g (.cl y) ns2 ts2).1 (putN g (.cl y) ns2 ts2).2) = some (as2, ps2) ∧ Qs .nx as2 ps2) : Vx c (.fld2 p f g e) as ps Qs :=
  ⟨fun sl rt f' => wx_fld2 ((h.out sl rt f').mono fun t rt ⟨as, ps, f', x, y, cc, ns, ts, as1, ps1, cc2, ns2, ts2, as2, ps2, e1, e2, e3, e4, e5, e6, e7, h⟩ => by
    obtain ⟨rt1, e8, f1⟩ := upA_ok f' e4
    obtain ⟨rt2, e9, f2⟩ := upA_ok f1 e7
    exact ⟨x, y, cc, ns, ts, rt1, cc2, ns2, ts2, rt2, e1, ptA_ex f' e2 (upA_ex e4), e3, e8, ptA_ex f1 e5 (upA_ex e7), e6, e9, _, _, f2, h⟩)⟩
end
end Mi
namespace Mi
open PySem L2
structure Nx (Q : Prop) : Prop where out : Q
theorem vq {P Q : Prop} (next : Q) (h : Nx Q → P := by intro q; (repeat (first | refine ve_int ?_ | refine ve_get rfl rfl ?_ | refine ve_getr rfl rfl rfl ?_ | refine ve_getm rfl rfl ?_ | refine ve_bin ?_ | refine ve_bl ?_ | refine ve_x rfl ?_ | refine ve_str ?_ | refine ve_non ?_ | refine ve_glb rfl ?_ | refine ob_add ?_ | refine ob_sub ?_ | refine oc_lt ?_ | refine oc_le ?_ | refine oc_gt ?_ | refine oc_ge ?_ | refine oc_eqi ?_ | refine oc_nei ?_ | refine of_int ?_ | refine of_intb ?_ | refine of_tupl ?_ | refine of_tupt ?_ | refine of_lstl ?_ | refine of_lstt ?_ | refine vr_rt ?_ | refine vr_nx ?_ | refine kv_rt ?_ | refine kv_ct ?_ | refine kv_bk ?_ | refine kg_nx ?_ | refine kg_ct ?_ | refine kg_bk ?_ | refine kg_rt ?_ | refine vx_asg ?_ | refine vx_ret ?_ | refine vx_retN ?_ | refine vx_ite ?_ | refine vx_fr ?_ | refine vx_par ?_ | refine vx_parN ?_ | refine vx_asgT ?_ | refine vx_setx ?_ | refine vx_ex ?_ | refine vx_brk ?_ | refine vx_ct ?_ | refine vx_nop ?_ | refine vx_fld ?_ | refine vx_augA rfl ?_ | refine vx_augS rfl ?_ | refine vx_app rfl ?_ | refine vx_ext rfl ?_ | refine vs_x ?_ | refine vs_nil ?_ | refine ve_call ?_ | refine ve_meth ?_ | refine ve_mk ?_ | refine ve_mkS ?_ | refine ve_f1 ?_ | refine ve_tup ?_ | refine ve_lst ?_ | refine ve_cmp ?_ | refine ve_not ?_ | refine ve_and ?_ | refine ve_or ?_ | refine ve_ix ?_ | refine ve_sl ?_ | refine ve_neg ?_ | refine ve_lc ?_ | refine ve_isi ?_ | refine ve_rev ?_ | refine ve_at ?_ | refine ve_f2 ?_ | refine ve_dct ?_ | refine ve_ife ?_ | refine ve_prop ?_ | refine ve_olen ?_ | refine ve_oeq ?_ | refine ve_sls ?_ | refine ve_methS ?_ | refine ve_callS ?_ | refine ve_inn ?_ | refine ve_dn ?_ | refine ve_idx ?_ | refine ve_dcc rfl ?_ | refine ve_oop ?_ | refine ve_methD ?_ | refine ve_mkD ?_ | refine ve_lc2 rfl rfl rfl ?_ | refine ve_chn ?_ | refine ve_popi rfl ?_ | refine ve_lrg1 ?_ | refine vx_fld2 ?_ | refine ves_nil ?_ | refine ves_cons ?_ | refine ves_star ?_ | refine va_nil ?_ | refine va_cons ?_ | refine va_mut rfl ?_ | refine va_mutv rfl ?_ | refine vi_rng1 ?_ | refine vi_rng2 ?_ | refine vi_seq ?_ | refine vi_enum ?_ | refine vi_zip ?_ | (refine And.intro (a := Lt _ _) ?_ ?_; · (exact ⟨rfl⟩)) | (refine ob_mul ?_ ?_; · (first | with_reducible assumption | exact mulOk_of (by omega) (by omega) | decide)) | (refine ob_modp ?_ ?_; · (first | decide | omega)) | (refine And.intro (a := RngOk _) ?_ ?_; · (first | exact ⟨inRng_of (by omega) (by omega)⟩ | (refine ⟨inRng_of ?_ ?_⟩ <;> (simp only [List.length_map, List.length_range]; omega)))) | (refine And.intro (a := _ ≤ sizeLine) ?_ ?_; · (first | decide | (show _ ≤ 16777216; simp; done))) | (refine And.intro (a := RecvOk _ _ _ _ _) ?_ ?_; · (exact ⟨rfl⟩)) | (refine And.intro (a := IsOk _ _ _ _) ?_ ?_; · (exact ⟨rfl⟩)) | (refine And.intro (a := BothOk _ _ _ _ _) ?_ ?_; · (exact ⟨rfl⟩)) | (refine ob_fdivp ?_ ?_ ?_; (· (first | decide | omega)); (· (first | decide | omega))) | refine ob_pow (by decide) ?_ | (apply kv_nx; (· ((repeat (first | exact nf_nil rfl | (apply nf_cons; · exact rfl))))); (· ((repeat (first | exact nf_nil rfl | (apply nf_cons; · exact rfl)))))) | (apply ex_wip; (· ((repeat (first | exact nf_nil rfl | (apply nf_cons; · exact rfl)))))) | (apply ex_ps; (· ((repeat (first | exact nf_nil rfl | (apply nf_cons; · exact rfl)))))) | refine Exists.intro _ (And.intro rfl ?_) | (refine And.intro (fun _ => ?_) (fun h => absurd h ?_); rotate_left; · (first | decide | (simp; done) | (simp; omega))) | (refine And.intro (fun h => absurd h ?_) (fun _ => ?_); · (first | decide | (simp; done) | (simp; omega))) | rw [d_ls])); exact q.out) : P := h ⟨next⟩
theorem mq {P Q : Prop} (next : Q) (h : Nx Q → P := by intro q; (repeat (first | refine we_int ?_ | refine we_get rfl ?_ | refine we_getr rfl rfl rfl rfl ?_ | refine we_getm rfl rfl rfl rfl ?_ | refine we_bin ?_ | refine we_bl ?_ | refine we_x rfl ?_ | refine we_str ?_ | refine we_non ?_ | refine we_glb rfl ?_ | refine ob_add ?_ | refine ob_sub ?_ | refine oc_lt ?_ | refine oc_le ?_ | refine oc_gt ?_ | refine oc_ge ?_ | refine oc_eqi ?_ | refine oc_nei ?_ | refine of_int ?_ | refine of_intb ?_ | refine of_tupl ?_ | refine of_tupt ?_ | refine of_lstl ?_ | refine of_lstt ?_ | refine wr_rt rfl ?_ | refine wr_nx rfl ?_ | refine kq_nx ?_ | refine kq_rt ?_ | refine kq_ct ?_ | refine kq_bk ?_ | refine wx_asg ?_ | refine wx_ret ?_ | refine wx_retN ?_ | refine wx_ite ?_ | refine wx_fr ?_ | refine wx_par ?_ | refine wx_parN ?_ | refine wx_asgT ?_ | refine wx_setx ?_ | refine wx_ex ?_ | refine wx_brk ?_ | refine wx_ct ?_ | refine wx_nop ?_ | refine wx_fld ?_ | refine wx_augA rfl ?_ | refine wx_augS rfl ?_ | refine wx_app rfl ?_ | refine wx_ext rfl ?_ | refine ws_x ?_ | refine ws_nil ?_ | refine we_call ?_ | refine we_meth ?_ | refine we_mk ?_ | refine we_f1 ?_ | refine we_tup ?_ | refine we_lst ?_ | refine we_cmp ?_ | refine we_not ?_ | refine we_and ?_ | refine we_or ?_ | refine we_ix ?_ | refine we_sl ?_ | refine we_neg ?_ | refine we_lc ?_ | refine we_isi ?_ | refine we_rev ?_ | refine we_at ?_ | refine we_f2 ?_ | refine we_dct ?_ | refine we_ife ?_ | refine we_prop ?_ | refine wes_nil ?_ | refine wes_cons ?_ | refine wa_nil ?_ | refine wa_cons ?_ | refine wa_mut rfl ?_ | refine wa_mutv rfl ?_ | refine wi_rng1 ?_ | refine wi_rng2 ?_ | refine wi_seq ?_ | refine wi_enum ?_ | refine wi_zip ?_ | (refine ob_mul ?_ ?_; · (first | with_reducible assumption | exact mulOk_of (by omega) (by omega) | decide)) | (refine ob_modp ?_ ?_; · (first | decide | omega)) | (refine And.intro (a := inRng _ = true) ?_ ?_; · (exact inRng_of (by omega) (by omega))) | (refine And.intro (a := _ ≤ sizeLine) ?_ ?_; · (first | decide | (show _ ≤ 16777216; simp; done))) | (refine And.intro (a := recv _ _ _ _ = true) ?_ ?_; · (rfl)) | (refine And.intro (a := isC _ _ _ = true) ?_ ?_; · (rfl)) | (refine ob_fdivp ?_ ?_ ?_; (· (first | decide | omega)); (· (first | decide | omega))) | refine ob_pow (by decide) ?_ | refine Exists.intro _ (And.intro rfl ?_) | (refine And.intro (fun _ => ?_) (fun h => absurd h ?_); rotate_left; · (first | decide | (simp; done) | (simp; omega))) | (refine And.intro (fun h => absurd h ?_) (fun _ => ?_); · (first | decide | (simp; done) | (simp; omega))) | rw [d_ls])); exact q.out) : P := h ⟨next⟩
end Mi
namespace Mi
open PySem L2
section
variable {c : Cfg} {mv : Bool} {as : List A} {ps : List T} {Q : T → List A → List T → Prop} {Qs : Fl → List A → List T → Prop}
theorem vl_filt {α : Type} (fd ft : α → D) (p : α → Bool) (xs : List α) {own : List Nat} {tg : Tg} {cond elt : E} {bs : List A} (ho : tg.slots.all (own.contains ·) = true) (hl : xs.length ≤ 1000000) (nf : wipA as own = bs)
    (st : ∀ x ∈ xs, ∃ as1, bindA bs tg (fd x) = some as1 ∧ Ve c false cond as1 ps fun t as2 ps2 => t = .cl (.bl (p x)) ∧ (p x = true → Ve c false elt as2 ps2 fun t as3 ps3 => t = .cl (ft x) ∧ wipA as3 own = bs ∧ ps3 = ps) ∧ (p x = false → wipA as2 own = bs ∧ ps2 = ps))
    (k : Q (.ls (cls ((xs.filter p).map ft))) (wipA bs own) ps) : Vl c own tg cond elt (xs.map fd) as ps Q := by
  refine vl_ind (fun n ts as' ps' => as' = bs ∧ ps' = ps ∧ ts = cls (((xs.take n).filter p).map ft)) _ ho ⟨bs, nf ▸ Les.rfl' _ 0, rfl, rfl, rfl⟩ (by have : sizeLine = 16777216 := rfl; rw [List.length_map]; omega) ?_ ?_
  · rintro n x acc as' ps' hx ⟨rfl, rfl, rfl⟩
    rw [List.getElem?_map] at hx
    obtain ⟨q, hp, rfl⟩ := Option.map_eq_some_iff.mp hx
    obtain ⟨as1, e1, h⟩ := st q (List.mem_of_getElem? hp)
    have et : xs.take (n + 1) = xs.take n ++ [q] := by rw [List.take_succ, hp]; rfl
    refine ⟨as1, e1, h.mono fun t as ps ⟨e, h1, h2⟩ => ⟨p q, e, fun z => (h1 z).mono fun t as3 ps3 ⟨e, e2, e3⟩ => ⟨_, e2 ▸ Les.rfl' _ 0, rfl, e3, ?_⟩, fun z => ⟨_, (h2 z).1 ▸ Les.rfl' _ 0, rfl, (h2 z).2, ?_⟩⟩⟩
    · rw [e, et, List.filter_append, List.filter_cons_of_pos z, List.filter_nil, List.map_append]
      unfold cls
      rw [List.map_append]
      rfl
    · rw [et, List.filter_append, List.filter_cons_of_neg (by rw [z]; decide), List.filter_nil, List.append_nil]
  · rintro ts as' ps' ⟨rfl, rfl, rfl⟩
    rw [List.length_map, List.take_length]
    exact k
theorem vl_mapT {α : Type} (fd : α → D) (ft : α → T) (xs : List α) {own : List Nat} {tg : Tg} {cond elt : E} {bs : List A} (ho : tg.slots.all (own.contains ·) = true) (hl : xs.length ≤ 1000000) (nf : wipA as own = bs)
    (st : ∀ x ∈ xs, ∃ as1, bindA bs tg (fd x) = some as1 ∧ Ve c false cond as1 ps fun t as2 ps2 => t = .cl (.bl true) ∧ Ve c false elt as2 ps2 fun t as3 ps3 => t = ft x ∧ wipA as3 own = bs ∧ ps3 = ps)
    (k : Q (.ls (xs.map ft)) (wipA bs own) ps) : Vl c own tg cond elt (xs.map fd) as ps Q := by
  refine vl_ind (fun n ts as' ps' => as' = bs ∧ ps' = ps ∧ ts = (xs.take n).map ft) _ ho ⟨bs, nf ▸ Les.rfl' _ 0, rfl, rfl, rfl⟩ (by have : sizeLine = 16777216 := rfl; rw [List.length_map]; omega) ?_ ?_
  · rintro n x acc as' ps' hx ⟨rfl, rfl, rfl⟩
    rw [List.getElem?_map] at hx
    obtain ⟨q, hp, rfl⟩ := Option.map_eq_some_iff.mp hx
    obtain ⟨as1, e1, h⟩ := st q (List.mem_of_getElem? hp)
    refine ⟨as1, e1, h.mono fun t as ps ⟨e, h⟩ => ⟨true, e, fun _ => h.mono fun t as3 ps3 ⟨e, e2, e3⟩ => ⟨_, e2 ▸ Les.rfl' _ 0, rfl, e3, ?_⟩, fun h => by cases h⟩⟩
    rw [e, List.take_succ, hp, List.map_append]
    rfl
  · rintro ts as' ps' ⟨rfl, rfl, rfl⟩
    rw [List.length_map, List.take_length]
    exact k
end
def dN (xs : List Nat) : List D := xs.map fun (x : Nat) => .int (x : Int)
def nI (xs : List Nat) : List Int := xs.map fun (x : Nat) => (x : Int)
def kyN (xs : List Nat) : List Key := xs.map fun (x : Nat) => .inl (x : Int)
theorem in_dct (xs : List Nat) (ds : List D) (y : Nat) : inD (.int y) (.dct (kyN xs) ds) = some (decide (y ∈ xs)) := by
  show some _ = _
  congr 1
  unfold kyN
  rw [List.any_map, Bool.eq_iff_iff, List.any_eq_true, decide_eq_true_iff]
  constructor
  · rintro ⟨x, hx, e⟩
    have e := of_decide_eq_true e
    have e : (x : Int) = y := Sum.inl.inj e
    rw [← Int.ofNat_inj.mp e]
    exact hx
  · exact fun h => ⟨y, h, decide_eq_true rfl⟩
theorem putOne_new {α : Type} {k : Key} {x : α} : ∀ {ks : List Key} {ds : List α}, ks.length = ds.length → k ∉ ks → putOne k x ks ds = some (ks ++ [k], ds ++ [x])
  | [], [], _, _ => rfl
  | k' :: ks, d :: ds, h, n => by
    unfold putOne
    rw [if_neg (fun e : k' = k => n (by rw [e]; exact List.mem_cons_self)), putOne_new (by simpa using h) fun m => n (List.mem_cons_of_mem _ m)]
    rfl
theorem eqD_dN (xs : List Nat) : eqD (.lst (dN xs)) (.lst []) = some (decide (xs = [])) := by
  have : dN xs = (nI xs).map D.int := by unfold dN nI; rw [List.map_map]; rfl
  rw [this]
  refine (eqD_ints (nI xs) []).trans ?_
  congr 1
  rw [decide_eq_decide]
  unfold nI
  exact List.map_eq_nil_iff
end Mi
namespace Mi
open PySem L2
def dI (xs : List Int) : D := .tup (xs.map .int)
def dP (p : Nat × Int) : D := .tup [.int p.1, .int p.2]
def dRow (r : List (Nat × Int)) : D := .tup (r.map dP)
def dMv (m : List (List (Nat × Int))) : D := .tup (m.map dRow)
def addAt (f : List Int) (y : Nat) (c : Int) : List Int := f.set y (f[y]?.getD 0 + c)
def rowAdd (t : Int) (f : List Int) (row : List (Nat × Int)) : List Int := row.foldl (fun f p => addAt f p.1 (t * p.2)) f
def goFrom (f : List Int) (r : List Int) (m : List (List (Nat × Int))) : List Int := (r.zip m).foldl (fun f p => rowAdd p.1 f p.2) f
def go (m : List (List (Nat × Int))) (r : List Int) : List Int := goFrom (List.replicate m.length 0) r m
def Bd (B : Nat) (xs : List Int) : Prop := ∀ x ∈ xs, x.natAbs ≤ B
theorem len_addAt (f : List Int) (y : Nat) (c : Int) : (addAt f y c).length = f.length := List.length_set
theorem len_rowAdd (t : Int) (row : List (Nat × Int)) : ∀ f, (rowAdd t f row).length = f.length := by
  induction row with
  | nil => exact fun f => rfl
  | cons p r ih => exact fun f => (ih _).trans (len_addAt ..)
theorem len_goFrom (m : List (List (Nat × Int))) : ∀ r f, (goFrom f r m).length = f.length := by
  induction m with
  | nil => exact fun r f => by unfold goFrom; rw [List.zip_nil_right]; rfl
  | cons p m ih =>
    intro r f
    cases r with
    | nil => rfl
    | cons x r => exact (ih r _).trans (len_rowAdd ..)
theorem len_go (m : List (List (Nat × Int))) (r : List Int) : (go m r).length = m.length := (len_goFrom m r _).trans List.length_replicate
theorem bd_addAt {B C : Nat} {f : List Int} {y : Nat} {c : Int} (h : Bd B f) (hc : c.natAbs ≤ C) : Bd (B + C) (addAt f y c) := by
  intro x m
  rcases List.mem_or_eq_of_mem_set m with m | rfl
  · exact Nat.le_trans (h x m) (Nat.le_add_right ..)
  · cases e : f[y]? with
    | none => exact Nat.le_trans (by simpa using hc) (Nat.le_add_left ..)
    | some z =>
      have := h z (List.mem_of_getElem? e)
      show (z + c).natAbs ≤ _
      omega
theorem bd_rowAdd {C : Nat} {t : Int} (row : List (Nat × Int)) (hc : ∀ p ∈ row, (t * p.2).natAbs ≤ C) : ∀ (f : List Int) (B : Nat), Bd B f → Bd (B + row.length * C) (rowAdd t f row) := by
  induction row with
  | nil => exact fun f B h x m => by simpa using h x m
  | cons p r ih =>
    intro f B h
    have := ih (fun p m => hc p (List.mem_cons_of_mem _ m)) (addAt f p.1 (t * p.2)) (B + C) (bd_addAt h (hc p List.mem_cons_self))
    rw [List.length_cons, Nat.succ_mul, Nat.add_comm (r.length * C) C, ← Nat.add_assoc]
    exact this
theorem bd_goFrom {C n : Nat} (m : List (List (Nat × Int))) : ∀ (r : List Int) (hr : ∀ t ∈ r, ∀ row ∈ m, row.length ≤ n ∧ ∀ p ∈ row, (t * p.2).natAbs ≤ C) (f : List Int) (B : Nat), Bd B f → Bd (B + m.length * (n * C)) (goFrom f r m) := by
  induction m with
  | nil =>
    intro r _ f B h
    unfold goFrom
    rw [List.zip_nil_right]
    exact fun x m => by simpa using h x m
  | cons row m ih =>
    intro r hr f B h
    cases r with
    | nil => exact fun x m => Nat.le_trans (h x m) (Nat.le_add_right ..)
    | cons t r =>
      obtain ⟨l, hp⟩ := hr t List.mem_cons_self row List.mem_cons_self
      have h1 := bd_rowAdd row hp f B h
      have h2 := ih r (fun t mt row mr => hr t (List.mem_cons_of_mem _ mt) row (List.mem_cons_of_mem _ mr)) (rowAdd t f row) _ h1
      intro x mx
      refine Nat.le_trans (h2 x mx) ?_
      rw [List.length_cons, Nat.succ_mul]
      have := Nat.mul_le_mul_right C l
      omega
theorem log2_le {n k : Nat} (h : n ≤ 2 ^ k) : n.log2 ≤ k := by
  by_cases h0 : n = 0
  · subst h0
    exact Nat.zero_le _
  · have := (Nat.log2_lt (n := n) (k := k + 1) h0).mpr (Nat.lt_of_le_of_lt h (Nat.pow_lt_pow_right (by decide) (Nat.lt_succ_self k)))
    omega
theorem mulOk_bd {i j : Int} {a b : Nat} (hi : i.natAbs ≤ 2 ^ a) (hj : j.natAbs ≤ 2 ^ b) (h : a + b < 1000000) : mulOk i j = true := by
  unfold mulOk
  have := log2_le hi
  have := log2_le hj
  exact decide_eq_true (by omega)
def OkRow (n : Nat) (row : List (Nat × Int)) : Prop := row.Pairwise (fun p q => p.1 < q.1) ∧ ∀ p ∈ row, p.1 < n ∧ 1 ≤ p.2 ∧ p.2 ≤ 8
def bGo2 : Ss := (.cons (.augx (.var 2) (.rd (.var 5)) .add (.bin .mul (.get (.var 3)) (.get (.var 6)))) .nil)
def bGo : Ss := (.cons (.fr (.tup [(.var 5), (.var 6)]) (.seq (.get (.var 4))) bGo2) .nil)
def fGo : Fn := ⟨2, 7, (.cons (.asg 2 (.bin .mul (.lst (.cons (.int 0) .nil)) (.x (.len (.var 0))))) (.cons (.fr (.tup [(.var 3), (.var 4)]) (.zip (.get (.var 1)) (.get (.var 0))) bGo) (.cons (.ret (.f1p .tuple (.var 2))) .nil)))⟩
def tI (xs : List Int) : T := .ls (xs.map dInt)
theorem d_tI (xs : List Int) : (tI xs).d = .lst (xs.map .int) := by
  unfold tI
  rw [← cls_dInt, d_ls]
theorem atI_of {α : Type} {xs : List α} {y : Nat} (h : y < xs.length) : atI xs (y : Int) = some xs[y] := by
  unfold atI ixN
  rw [if_pos (Int.natCast_nonneg y), if_pos (by omega)]
  simp [h]
theorem ixN_of {n y : Nat} (h : y < n) : ixN n (y : Int) = some y := by
  unfold ixN
  rw [if_pos (Int.natCast_nonneg y), if_pos (by omega)]
  simp
theorem zipD_map {α β : Type} (f : α → D) (g : β → D) : ∀ (xs : List α) (ys : List β), zipD (xs.map f) (ys.map g) = (xs.zip ys).map fun p => .tup [f p.1, g p.2]
  | [], [] => rfl
  | [], _ :: _ => rfl
  | _ :: _, [] => rfl
  | x :: xs, y :: ys => by
    simp only [List.map_cons, List.zip_cons_cons, zipD]
    rw [zipD_map f g xs ys]
theorem go_row {c : Cfg} {t : Int} {d0 : D} {row : List (Nat × Int)} {n : Nat} (hn : ∀ p ∈ row, p.1 < n ∧ mulOk t p.2 = true) {o5 o6 : Option S} {r0 r1 : Option T} {f : List Int} (hf : f.length = n) {Qs : Fl → Sl → Rt → Prop}
    (k : ∀ o5 o6, Qs .nx [some (.r 0), some (.r 1), some (.r 4), some (.v (.int t)), some (.v d0), o5, o6] [r0, r1, none, none, some (tI (rowAdd t f row)), none, none, none, none]) :
    Wg c (.tup [(.var 5), (.var 6)]) bGo2 (row.map dP) [some (.r 0), some (.r 1), some (.r 4), some (.v (.int t)), some (.v d0), o5, o6] [r0, r1, none, none, some (tI f), none, none, none, none] Qs := by
  refine wg_ind (fun i sl rt => ∃ o5 o6, sl = [some (.r 0), some (.r 1), some (.r 4), some (.v (.int t)), some (.v d0), o5, o6] ∧ rt = [r0, r1, none, none, some (tI (rowAdd t f (row.take i))), none, none, none, none]) _ _ _ ⟨_, _, rfl, rfl⟩ ?_ ?_
  · rintro i x sl rt hx ⟨o5, o6, rfl, rfl⟩
    rw [List.getElem?_map] at hx
    obtain ⟨p, hp, rfl⟩ := Option.map_eq_some_iff.mp hx
    refine ⟨_, rfl, ?_⟩
    obtain ⟨h1, h2⟩ := hn p (List.mem_of_getElem? hp)
    have e : rowAdd t f (row.take (i + 1)) = addAt (rowAdd t f (row.take i)) p.1 (t * p.2) := by
      unfold rowAdd
      rw [List.take_succ, hp, List.foldl_append]
      rfl
    rw [e]
    have hl : (rowAdd t f (row.take i)).length = n := (len_rowAdd ..).trans hf
    generalize rowAdd t f (row.take i) = g at hl ⊢
    have hl' : p.1 < (g.map dInt).length := by rw [List.length_map]; omega
    have hg : p.1 < g.length := by omega
    have e1 : ixT (.ls (g.map dInt)) (.int p.1) = some (.cl (.int g[p.1])) := by
      show atI (g.map dInt) _ = _
      rw [atI_of hl', List.getElem_map]
      rfl
    have e2 : setIxT (.ls (g.map dInt)) (.int p.1) (.cl (.int (g[p.1] + t * p.2))) = some (tI (addAt g p.1 (t * p.2))) := by
      show (ixN _ _).map _ = _
      rw [ixN_of hl']
      unfold addAt tI
      rw [List.map_set, List.getElem?_eq_getElem hg]
      rfl
    have e3 : opB .mul (.int t) (.int p.2) = some (.cl (.int (t * p.2))) := oB_mul h2
    refine ws_x (wx_augxA rfl rfl ?_ e1 e2 rfl ?_)
    · show (match opB .mul (.int t) (.int p.2) with | some (.cl d) => some d | _ => none) = _
      rw [e3]
    · refine mq ?_
      exact ⟨.inl rfl, _, _, rfl, rfl⟩
  · rintro sl rt ⟨o5, o6, rfl, rfl⟩
    rw [List.length_map, List.take_length]
    exact k _ _
theorem rep0 {α : Type} (l : List α) : List.replicate l.length (T.cl (D.int 0)) = (List.replicate l.length (0 : Int)).map dInt := by rw [List.map_replicate]; rfl
theorem go_ok {g : List (Str × D)} {F : Fs} {m : List (List (Nat × Int))} {r : List Int} (hs : m.length ≤ 1000) (hm : ∀ row ∈ m, ∀ p ∈ row, p.1 < m.length ∧ ∀ t ∈ r, mulOk t p.2 = true) :
    runFn g F fGo [.cl (dMv m), .cl (dI r)] = some (.cl (dI (go m r)), [.cl (dMv m), .cl (dI r)]) := by
  suffices h : Wf g F fGo [.cl (dMv m), .cl (dI r)] (fun t ts => t = .cl (dI (go m r)) ∧ ts = [.cl (dMv m), .cl (dI r)]) by
    obtain ⟨t, ts, e, rfl, rfl⟩ := h
    exact e
  refine wf_of rfl ?_
  refine mq ?_
  refine ob_rep1 (d := .int 0) (by rw [List.length_map]; omega) ?_
  rw [rep0, List.length_map]
  refine mq ?_
  refine ⟨_, _, .inr ⟨rfl, rfl⟩, ?_⟩
  rw [zipD_map]
  refine wg_ind (fun i sl rt => ∃ o3 o4 o5 o6, sl = [some (.r 0), some (.r 1), some (.r 4), o3, o4, o5, o6] ∧ rt = [some (.cl (dMv m)), some (.cl (dI r)), none, none, some (tI (((r.zip m).take i).foldl (fun f p => rowAdd p.1 f p.2) (List.replicate m.length 0))), none, none, none, none]) _ _ _ ⟨_, _, _, _, rfl, rfl⟩ ?_ ?_
  · rintro i x sl rt hx ⟨o3, o4, o5, o6, rfl, rfl⟩
    rw [List.getElem?_map] at hx
    obtain ⟨⟨t, row⟩, hp, rfl⟩ := Option.map_eq_some_iff.mp hx
    have hz := List.of_mem_zip (List.mem_of_getElem? hp)
    refine ⟨_, rfl, ?_⟩
    have e : ((r.zip m).take (i + 1)).foldl (fun f p => rowAdd p.1 f p.2) (List.replicate m.length 0) = rowAdd t (((r.zip m).take i).foldl (fun f p => rowAdd p.1 f p.2) (List.replicate m.length 0)) row := by
      rw [List.take_succ, hp, List.foldl_append]
      rfl
    rw [e]
    have hl : (((r.zip m).take i).foldl (fun f p => rowAdd p.1 f p.2) (List.replicate m.length 0)).length = m.length := by
      have : ∀ (l : List (Int × List (Nat × Int))) (f : List Int), (l.foldl (fun f p => rowAdd p.1 f p.2) f).length = f.length := fun l => by
        induction l with
        | nil => exact fun f => rfl
        | cons p l ih => exact fun f => (ih _).trans (len_rowAdd ..)
      rw [this, List.length_replicate]
    generalize ((r.zip m).take i).foldl (fun f p => rowAdd p.1 f p.2) (List.replicate m.length 0) = f at hl ⊢
    refine mq ?_
    refine go_row (n := m.length) (fun p q => ⟨(hm row hz.2 p q).1, (hm row hz.2 p q).2 t hz.1⟩) hl fun o5 o6 => ?_
    refine mq ?_
    exact ⟨.inl rfl, _, _, _, _, rfl, rfl⟩
  · rintro sl rt ⟨o3, o4, o5, o6, rfl, rfl⟩
    rw [List.length_map, List.take_length]
    refine mq ?_
    have d := d_tI (go m r)
    refine we_f1p (t := tI (go m r)) (xs := (go m r).map .int) rfl (leaves_d _) ?_
    rw [d]
    refine mq ?_
    exact ⟨rfl, rfl⟩
end Mi
namespace Mi
open PySem L2
def goN (m : List (List (Nat × Int))) (r : List Int) : Nat → List Int
  | 0 => r
  | k + 1 => go m (goN m r k)
def fBy (a : Nat) : Fn := ⟨3, 5, (.cons (.asg 3 (.get (.var 1))) (.cons (.fr (.var 4) (.rng1 (.get (.var 2))) (.cons (.asg 3 (.call a (.cons (.get (.var 0)) (.cons (.get (.var 3)) .nil)) .nil [0, 1])) .nil)) (.cons (.ret (.get (.var 3))) .nil)))⟩
theorem by_wf {g : List (Str × D)} {F : Fs} {a : Nat} {m : List (List (Nat × Int))} {r : List Int} {k : Nat} (hk : k < 2 ^ 62) (h : ∀ i, i < k → At F a [dMv m, dI (goN m r i)] (dI (goN m r (i + 1)))) :
    Wf g F (fBy a) (cls [dMv m, dI r, .int k]) fun t ts => t = .cl (dI (goN m r k)) ∧ ts = cls [dMv m, dI r, .int k] := by
  refine wf_of rfl ?_
  refine mq ?_
  rw [Int.toNat_natCast]
  refine wg_ind (fun i sl rt => ∃ o, sl = [some (.r 0), some (.r 1), some (.r 2), some (.v (dI (goN m r i))), o] ∧ rt = startRt 5 (cls [dMv m, dI r, .int k])) _ _ _ ⟨_, rfl, rfl⟩ ?_ ?_
  · rintro i x sl rt hx ⟨o, rfl, rfl⟩
    obtain ⟨hi, rfl⟩ := rng_get hx
    refine ⟨_, rfl, ?_⟩
    refine mq ?_
    refine wc_at (h i hi) rfl ?_
    refine mq ?_
    exact ⟨.inl rfl, _, rfl, rfl⟩
  · rintro sl rt ⟨o, rfl, rfl⟩
    rw [rng_len]
    refine mq ?_
    exact ⟨rfl, rfl⟩
theorem map_int {α : Type} (f : α → Int) (xs : List α) : xs.map (fun x => D.int (f x)) = (xs.map f).map D.int := by rw [List.map_map]; rfl
def dot (r e : List Int) : Int := ((r.zip e).map fun p => p.1 * p.2).sum
def dM (cc : Nat) (s : List Int) (m : List (List (Nat × Int))) (e : List Int) : D := .ins cc ["starts", "moves", "ends"] [dI s, dMv m, dI e]
def cnts (m : List (List (Nat × Int))) (s e : List Int) (k : Nat) : List Int := (List.range k).map fun i => dot (goN m s i) e
theorem tI_add (xs : List Int) (x : Int) : xs.map dInt ++ [.cl (.int x)] = (xs ++ [x]).map dInt := by rw [List.map_append]; rfl
end Mi
namespace Mi
open PySem L2
def fIsCount : Fn := ⟨2, 2, (.cons (.ret (.and (.isi (.bi "int") (.get (.var 0))) (.and (.not (.isi (.bi "bool") (.get (.var 0)))) (.cmp .ge (.get (.var 0)) (.get (.var 1)))))) .nil)⟩
theorem iscount_wf {g : List (Str × D)} {F : Fs} {i l : Int} (h : l ≤ i) : Wf g F fIsCount (cls [.int i, .int l]) fun t ts => t = .cl (.bl true) ∧ ts = cls [.int i, .int l] := by
  refine wf_of rfl ?_
  refine mq ?_
  refine ⟨?_, rfl⟩
  rw [decide_eq_true h]
def fAreCounts (a : Nat) : Fn := ⟨1, 2, (.cons (.ret (.and (.isi (.bi "tuple") (.get (.var 0))) (.f1 .all (.lc [1] (.var 1) (.seq (.get (.var 0))) (.bl true) (.call a (.cons (.get (.var 1)) (.cons (.int 0) .nil)) .nil [0, 1]))))) .nil)⟩
theorem all_true {α : Type} (xs : List α) : (xs.map fun _ => true).all id = true := by
  rw [List.all_map]
  exact List.all_eq_true.mpr fun _ _ => rfl
theorem blsOf_map : ∀ xs : List Bool, blsOf (xs.map .bl) = some xs
  | [] => rfl
  | x :: xs => by
    rw [List.map_cons]
    unfold blsOf
    rw [blsOf_map xs]
    rfl
theorem of_all1 {α : Type} {xs : List α} {K : T → Prop} (h : K (.cl (.bl true))) : Of .all (.lst (xs.map fun _ => .bl true)) K := by
  have e : (xs.map fun _ => D.bl true) = (xs.map fun _ => true).map D.bl := by rw [List.map_map]; rfl
  refine of_all (ns := xs.map fun _ => true) (by rw [e, blsOf_map]) ?_
  rw [all_true]
  exact h
theorem arecounts_wf {g : List (Str × D)} {F : Fs} {a : Nat} {xs : List Int} (hl : xs.length ≤ 100000) (h : ∀ x ∈ xs, At F a [.int x, .int 0] (.bl true)) : Wf g F (fAreCounts a) (cls [dI xs]) fun t ts => t = .cl (.bl true) ∧ ts = cls [dI xs] := by
  refine wf_of rfl ?_
  refine mq ?_
  refine wl_map _ (fun _ => .bl true) _ (by omega) (fun p hp => ?_) ?_
  · refine ⟨_, rfl, ?_⟩
    refine mq ?_
    refine ⟨rfl, rfl, ?_⟩
    refine mq ?_
    refine wc_at (h p hp) rfl ?_
    exact ⟨rfl, rfl⟩
  · refine mq ?_
    refine of_all1 ?_
    refine mq ?_
    exact ⟨rfl, rfl⟩
def fIsMove (a : Nat) : Fn := ⟨2, 2, (.cons (.ite (.or (.not (.isi (.bi "tuple") (.get (.var 1)))) (.cmp .ne (.x (.len (.var 1))) (.glb "PAIR_machines"))) (.cons (.ret (.bl false)) .nil) .nil) (.cons (.ret (.and (.call a (.cons (.get (.ix (.var 1) (.int 0))) (.cons (.int 0) .nil)) .nil [0, 1]) (.and (.cmp .lt (.get (.ix (.var 1) (.int 0))) (.get (.var 0))) (.call a (.cons (.get (.ix (.var 1) (.int 1))) (.cons (.int 1) .nil)) .nil [0, 1])))) .nil))⟩
theorem ismove_wf {g : List (Str × D)} {F : Fs} {a n : Nat} {p : Nat × Int} (hg : g.lookup ("PAIR_machines" : Str) = some (.int 2)) (h0 : p.1 < n) (h : At F a [.int p.1, .int 0] (.bl true)) (h1 : At F a [.int p.2, .int 1] (.bl true)) :
    Wf g F (fIsMove a) (cls [.int n, dP p]) fun t ts => t = .cl (.bl true) ∧ ts = cls [.int n, dP p] := by
  refine wf_of rfl ?_
  refine mq ?_
  refine we_glb hg ?_
  refine mq ?_
  refine wc_at h rfl ?_
  refine mq ?_
  refine wc_at h1 rfl ?_
  refine mq ?_
  exact ⟨rfl, rfl⟩
def fIsRow (a : Nat) : Fn := ⟨2, 5, (.cons (.ite (.or (.not (.isi (.bi "tuple") (.get (.var 1)))) (.not (.f1 .all (.lc [4] (.var 4) (.seq (.get (.var 1))) (.bl true) (.call a (.cons (.get (.var 0)) (.cons (.get (.var 4)) .nil)) .nil [0, 1]))))) (.cons (.ret (.bl false)) .nil) .nil) (.cons (.ret (.f1 .all (.lc [2, 3] (.tup [(.var 2), (.var 3)]) (.zip (.get (.var 1)) (.sl (.get (.var 1)) (some (.int 1)) none)) (.bl true) (.cmp .lt (.get (.ix (.var 2) (.int 0))) (.get (.ix (.var 3) (.int 0))))))) .nil))⟩
theorem cut1 {α : Type} (xs : List α) : cut xs (some 1) none = xs.drop 1 := by
  unfold cut
  have h1 : HT.sIx xs.length 0 (some 1) = min 1 xs.length := by
    unfold HT.sIx
    simp
  have h2 : HT.sIx xs.length xs.length none = xs.length := by unfold HT.sIx; rfl
  rw [h1, h2]
  cases xs with
  | nil => rfl
  | cons x xs =>
    rw [show min 1 (x :: xs).length = 1 by simp]
    simp
theorem sl1T {xs : List D} : slD (.tup xs) (some 1) none = some (.cl (.tup (xs.drop 1))) := by
  show some (T.cl (.tup (cut xs (some 1) none))) = _
  rw [cut1]
theorem isrow_wf {g : List (Str × D)} {F : Fs} {a n : Nat} {row : List (Nat × Int)} (hl : row.length ≤ 100000) (ho : row.Pairwise fun p q => p.1 < q.1) (h : ∀ p ∈ row, At F a [.int n, dP p] (.bl true)) :
    Wf g F (fIsRow a) (cls [.int n, dRow row]) fun t ts => t = .cl (.bl true) ∧ ts = cls [.int n, dRow row] := by
  refine wf_of rfl ?_
  refine mq ?_
  refine wl_map _ (fun _ => .bl true) _ (by omega) (fun p hp => ?_) ?_
  · refine ⟨_, rfl, ?_⟩
    refine mq ?_
    refine ⟨rfl, rfl, ?_⟩
    refine mq ?_
    refine wc_at (h p hp) rfl ?_
    exact ⟨rfl, rfl⟩
  · refine mq ?_
    refine of_all1 ?_
    refine mq ?_
    refine ⟨_, _, _, rfl, rfl, sl1T, ?_⟩
    refine ⟨_, _, .inr ⟨rfl, rfl⟩, ?_⟩
    rw [← List.map_drop, zipD_map]
    refine wl_map _ (fun _ => .bl true) _ (by rw [List.length_zip]; omega) (fun p hp => ?_) ?_
    · have hz : p.1.1 < p.2.1 := by
        obtain ⟨i, hi, rfl⟩ := List.getElem_of_mem hp
        rw [List.getElem_zip, List.getElem_drop]
        exact List.pairwise_iff_getElem.mp ho _ _ _ _ (by omega)
      refine ⟨_, rfl, ?_⟩
      refine mq ?_
      refine ⟨rfl, rfl, ?_⟩
      refine mq ?_
      refine ⟨?_, rfl⟩
      rw [decide_eq_true (by omega)]
    · refine mq ?_
      refine of_all1 ?_
      refine mq ?_
      exact ⟨rfl, rfl⟩
def fInit (ac ir : Nat) : Fn := ⟨4, 5, (.cons (.ite (.not (.call ac (.cons (.get (.var 1)) .nil) .nil [0])) (.cons .never .nil) .nil) (.cons (.ite (.or (.not (.isi (.bi "tuple") (.get (.var 2)))) (.cmp .ne (.x (.len (.var 2))) (.x (.len (.var 1))))) (.cons .never .nil) .nil) (.cons (.fr (.var 4) (.seq (.get (.var 2))) (.cons (.ite (.not (.call ir (.cons (.x (.len (.var 1))) (.cons (.get (.var 4)) .nil)) .nil [0, 1])) (.cons .never .nil) .nil) .nil)) (.cons (.ite (.or (.not (.call ac (.cons (.get (.var 3)) .nil) .nil [0])) (.cmp .ne (.x (.len (.var 3))) (.x (.len (.var 1))))) (.cons .never .nil) .nil) (.cons (.fld (.var 0) "starts" (.get (.var 1))) (.cons (.fld (.var 0) "moves" (.get (.var 2))) (.cons (.fld (.var 0) "ends" (.get (.var 3))) .nil)))))))⟩
theorem init_wf {g : List (Str × D)} {F : Fs} {ac ir cc : Nat} {s e : List Int} {m : List (List (Nat × Int))} (hm : m.length = s.length) (he : e.length = s.length) (h1 : At F ac [dI s] (.bl true)) (h2 : At F ac [dI e] (.bl true)) (h3 : ∀ row ∈ m, At F ir [.int s.length, dRow row] (.bl true)) :
    Wf g F (fInit ac ir) [.ob cc [] [], .cl (dI s), .cl (dMv m), .cl (dI e)] fun t ts => t = .cl .non ∧ ts = [.ob cc ["starts", "moves", "ends"] [.cl (dI s), .cl (dMv m), .cl (dI e)], .cl (dI s), .cl (dMv m), .cl (dI e)] := by
  have l1 : (s.map D.int).length = s.length := List.length_map _
  have l2 : (m.map dRow).length = s.length := (List.length_map _).trans hm
  have l3 : (e.map D.int).length = s.length := (List.length_map _).trans he
  refine wf_of rfl ?_
  refine mq ?_
  refine wc_at h1 rfl ?_
  refine mq ?_
  refine wg_ind (fun i sl rt => ∃ o, sl = [some (.r 0), some (.r 1), some (.r 2), some (.r 3), o] ∧ rt = startRt 5 [.ob cc [] [], .cl (dI s), .cl (dMv m), .cl (dI e)]) _ _ _ ⟨_, rfl, rfl⟩ ?_ ?_
  · rintro i x sl rt hx ⟨o, rfl, rfl⟩
    rw [List.getElem?_map] at hx
    obtain ⟨row, hp, rfl⟩ := Option.map_eq_some_iff.mp hx
    refine ⟨_, rfl, ?_⟩
    refine mq ?_
    have := h3 row (List.mem_of_getElem? hp)
    refine wc_at (ds := [.int s.length, dRow row]) this (by rw [show T.d (T.cl (D.int ((s.map D.int).length : Nat))) = D.int s.length by rw [l1]; rfl]; rfl) ?_
    refine mq ?_
    exact ⟨.inl rfl, _, rfl, rfl⟩
  · rintro sl rt ⟨o, rfl, rfl⟩
    refine mq ?_
    refine wc_at h2 rfl ?_
    refine mq ?_
    refine ⟨_, _, _, _, rfl, (show 0 < 1000 by decide), rfl, ?_⟩
    refine mq ?_
    refine ⟨_, _, _, _, rfl, (show 1 < 1000 by decide), rfl, ?_⟩
    refine mq ?_
    refine ⟨_, _, _, _, rfl, (show 2 < 1000 by decide), rfl, ?_⟩
    refine mq ?_
    exact ⟨rfl, rfl⟩
end Mi
namespace Mi
open PySem L2
def val (l : List (Nat × Int)) (e : List Int) : Int := (l.map fun p => p.2 * e.getD p.1 0).sum
def pull (w : List (List (Nat × Int))) (e : List Int) : List Int := w.map fun row => val row e
def pullN (w : List (List (Nat × Int))) (e : List Int) : Nat → List Int
  | 0 => e
  | k + 1 => pullN w (pull w e) k
def step (w : List (List (Nat × Int))) (l : List (Nat × Int)) : List (Nat × Int) := l.flatMap fun p => (w.getD p.1 []).map fun q => (q.1, p.2 * q.2)
theorem val_cons (p : Nat × Int) (l : List (Nat × Int)) (e : List Int) : val (p :: l) e = p.2 * e.getD p.1 0 + val l e := by unfold val; rw [List.map_cons, List.sum_cons]
theorem val_app (l l' : List (Nat × Int)) (e : List Int) : val (l ++ l') e = val l e + val l' e := by unfold val; rw [List.map_append, List.sum_append]
theorem dot_cons (x : Int) (r : List Int) (y : Int) (e : List Int) : dot (x :: r) (y :: e) = x * y + dot r e := by unfold dot; rw [List.zip_cons_cons, List.map_cons, List.sum_cons]
theorem dot_nil (e : List Int) : dot [] e = 0 := rfl
theorem dot_nil' (e : List Int) : dot e [] = 0 := by unfold dot; rw [List.zip_nil_right]; rfl
theorem dot_add : ∀ (f : List Int) (y : Nat) (c : Int) (e : List Int), y < f.length → dot (addAt f y c) e = dot f e + c * e.getD y 0
  | [], y, c, e, h => absurd h (Nat.not_lt_zero y)
  | x :: f, 0, c, [], h => by rw [dot_nil', dot_nil']; simp
  | x :: f, 0, c, z :: e, h => by
    show dot ((x + c) :: f) (z :: e) = _
    rw [dot_cons, dot_cons, Int.add_mul]
    simp
    omega
  | x :: f, y + 1, c, [], h => by rw [dot_nil', dot_nil']; simp
  | x :: f, y + 1, c, z :: e, h => by
    have := dot_add f y c e (by simpa using h)
    have e1 : addAt (x :: f) (y + 1) c = x :: addAt f y c := by unfold addAt; simp
    rw [e1, dot_cons, dot_cons, this]
    simp
    omega
theorem dot_row (t : Int) (e : List Int) : ∀ (row : List (Nat × Int)) (f : List Int), (∀ p ∈ row, p.1 < f.length) → dot (rowAdd t f row) e = dot f e + t * val row e
  | [], f, _ => by
    show dot f e = dot f e + t * 0
    rw [Int.mul_zero, Int.add_zero]
  | p :: row, f, h => by
    show dot (rowAdd t (addAt f p.1 (t * p.2)) row) e = _
    rw [dot_row t e row _ fun q m => by rw [len_addAt]; exact h q (List.mem_cons_of_mem _ m), dot_add _ _ _ _ (h p List.mem_cons_self), val_cons, Int.mul_add, Int.mul_assoc]
    omega
theorem dot_goFrom (e : List Int) : ∀ (w : List (List (Nat × Int))) (r f : List Int), (∀ row ∈ w, ∀ p ∈ row, p.1 < f.length) → dot (goFrom f r w) e = dot f e + dot r (pull w e)
  | [], r, f, _ => by
    have : goFrom f r [] = f := by unfold goFrom; rw [List.zip_nil_right]; rfl
    rw [this]
    show _ = _ + dot r []
    rw [dot_nil', Int.add_zero]
  | row :: w, [], f, _ => by
    show dot f e = _
    rw [dot_nil, Int.add_zero]
  | row :: w, x :: r, f, h => by
    show dot (goFrom (rowAdd x f row) r w) e = _
    rw [dot_goFrom e w r _ fun row' m p q => by rw [len_rowAdd]; exact h row' (List.mem_cons_of_mem _ m) p q, dot_row _ _ _ _ (h row List.mem_cons_self)]
    show _ = _ + dot (x :: r) (val row e :: pull w e)
    rw [dot_cons]
    omega
theorem dot_zero (e : List Int) : ∀ n : Nat, dot (List.replicate n 0) e = 0 := fun n => by
  induction n generalizing e with
  | zero => rfl
  | succ n ih =>
    cases e with
    | nil => exact dot_nil' _
    | cons y e => rw [List.replicate_succ, dot_cons, ih]; simp
def InR (w : List (List (Nat × Int))) : Prop := ∀ row ∈ w, ∀ p ∈ row, p.1 < w.length
theorem dot_go {w : List (List (Nat × Int))} (h : InR w) (r e : List Int) : dot (go w r) e = dot r (pull w e) := by
  unfold go
  rw [dot_goFrom _ _ _ _ fun row m p q => by rw [List.length_replicate]; exact h row m p q, dot_zero, Int.zero_add]
theorem dot_goN {w : List (List (Nat × Int))} (h : InR w) (s : List Int) : ∀ (k : Nat) (e : List Int), dot (goN w s k) e = dot s (pullN w e k)
  | 0, e => rfl
  | k + 1, e => (dot_go h _ e).trans (dot_goN h s k (pull w e))
def runs0 (s : List Int) : List (Nat × Int) := s.zipIdx.map fun p => (p.2, p.1)
theorem val_runs0 (e s : List Int) : val (runs0 s) e = dot s e := by
  suffices h : ∀ (s : List Int) (n : Nat), val ((s.zipIdx n).map fun p => (p.2, p.1)) e = dot s (e.drop n) from by simpa [runs0] using h s 0
  intro s
  induction s with
  | nil => exact fun n => rfl
  | cons x s ih =>
    intro n
    rw [List.zipIdx_cons, List.map_cons, val_cons, ih]
    show x * e.getD n 0 + _ = _
    by_cases hn : n < e.length
    · rw [List.drop_eq_getElem_cons hn, dot_cons, List.getD_eq_getElem?_getD, List.getElem?_eq_getElem hn]
      rfl
    · rw [List.drop_eq_nil_of_le (by omega), List.drop_eq_nil_of_le (by omega), dot_nil', dot_nil', List.getD_eq_getElem?_getD, List.getElem?_eq_none (by omega)]
      simp
theorem len_goN (w : List (List (Nat × Int))) (s : List Int) (hs : w.length = s.length) : ∀ k, (goN w s k).length = s.length
  | 0 => rfl
  | k + 1 => (len_go w _).trans hs
theorem len_sorted {n : Nat} : ∀ (l : List (Nat × Int)) (lo : Nat), l.Pairwise (fun p q => p.1 < q.1) → (∀ p ∈ l, lo ≤ p.1 ∧ p.1 < n) → l.length ≤ n - lo
  | [], lo, _, _ => Nat.zero_le _
  | p :: l, lo, hp, h => by
    obtain ⟨h1, h2⟩ := List.pairwise_cons.mp hp
    have h3 := h p List.mem_cons_self
    have := len_sorted (n := n) l (p.1 + 1) h2 fun q m => ⟨h1 q m, (h q (List.mem_cons_of_mem _ m)).2⟩
    rw [List.length_cons]
    omega
theorem OkRow.len {n : Nat} {row : List (Nat × Int)} (h : OkRow n row) : row.length ≤ n := by
  have := len_sorted row 0 h.1 fun p m => ⟨Nat.zero_le _, (h.2 p m).1⟩
  omega
end Mi
namespace Mi
open PySem L2
theorem bd_sum : ∀ (xs : List Int) (B : Nat), Bd B xs → xs.sum.natAbs ≤ xs.length * B
  | [], B, _ => by simp
  | x :: xs, B, h => by
    have h1 := bd_sum xs B fun y m => h y (List.mem_cons_of_mem _ m)
    have h2 := h x List.mem_cons_self
    rw [List.sum_cons, List.length_cons, Nat.succ_mul]
    omega
theorem bd_dot {r e : List Int} {B C : Nat} (hr : Bd B r) (he : Bd C e) : (dot r e).natAbs ≤ r.length * (B * C) := by
  unfold dot
  have := bd_sum ((r.zip e).map fun p => p.1 * p.2) (B * C) fun x m => by
    obtain ⟨p, hp, rfl⟩ := List.mem_map.mp m
    obtain ⟨h1, h2⟩ := List.of_mem_zip (a := p.1) (b := p.2) hp
    rw [Int.natAbs_mul]
    exact Nat.mul_le_mul (hr _ h1) (he _ h2)
  rw [List.length_map, List.length_zip] at this
  exact Nat.le_trans this (Nat.mul_le_mul_right _ (Nat.min_le_left ..))
end Mi
namespace Mi
open PySem L2
structure Shw (p : PyData) (n k : Nat) : Prop where
  sh : p.showable = true
  nd : p.hasDict = false
  ln : p.shown.length ≤ n
  dp : p.depth ≤ k
  ok : PyData.strOk p.shown = true
theorem Shw.mono {p : PyData} {n k n' k' : Nat} (h : Shw p n k) (h1 : n ≤ n') (h2 : k ≤ k') : Shw p n' k' := ⟨h.sh, h.nd, Nat.le_trans h.ln h1, Nat.le_trans h.dp h2, h.ok⟩
end Mi
namespace Mi
open PySem PySem.Spec L2
def fDeckD : Fn := ⟨1, 4, (.cons (.par 1 2 (.f1 .list (.sl (.get (.var 0)) none (some (.int 63)))) (.int 10851032)) (.cons (.fr (.var 3) (.seq (.get (.var 1))) (.cons (.asg 2 (.bin .mod (.f1 .int (.bin .add (.bin .add (.bin .mul (.get (.var 2)) (.int 48271)) (.bin .mod (.f1 .int (.get (.var 3))) (.int 2147483629))) (.int 32))) (.int 2147483587))) .nil)) (.cons (.ret (.dct [.inr "cells", .inr "blend", .inr "drawn"] (.cons (.rev (.get (.var 1))) (.cons (.get (.var 2)) (.cons (.int 0) .nil))))) .nil)))⟩
def fDrawD : Fn := ⟨2, 5, (.cons (.setx (.var 0) (.str "drawn") (.bin .add (.get (.ix (.var 0) (.str "drawn"))) (.int 1))) (.cons (.par 2 3 (.get (.ix (.var 0) (.str "drawn"))) (.get (.ix (.var 0) (.str "blend")))) (.cons (.ite (.emp true (.ix (.var 0) (.str "cells"))) (.cons (.asg 4 (.pop (.ix (.var 0) (.str "cells")))) (.cons (.ite (.cmp .ge (.get (.var 4)) (.bin .pow (.int 10) (.int 18))) (.cons (.app (.ix (.var 0) (.str "cells")) (.bin .fdiv (.get (.var 4)) (.get (.var 1)))) (.cons (.ret (.bin .mod (.f1 .int (.get (.var 4))) (.get (.var 1)))) .nil)) .nil) (.cons (.asg 3 (.bin .add (.get (.var 3)) (.bin .mod (.f1 .int (.get (.var 4))) (.int 2147483563)))) .nil))) .nil) (.cons (.asg 3 (.bin .mod (.bin .mul (.f1 .int (.bin .add (.bin .add (.bin .mod (.f1 .int (.get (.var 3))) (.int 2147483629)) (.bin .mul (.bin .mul (.int 60719) (.get (.var 2))) (.get (.var 2)))) (.int 37))) (.int 40692)) (.int 2147483647))) (.cons (.asg 3 (.bin .mod (.f1 .int (.bin .add (.bin .add (.bin .mul (.get (.var 3)) (.get (.var 3))) (.bin .mul (.int 39373) (.get (.var 2)))) (.int 17))) (.int 2147483579))) (.cons (.ret (.bin .mod (.bin .fdiv (.bin .mod (.f1 .int (.bin .mul (.get (.var 3)) (.int 69621))) (.int 2147483549)) (.int 64)) (.get (.var 1)))) .nil))))))⟩
def fBuilt (dr : Nat) : Fn := ⟨3, 8, (.cons (.asg 3 (.call dr (.mut 0 (.cons (.bin .add (.get (.var 1)) (.int 1)) .nil)) .nil [0, 1])) (.cons (.asg 4 (.f1 .tuple (.lc [6] (.var 6) (.rng1 (.get (.var 3))) (.bl true) (.bin .mul (.call dr (.mut 0 (.cons (.int 3) .nil)) .nil [0, 1]) (.call dr (.mut 0 (.cons (.get (.var 2)) .nil)) .nil [0, 1]))))) (.cons (.asg 5 (.lst .nil)) (.cons (.fr (.var 6) (.rng1 (.get (.var 3))) (.cons (.app (.var 5) (.f1 .tuple (.lc [7] (.var 7) (.rng1 (.get (.var 3))) (.cmp .eq (.call dr (.mut 0 (.cons (.int 3) .nil)) .nil [0, 1]) (.int 0)) (.tup (.cons (.get (.var 7)) (.cons (.bin .add (.int 1) (.call dr (.mut 0 (.cons (.get (.var 2)) .nil)) .nil [0, 1])) .nil)))))) .nil)) (.cons (.ret (.tup (.cons (.get (.var 4)) (.cons (.f1p .tuple (.var 5)) (.cons (.f1 .tuple (.lc [6] (.var 6) (.rng1 (.get (.var 3))) (.bl true) (.call dr (.mut 0 (.cons (.int 3) .nil)) .nil [0, 1]))) .nil))))) .nil)))))⟩
def fCounted : Fn := ⟨2, 10, (.cons (.parN 2 3 (.f1 .list (.get (.ix (.var 0) (.int 0)))) (.lst .nil)) (.cons (.fr (.var 4) (.rng1 (.get (.var 1))) (.cons (.app (.var 3) (.f1 .sum (.lc [6] (.var 6) (.rng1 (.x (.len (.var 2)))) (.bl true) (.bin .mul (.get (.ix (.var 2) (.rd (.var 6)))) (.get (.ix (.ix (.var 0) (.int 2)) (.rd (.var 6)))))))) (.cons (.asg 5 (.bin .mul (.lst (.cons (.int 0) .nil)) (.x (.len (.var 2))))) (.cons (.fr (.tup [(.var 6), (.var 7)]) (.enum (.get (.ix (.var 0) (.int 1)))) (.cons (.fr (.tup [(.var 8), (.var 9)]) (.seq (.get (.var 7))) (.cons (.setx (.var 5) (.rd (.var 8)) (.bin .add (.get (.ix (.var 5) (.rd (.var 8)))) (.bin .mul (.get (.ix (.var 2) (.rd (.var 6)))) (.get (.var 9))))) .nil)) .nil)) (.cons (.asg 2 (.get (.var 5))) .nil))))) (.cons (.ret (.f1p .tuple (.var 3))) .nil)))⟩
def dkD (left : List Int) (b c : Int) : T := .dc [.inr "cells", .inr "blend", .inr "drawn"] [.ls (left.map dInt), .cl (.int b), .cl (.int c)]
theorem pN (left : List Int) (b c d : Int) : putIxT (dkD left b c) (.str "drawn") (.cl (.int d)) = some (dkD left b d) := by rfl
structure Dn (s n : Int) (t : T) (ts : List T) : Prop where out : ∃ r left b, 0 ≤ r ∧ r < s ∧ t = .cl (.int r) ∧ ts = [dkD left b (n + 1), .cl (.int s)] ∧ left.length ≤ 63
theorem eqD_emp (xs : List Int) : eqD (T.ls (xs.map dInt)).d (.lst []) = some (decide (xs = [])) := by
  have := d_ls (xs.map D.int)
  rw [cls_dInt] at this
  rw [this]
  exact eqD_ints xs []
theorem draw_wf {g : List (Str × D)} {F : Fs} {left : List Int} {b n s : Int} (h0 : 0 ≤ n) (hn : n < 2 ^ 20) (hl : left.length ≤ 63) (hs : 0 < s) (hs2 : s < 2 ^ 64) : Wf g F fDrawD [dkD left b n, .cl (.int s)] (Dn s n) := by
  have q0 : 0 ≤ (n + 1) * (n + 1) := Int.mul_nonneg (by omega) (by omega)
  have q1 : (n + 1) * (n + 1) ≤ 1048576 * 1048576 := Int.mul_le_mul (by omega) (by omega) (by omega) (by omega)
  have q2 : 60719 * (n + 1) * (n + 1) = 60719 * ((n + 1) * (n + 1)) := Int.mul_assoc ..
  refine wf_of rfl ?_
  refine mq ?_
  refine ⟨dkD left b n, .str "drawn", dkD left b (n + 1), _, rfl, rfl, pN .., rfl, ?_⟩
  refine mq ?_
  show We _ _ [some (.r 0), some (.r 1), some (.v (.int (n + 1))), some (.v (.int b)), none] _ [some (dkD left b (n + 1)), some (.cl (.int s)), none, none, none, none, none] _
  refine we_emp (t := .ls (left.map dInt)) rfl (eqD_emp left) ?_
  refine ⟨_, rfl, fun h => ?_, fun _ => ?_⟩
  · have hne : left ≠ [] := by simpa using h
    obtain ⟨ys, y, rfl⟩ : ∃ ys y, left = ys ++ [y] := by
      rcases List.eq_nil_or_concat left with h | ⟨ys, y, rfl⟩
      · exact absurd h hne
      · exact ⟨ys, y, by simp⟩
    have hl2 : ys.length + 1 ≤ 63 := by simpa using hl
    have e3 : ((ys ++ [y]).map dInt).dropLast = ys.map dInt := by simp
    refine mq ?_
    refine we_pop (ts := (ys ++ [y]).map dInt) (t := .cl (.int y)) (rt' := [some (dkD ys b (n + 1)), some (.cl (.int s)), none, none, none, none, none]) rfl (by simp [dInt]) (by rw [e3]; rfl) ?_
    refine mq ?_
    have ez : opB .fdiv (.int y) (.int s) = some (.cl (.int (y.fdiv s))) := oB_div (by omega) (Nat.lt_trans (log2_of (k := 64) (by omega) (by decide)) (by decide))
    refine ⟨fun _ => ?_, fun _ => ?_⟩
    · refine ws_x (wx_app2 (ts := ys.map dInt) (d := .int (y.fdiv s)) (rt' := [some (dkD (ys ++ [y.fdiv s]) b (n + 1)), some (.cl (.int s)), none, none, none, none, none]) rfl rfl ?_ (by rw [List.length_map]; have : sizeLine = 16777216 := rfl; omega) (by rw [tI_add]; rfl) ?_)
      · show (match opB .fdiv (.int y) (.int s) with | some (.cl d) => some d | _ => none) = _
        rw [ez]
      · refine mq ?_
        exact ⟨_, ys ++ [y.fdiv s], b, Int.emod_nonneg _ (by omega), Int.emod_lt_of_pos _ hs, rfl, rfl, by simp; omega⟩
    · refine mq ?_
      exact ⟨_, ys, b, Int.emod_nonneg _ (by omega), Int.emod_lt_of_pos _ hs, rfl, rfl, by omega⟩
  · refine mq ?_
    exact ⟨_, left, b, Int.emod_nonneg _ (by omega), Int.emod_lt_of_pos _ hs, rfl, rfl, hl⟩
theorem deck_wf {g : List (Str × D)} {F : Fs} (ns : List Int) : Wf g F fDeckD [.cl (.scr ns)] fun t ts => ts = [.cl (.scr ns)] ∧ ∃ left b, t = dkD left b 0 ∧ left.length ≤ 63 := by
  have hc : (cut ns none (some 63)).length ≤ 63 := by
    unfold cut
    rw [List.length_take]
    simp only [HT.sIx]
    rw [if_neg (by decide)]
    omega
  refine wf_of rfl ?_
  refine mq ?_
  refine ⟨none, some 63, _, rfl, rfl, rfl, ?_⟩
  generalize cut ns none (some 63) = C at hc
  refine mq ?_
  simp only [ds_ti]
  refine wg_ind (fun i sl rt => ∃ β o, 0 ≤ β ∧ β < 2147483629 ∧ sl = [some (.r 0), some (.r 2), some (.v (.int β)), o] ∧ rt = [some (.cl (.scr ns)), none, some (.cl (.lst (C.map .int))), none, none]) _ _ _ ⟨10851032, none, by decide, by decide, rfl, ?_⟩ ?_ ?_
  · simp [close, startRt, d_ls]
  · rintro i x sl rt hx ⟨β, o, b0, b1, rfl, rfl⟩
    rw [List.getElem?_map] at hx
    obtain ⟨p, hp, rfl⟩ := Option.map_eq_some_iff.mp hx
    refine ⟨_, rfl, ?_⟩
    refine mq ?_
    exact ⟨.inl rfl, _, _, Int.emod_nonneg _ (by decide), by omega, rfl, rfl⟩
  · rintro sl rt ⟨β, o, b0, b1, rfl, rfl⟩
    refine mq ?_
    refine ⟨⟨rfl, by decide, by decide, by simp⟩, ?_⟩
    refine mq ?_
    exact ⟨rfl, C.reverse, β, by unfold dkD; rw [← cls_dInt, List.map_reverse], by simpa using hc⟩
def Dk (m : Int) (t : T) : Prop := ∃ left b n, t = dkD left b n ∧ left.length ≤ 63 ∧ 0 ≤ n ∧ n ≤ m
theorem Dk.mono {m m' : Int} {t : T} (h : Dk m t) (l : m ≤ m') : Dk m' t := by
  obtain ⟨a, b, n, e, h1, h2, h3⟩ := h
  exact ⟨a, b, n, e, h1, h2, by omega⟩
theorem wc_draw {k j : Nat} {m s : Int} {t : T} {rt : Rt} {Q : T → Rt → Prop} {g : List (Str × D)} {G : List Fn} {dr : Nat} (hd : G[dr]? = some fDrawD) (h : Dk m t) (hm : m < 2 ^ 20) (hs : 0 < s) (hs2 : s < 2 ^ 64) (e : rt[j]? = some (some t)) (q : ∀ r t', 0 ≤ r → r < s → Dk (m + 1) t' → Q (.cl (.int r)) (rt.set j (some t'))) :
    Wc (sem g G (k + 1)) dr [0, 1] [.inr j, .inl (.int s)] rt Q := by
  obtain ⟨left, b, n, rfl, h1, h2, h3⟩ := h
  obtain ⟨u, us, e2, r, left', b', r0, r1, rfl, rfl, hl⟩ := draw_wf (g := g) (F := sem g G k) h2 (by omega) h1 hs hs2 (b := b)
  refine wc_of (ys := [.inr j, .inl (.int s)]) (ts := [dkD left b n, .cl (.int s)]) rfl (by simp [mutsOf]) (by simp [argsOf, e]) (sem_of hd e2) rfl ?_
  have := q r (dkD left' b' (n + 1)) r0 r1 ⟨left', b', n + 1, rfl, hl, by omega, by omega⟩
  simpa [backOf, clr] using this
theorem leaves_cls : ∀ xs : List D, T.leaves (cls xs) = some xs
  | [] => rfl
  | x :: xs => by
    unfold cls
    rw [List.map_cons]
    show (T.leaves (xs.map T.cl)).map _ = _
    rw [show xs.map T.cl = cls xs from rfl, leaves_cls xs]
    rfl
structure OkMC (C : Nat) (s : List Int) (w : List (List (Nat × Int))) (e : List Int) : Prop where
  lw : w.length = s.length
  le : e.length = s.length
  bs : ∀ x ∈ s, 0 ≤ x ∧ x ≤ C
  be : ∀ x ∈ e, 0 ≤ x ∧ x ≤ C
  pw : ∀ row ∈ w, row.Pairwise fun p q => p.1 < q.1
  rg : ∀ row ∈ w, ∀ p ∈ row, p.1 < s.length ∧ 1 ≤ p.2 ∧ p.2 ≤ C
theorem clsI (xs : List Int) : cls (xs.map .int) = xs.map dInt := cls_dInt xs
theorem add1 (xs : List Int) (x : Int) : cls (xs.map .int) ++ [.cl (.int x)] = cls ((xs ++ [x]).map .int) := by rw [clsI, clsI, tI_add]
theorem addP (xs : List (Nat × Int)) (p : Nat × Int) : cls (xs.map dP) ++ [.cl (dP p)] = cls ((xs ++ [p]).map dP) := by unfold cls; simp
theorem addR (xs : List (List (Nat × Int))) (p : List (Nat × Int)) : cls (xs.map dRow) ++ [.cl (dRow p)] = cls ((xs ++ [p]).map dRow) := by unfold cls; simp
theorem mem_add {α : Type} {P : α → Prop} {xs : List α} {x : α} (h : ∀ y ∈ xs, P y) (hx : P x) : ∀ y ∈ xs ++ [x], P y := fun y m => by
  rcases List.mem_append.mp m with m | m
  · exact h y m
  · rw [List.mem_singleton.mp m]
    exact hx
theorem built_wf {g : List (Str × D)} {G : List Fn} {dr : Nat} (hd : G[dr]? = some fDrawD) {k C : Nat} {t : T} {m top great : Int} (h : Dk m t) (hm : m < 2 ^ 19) (h0 : 0 ≤ top) (h1 : top ≤ 60) (g0 : 1 ≤ great) (g1 : great < 2 ^ 30) (gC : 2 * great ≤ C) :
    Wf g (sem g G (k + 1)) (fBuilt dr) [t, .cl (.int top), .cl (.int great)] fun u ts => ∃ t' s w e, u = .cl (.tup [dI s, dMv w, dI e]) ∧ ts = [t', .cl (.int top), .cl (.int great)] ∧ Dk (m + 8000) t' ∧ OkMC C s w e ∧ (s.length : Int) ≤ top ∧ ∀ row ∈ w, ∀ p ∈ row, p.2 ≤ great := by
  refine wf_of rfl ?_
  refine mq ?_
  refine wc_draw hd h (by omega) (by omega) (by omega) rfl fun n t1 n0 n1 d1 => ?_
  refine mq ?_
  obtain ⟨N, rfl⟩ : ∃ N : Nat, n = N := ⟨n.toNat, by omega⟩
  rw [Int.toNat_natCast]
  refine wl_ind (fun i ts rt => ∃ (t1 : T) (xs : List Int), Dk (m + 1 + 2 * i) t1 ∧ ts = cls (xs.map .int) ∧ xs.length = i ∧ (∀ x ∈ xs, 0 ≤ x ∧ x ≤ C) ∧ rt = startRt 8 [t1, .cl (.int top), .cl (.int great)]) _ ⟨t1, [], d1.mono (by omega), rfl, rfl, by simp, rfl⟩ (by rw [rng_len]; have : sizeLine = 16777216 := rfl; omega) ?_ ?_
  · rintro i x acc rt hx ⟨t2, xs, d2, rfl, rfl, hb, rfl⟩
    obtain ⟨hi, rfl⟩ := rng_get hx
    refine ⟨_, rfl, ?_⟩
    refine mq ?_
    refine wc_draw hd d2 (by omega) (by omega) (by omega) rfl fun r t3 r0 r1 d3 => ?_
    refine mq ?_
    refine wc_draw hd d3 (by omega) (by omega) (by omega) rfl fun r' t4 r0' r1' d4 => ?_
    refine mq ?_
    have hr : 0 ≤ r * r' ∧ r * r' ≤ C := by
      rcases (by omega : r = 0 ∨ r = 1 ∨ r = 2) with rfl | rfl | rfl <;> omega
    exact ⟨t4, xs ++ [r * r'], d4.mono (by omega), add1 _ _, by simp, mem_add hb hr, rfl⟩
  · rintro ts rt ⟨t2, xs, d2, rfl, hxs, hb, rfl⟩
    rw [rng_len] at d2 hxs
    refine mq ?_
    simp only [ds_ti]
    rw [Int.toNat_natCast]
    refine wg_ind (fun i sl rt => ∃ (t1 : T) (w : List (List (Nat × Int))) (o : Option S), Dk (m + 1 + 2 * N + 2 * N * i) t1 ∧ w.length = i ∧ (∀ row ∈ w, row.Pairwise (fun p q => p.1 < q.1) ∧ ∀ p ∈ row, p.1 < N ∧ 1 ≤ p.2 ∧ p.2 ≤ great) ∧ sl = [some (.r 0), some (.r 1), some (.r 2), some (.v (.int N)), some (.v (.tup (xs.map .int))), some (.r 8), o, none] ∧ rt = [some t1, some (.cl (.int top)), some (.cl (.int great)), none, none, none, none, none, some (.ls (cls (w.map dRow))), none, none]) _ _ _ ⟨t2, [], none, d2.mono (by omega), rfl, by simp, rfl, rfl⟩ ?_ ?_
    · rintro i x sl rt hx ⟨t3, w, o, d3, hw, hr, rfl, rfl⟩
      obtain ⟨hi, rfl⟩ := rng_get hx
      have hNi : (N : Int) * i ≤ 60 * 60 := Int.mul_le_mul (by omega) (by omega) (by omega) (by omega)
      have hNi0 : (0 : Int) ≤ (N : Int) * i := Int.mul_nonneg (by omega) (by omega)
      have hN2 : 2 * (N : Int) * i = 2 * (N * i) := Int.mul_assoc ..
      have hN3 : 2 * (N : Int) * (i + 1 : Nat) = 2 * (N * i) + 2 * N := by rw [Int.mul_assoc]; push_cast; rw [Int.mul_add]; omega
      refine ⟨_, rfl, ?_⟩
      refine mq ?_
      rw [Int.toNat_natCast]
      refine wl_ind (fun j ts rt => ∃ (t1 : T) (row : List (Nat × Int)), Dk (m + 1 + 2 * N + 2 * N * i + 2 * j) t1 ∧ ts = cls (row.map dP) ∧ row.Pairwise (fun p q => p.1 < q.1) ∧ (∀ p ∈ row, p.1 < j ∧ 1 ≤ p.2 ∧ p.2 ≤ great) ∧ rt = [some t1, some (.cl (.int top)), some (.cl (.int great)), none, none, none, none, none, some (.ls (cls (w.map dRow))), none, none]) _ ⟨t3, [], d3.mono (by omega), rfl, by simp, by simp, rfl⟩ (by rw [rng_len]; have : sizeLine = 16777216 := rfl; omega) ?_ ?_
      · rintro j x acc rt hx ⟨t4, row, d4, rfl, hp, hq, rfl⟩
        obtain ⟨hj, rfl⟩ := rng_get hx
        refine ⟨_, rfl, ?_⟩
        refine mq ?_
        refine wc_draw hd d4 (by omega) (by omega) (by omega) rfl fun r t5 r0 r1 d5 => ?_
        refine mq ?_
        refine ⟨fun _ => ?_, fun _ => ?_⟩
        · refine mq ?_
          refine wc_draw hd d5 (by omega) (by omega) (by omega) rfl fun r' t6 r0' r1' d6 => ?_
          refine mq ?_
          refine ⟨t6, row ++ [(j, 1 + r')], d6.mono (by omega), addP _ (j, 1 + r'), ?_, ?_, rfl⟩
          · rw [List.pairwise_append]
            refine ⟨hp, List.pairwise_singleton .., fun a ha b hb => ?_⟩
            rw [List.mem_singleton.mp hb]
            exact (hq a ha).1
          · exact mem_add (fun p hp => ⟨by have := (hq p hp).1; omega, (hq p hp).2⟩) ⟨Nat.lt_succ_self j, by show 1 ≤ 1 + r'; omega, by show 1 + r' ≤ great; omega⟩
        · exact ⟨t5, row, d5.mono (by omega), rfl, hp, fun p hp => ⟨by have := (hq p hp).1; omega, (hq p hp).2⟩, rfl⟩
      · rintro ts rt ⟨t4, row, d4, rfl, hp, hq, rfl⟩
        rw [rng_len] at d4 hq
        refine mq ?_
        refine ⟨_, _, rfl, ?_, rfl, ?_⟩
        · unfold cls
          rw [List.length_map, List.length_map, hw]
          have : sizeLine = 16777216 := rfl
          omega
        · refine mq ?_
          refine ⟨.inl rfl, t4, w ++ [row], _, d4.mono (by omega), by simp [hw], mem_add hr ⟨hp, hq⟩, rfl, ?_⟩
          rw [← addR]
          simp only [ds_ti]
          rfl
    · rintro sl rt ⟨t3, w, o, d3, hw, hr, rfl, rfl⟩
      rw [rng_len] at d3 hw
      have hNN : (N : Int) * N ≤ 60 * 60 := Int.mul_le_mul (by omega) (by omega) (by omega) (by omega)
      have hN2 : 2 * (N : Int) * N = 2 * (N * N) := Int.mul_assoc ..
      refine mq ?_
      refine we_f1p (t := .ls (cls (w.map dRow))) (xs := w.map dRow) rfl (leaves_cls _) ?_
      rw [d_ls]
      refine mq ?_
      rw [Int.toNat_natCast]
      refine wl_ind (fun i ts rt => ∃ (t1 : T) (es : List Int), Dk (m + 1 + 2 * N + 2 * (N * N) + i) t1 ∧ ts = cls (es.map .int) ∧ es.length = i ∧ (∀ x ∈ es, 0 ≤ x ∧ x ≤ C) ∧ rt = [some t1, some (.cl (.int top)), some (.cl (.int great)), none, none, none, none, none, some (.ls (cls (w.map dRow))), none, none]) _ ⟨t3, [], d3.mono (by omega), rfl, rfl, by simp, rfl⟩ (by rw [rng_len]; have : sizeLine = 16777216 := rfl; omega) ?_ ?_
      · rintro i x acc rt hx ⟨t4, es, d4, rfl, rfl, he, rfl⟩
        obtain ⟨hi, rfl⟩ := rng_get hx
        refine ⟨_, rfl, ?_⟩
        refine mq ?_
        refine wc_draw hd d4 (by omega) (by omega) (by omega) rfl fun r t5 r0 r1 d5 => ?_
        refine mq ?_
        exact ⟨t5, es ++ [r], d5.mono (by omega), add1 _ _, by simp, mem_add he ⟨r0, by omega⟩, rfl⟩
      · rintro ts rt ⟨t4, es, d4, rfl, hl, he, rfl⟩
        rw [rng_len] at d4 hl
        refine mq ?_
        simp only [ds_ti]
        exact ⟨t4, xs, w, es, rfl, rfl, d4.mono (by omega), ⟨by omega, by omega, hb, he, fun row hrow => (hr row hrow).1, fun row hrow p hp => ⟨hxs ▸ ((hr row hrow).2 p hp).1, ((hr row hrow).2 p hp).2.1, by have := ((hr row hrow).2 p hp).2.2; omega⟩⟩, by omega, fun row hrow p hp => ((hr row hrow).2 p hp).2.2⟩
def eng (s : List Int) (w : List (List (Nat × Int))) (e : List Int) : D := .tup [dI s, dMv w, dI e]
theorem OkMC.inr {C : Nat} {s e : List Int} {w : List (List (Nat × Int))} (h : OkMC C s w e) : InR w := fun row m p q => by rw [h.lw]; exact (h.rg row m p q).1
theorem OkMC.len {C : Nat} {s e : List Int} {w : List (List (Nat × Int))} (h : OkMC C s w e) : ∀ row ∈ w, row.length ≤ s.length := fun row m => by
  have := len_sorted (n := s.length) row 0 (h.pw row m) fun p q => ⟨Nat.zero_le _, (h.rg row m p q).1⟩
  omega
theorem OkMC.mono {C C' : Nat} {s e : List Int} {w : List (List (Nat × Int))} (h : OkMC C s w e) (l : C ≤ C') : OkMC C' s w e :=
  ⟨h.lw, h.le, fun x m => ⟨(h.bs x m).1, by have := (h.bs x m).2; omega⟩, fun x m => ⟨(h.be x m).1, by have := (h.be x m).2; omega⟩, h.pw, fun row m p q => ⟨(h.rg row m p q).1, (h.rg row m p q).2.1, by have := (h.rg row m p q).2.2; omega⟩⟩
theorem bd_goC {C B : Nat} {s e r : List Int} {w : List (List (Nat × Int))} (h : OkMC C s w e) (hr : Bd B r) : Bd (s.length * (s.length * (B * C))) (go w r) := by
  have h0 : Bd 0 (List.replicate w.length (0 : Int)) := fun x m => by rw [(List.mem_replicate.mp m).2]; exact Nat.le_refl 0
  have := bd_goFrom (C := B * C) (n := s.length) w r (fun t mt row mr => ⟨h.len row mr, fun p mp => by
    rw [Int.natAbs_mul]
    have h1 := hr t mt
    have h2 := (h.rg row mr p mp).2
    exact Nat.mul_le_mul h1 (by omega)⟩) _ 0 h0
  intro x m
  have := this x m
  rw [h.lw] at this
  omega
theorem OkMC.bd {C a c : Nat} {s e : List Int} {w : List (List (Nat × Int))} (h : OkMC C s w e) (ha : s.length ≤ 2 ^ a) (hc : C ≤ 2 ^ c) : ∀ k, Bd (2 ^ ((2 * a + c) * k + c)) (goN w s k)
  | 0 => fun x m => by
    have := h.bs x m
    rw [Nat.mul_zero, Nat.zero_add]
    omega
  | k + 1 => by
    have := bd_goC h (h.bd ha hc k)
    have e : (2 * a + c) * (k + 1) + c = a + (a + ((2 * a + c) * k + c + c)) := by rw [Nat.mul_succ]; omega
    intro x m
    refine Nat.le_trans (this x m) ?_
    rw [e, Nat.pow_add 2 a, Nat.pow_add 2 a, Nat.pow_add 2 ((2 * a + c) * k + c) c]
    exact Nat.mul_le_mul ha (Nat.mul_le_mul ha (Nat.mul_le_mul_left _ hc))
structure Fits (a c k : Nat) (C n : Nat) : Prop where
  na : n ≤ 2 ^ a
  nc : C ≤ 2 ^ c
  nk : (2 * a + c) * k + 2 * c < 1000000
theorem Fits.mono {a c k j C n : Nat} (h : Fits a c k C n) (l : j ≤ k) : Fits a c j C n := ⟨h.na, h.nc, by have := Nat.mul_le_mul_left (2 * a + c) l; have := h.nk; omega⟩
theorem OkMC.mulE {C a c k : Nat} {s e : List Int} {w : List (List (Nat × Int))} (h : OkMC C s w e) (f : Fits a c k C s.length) : ∀ t ∈ goN w s k, ∀ x ∈ e, mulOk t x = true := fun t m x n => by
  have := h.be x n
  have := f.nc
  have := f.nk
  exact mulOk_bd (h.bd f.na f.nc k t m) (b := c) (by omega) (by omega)
theorem OkMC.mulW {C a c k : Nat} {s e : List Int} {w : List (List (Nat × Int))} (h : OkMC C s w e) (f : Fits a c k C s.length) : ∀ row ∈ w, ∀ p ∈ row, ∀ t ∈ goN w s k, mulOk t p.2 = true := fun row m p n t q => by
  have := (h.rg row m p n).2
  have := f.nc
  have := f.nk
  exact mulOk_bd (h.bd f.na f.nc k t q) (b := c) (by omega) (by omega)
theorem getD_zip (h e : List Int) (n : Nat) (h1 : h.length = n) (h2 : e.length = n) : (List.range n).map (fun i => h.getD i 0 * e.getD i 0) = (h.zip e).map fun p => p.1 * p.2 := by
  apply List.ext_getElem
  · simp [h1, h2]
  · intro i a b
    have hi : i < n := by simpa using a
    simp only [List.getElem_map, List.getElem_range, List.getElem_zip, List.getD_eq_getElem?_getD]
    rw [List.getElem?_eq_getElem (by omega), List.getElem?_eq_getElem (by omega)]
    rfl
theorem enum_get {α : Type} (f : α → D) : ∀ (xs : List α) (k i : Nat) (x : D), (enumD k (xs.map f))[i]? = some x → ∃ a, xs[i]? = some a ∧ x = .tup [.int ((k + i : Nat) : Int), f a]
  | [], k, i, x, h => by cases h
  | a :: xs, k, 0, x, h => by cases h; exact ⟨a, rfl, rfl⟩
  | a :: xs, k, i + 1, x, h => by
    obtain ⟨b, e1, e2⟩ := enum_get f xs (k + 1) i x h
    exact ⟨b, e1, by rw [e2, show k + 1 + i = k + (i + 1) by omega]⟩
theorem enum_len (xs : List D) : ∀ k, (enumD k xs).length = xs.length := by
  induction xs with
  | nil => exact fun k => rfl
  | cons x xs ih => exact fun k => by show (enumD (k + 1) xs).length + 1 = _; rw [ih]; rfl
def bC2 : Ss := (.cons (.setx (.var 5) (.rd (.var 8)) (.bin .add (.get (.ix (.var 5) (.rd (.var 8)))) (.bin .mul (.get (.ix (.var 2) (.rd (.var 6)))) (.get (.var 9))))) .nil)
def At2 (h : List Int) (o2 : Option S) (r4 : Option T) : Prop := (o2 = some (.r 4) ∧ r4 = some (.ls (cls (h.map .int)))) ∨ o2 = some (.v (.lst (h.map .int)))
theorem ixL {h : List Int} {i : Nat} {x : Int} (e : h[i]? = some x) : ixD (.lst (h.map .int)) (.int i) = some (.int x) := by
  show atI (h.map D.int) i = _
  have hi := (List.getElem?_eq_some_iff.mp e).1
  rw [atI_of (by rw [List.length_map]; exact hi), List.getElem_map, (List.getElem?_eq_some_iff.mp e).2]
theorem ixR {h : List Int} {i : Nat} {x : Int} (e : h[i]? = some x) : ixT (.ls (cls (h.map .int))) (.int i) = some (.cl (.int x)) := by
  show atI (cls (h.map D.int)) i = _
  have hi := (List.getElem?_eq_some_iff.mp e).1
  rw [clsI, atI_of (by rw [List.length_map]; exact hi), List.getElem_map, (List.getElem?_eq_some_iff.mp e).2]
  rfl
theorem c_row {c : Cfg} {h : List Int} {o2 : Option S} {r0 r1 r4 r5 : Option T} {row : List (Nat × Int)} {n i : Nat} {t : Int} {d7 : D} (h2 : At2 h o2 r4) (ht : h[i]? = some t) (hn : ∀ p ∈ row, p.1 < n ∧ mulOk t p.2 = true) {o8 o9 : Option S} (h89 : ∀ o ∈ [o8, o9], o ≠ some (.r 7)) {f : List Int} (hf : f.length = n) {Qs : Fl → Sl → Rt → Prop}
    (k : ∀ o8 o9, (∀ o ∈ [o8, o9], o ≠ some (.r 7)) → Qs .nx [some (.r 0), some (.r 1), o2, some (.r 5), some d4, some (.r 7), some (.v (.int i)), some (.v d7), o8, o9] [r0, r1, none, none, r4, r5, none, some (.ls (cls ((rowAdd t f row).map .int))), none, none, none, none]) :
    Wg c (.tup [(.var 8), (.var 9)]) bC2 (row.map dP) [some (.r 0), some (.r 1), o2, some (.r 5), some d4, some (.r 7), some (.v (.int i)), some (.v d7), o8, o9] [r0, r1, none, none, r4, r5, none, some (.ls (cls (f.map .int))), none, none, none, none] Qs := by
  refine wg_ind (fun j sl rt => ∃ o8 o9, (∀ o ∈ [o8, o9], o ≠ some (.r 7)) ∧ sl = [some (.r 0), some (.r 1), o2, some (.r 5), some d4, some (.r 7), some (.v (.int i)), some (.v d7), o8, o9] ∧ rt = [r0, r1, none, none, r4, r5, none, some (.ls (cls ((rowAdd t f (row.take j)).map .int))), none, none, none, none]) _ _ _ ⟨_, _, h89, rfl, rfl⟩ ?_ ?_
  · rintro j x sl rt hx ⟨o8, o9, -, rfl, rfl⟩
    rw [List.getElem?_map] at hx
    obtain ⟨p, hp, rfl⟩ := Option.map_eq_some_iff.mp hx
    refine ⟨_, rfl, ?_⟩
    obtain ⟨h1, h3⟩ := hn p (List.mem_of_getElem? hp)
    have e : rowAdd t f (row.take (j + 1)) = addAt (rowAdd t f (row.take j)) p.1 (t * p.2) := by
      unfold rowAdd
      rw [List.take_succ, hp, List.foldl_append]
      rfl
    rw [e]
    have hl : (rowAdd t f (row.take j)).length = n := (len_rowAdd ..).trans hf
    generalize rowAdd t f (row.take j) = g at hl ⊢
    have hg : p.1 < g.length := by omega
    have e1 : ixT (.ls (cls (g.map .int))) (.int p.1) = some (.cl (.int g[p.1])) := ixR (List.getElem?_eq_getElem hg)
    have e2 : putIxT (.ls (cls (g.map .int))) (.int p.1) (.cl (.int (g[p.1] + t * p.2))) = some (.ls (cls ((addAt g p.1 (t * p.2)).map .int))) := by
      show (ixN _ _).map _ = _
      rw [clsI, clsI, ixN_of (by rw [List.length_map]; exact hg)]
      unfold addAt
      rw [List.map_set, List.getElem?_eq_getElem hg]
      rfl
    refine ws_x (wx_setx (we_bin (we_get e1 (we_bin ?_))))
    rcases h2 with ⟨rfl, rfl⟩ | rfl
    · refine we_get (ixR ht) ?_
      refine mq ?_
      refine ⟨_, _, _, _, rfl, rfl, e2, rfl, ?_⟩
      refine mq ?_
      exact ⟨.inl rfl, _, _, by simp, rfl, rfl⟩
    · refine we_get (d := .int t) (by show (ixD (.lst (h.map .int)) (.int i)).map T.cl = _; rw [ixL ht]; rfl) ?_
      refine mq ?_
      refine ⟨_, _, _, _, rfl, rfl, e2, rfl, ?_⟩
      refine mq ?_
      exact ⟨.inl rfl, _, _, by simp, rfl, rfl⟩
  · rintro sl rt ⟨o8, o9, h89, rfl, rfl⟩
    rw [List.length_map, List.take_length]
    exact k _ _ h89
theorem At2.len {h : List Int} {o2 : Option S} {r4 : Option T} (a : At2 h o2 r4) {o3 o4 o5 o6 o7 o8 o9 : Option S} {r0 r1 r2 r3 r5 r6 r7 r8 r9 r10 r11 : Option T} : x0 [some (.r 0), some (.r 1), o2, o3, o4, o5, o6, o7, o8, o9] [r0, r1, r2, r3, r4, r5, r6, r7, r8, r9, r10, r11] (.len (.var 2)) = some (.int h.length) := by
  have e : (h.map D.int).length = h.length := List.length_map _
  rcases a with ⟨rfl, rfl⟩ | rfl
  · show (lenD (T.ls (cls (h.map D.int))).d).map D.int = _
    rw [d_ls]
    show some (D.int ((h.map D.int).length : Nat)) = _
    rw [e]
  · show some (D.int ((h.map D.int).length : Nat)) = _
    rw [e]
theorem At2.ix {h : List Int} {o2 : Option S} {r4 : Option T} (a : At2 h o2 r4) {i : Nat} {x : Int} (hx : h[i]? = some x) {o3 o4 o5 o7 o8 o9 : Option S} {r0 r1 r2 r3 r5 r6 r7 r8 r9 r10 r11 : Option T} : pt [some (.r 0), some (.r 1), o2, o3, o4, o5, some (.v (.int i)), o7, o8, o9] [r0, r1, r2, r3, r4, r5, r6, r7, r8, r9, r10, r11] (.ix (.var 2) (.rd (.var 6))) = some (.cl (.int x)) := by
  rcases a with ⟨rfl, rfl⟩ | rfl
  · exact ixR hx
  · show (ixD (.lst (h.map .int)) (.int i)).map T.cl = _
    rw [ixL hx]
    rfl
theorem ixE {xs : List Int} {i : Nat} {x : Int} (e : xs[i]? = some x) : ixD (dI xs) (.int i) = some (.int x) := by
  show atI (xs.map D.int) i = _
  have hi := (List.getElem?_eq_some_iff.mp e).1
  rw [atI_of (by rw [List.length_map]; exact hi), List.getElem_map, (List.getElem?_eq_some_iff.mp e).2]
theorem usedBy_f {sl : Sl} {i k : Nat} (h : ∀ j : Nat, j ≠ i → sl[j]? ≠ some (some (.r k))) : ∀ n, usedBy sl i k n = false
  | 0 => rfl
  | n + 1 => by
    unfold usedBy
    rw [usedBy_f h n, Bool.false_or]
    by_cases e : n = i
    · subst e
      simp
    · have := h n e
      cases e2 : sl[n]? with
      | none => simp
      | some o =>
        cases o with
        | none => simp
        | some s =>
          cases s with
          | v d => simp
          | r k' =>
            rw [e2] at this
            have : k' ≠ k := fun z => this (by rw [z])
            simp [this]
theorem store_ls {c : Cfg} {i : Nat} {t : T} {sl : Sl} {rt : Rt} (ht : t.isCl = false) (h1 : i < sl.length) (h2 : ∀ j : Nat, j ≠ i → sl[j]? ≠ some (some (.r (c.np + i)))) (h3 : c.np + i < rt.length) : store c i t sl rt = some (sl.set i (some (.r (c.np + i))), rt.set (c.np + i) (some t)) := by
  unfold store
  rw [if_pos h1]
  cases t with
  | cl d => cases ht
  | _ => simp only; rw [usedBy_f h2, if_neg (by decide), if_pos h3]
theorem nr_of {sl : Sl} {i k : Nat} (h : ∀ o ∈ sl.eraseIdx i, o ≠ some (.r k)) : ∀ j : Nat, j ≠ i → sl[j]? ≠ some (some (.r k)) := fun j hj e => by
  refine h _ ?_ rfl
  obtain ⟨hl, e⟩ := List.getElem?_eq_some_iff.mp e
  rw [List.mem_eraseIdx_iff_getElem]
  exact ⟨j, hl, hj, e⟩
theorem goFrom_nil (f r : List Int) : goFrom f r [] = f := by unfold goFrom; rw [List.zip_nil_right]; rfl
theorem goFrom_take {r f : List Int} {w : List (List (Nat × Int))} {j : Nat} {t : Int} {row : List (Nat × Int)} (ht : r[j]? = some t) (hr : w[j]? = some row) : goFrom f r (w.take (j + 1)) = rowAdd t (goFrom f r (w.take j)) row := by
  have e : ∀ n, r.zip (w.take n) = (r.zip w).take n := fun n => by
    apply List.ext_getElem?
    intro i
    simp only [List.zip, List.getElem?_zipWith, List.getElem?_take]
    by_cases h : i < n
    · simp [h]
    · simp only [h, if_false]
      cases r[i]? <;> rfl
  have hz : (r.zip w)[j]? = some (t, row) := by
    rw [List.getElem?_zip_eq_some]
    exact ⟨ht, hr⟩
  unfold goFrom
  rw [e, e, List.take_succ, hz, List.foldl_append]
  rfl
theorem counted_wf {g : List (Str × D)} {F : Fs} {C a c : Nat} {s e : List Int} {w : List (List (Nat × Int))} (h : OkMC C s w e) (hl : s.length ≤ 1000) {k : Nat} (hk : k ≤ 1000) (ft : Fits a c k C s.length) :
    Wf g F fCounted (cls [eng s w e, .int k]) fun t ts => t = .cl (dI (cnts w s e k)) ∧ ts = cls [eng s w e, .int k] := by
  refine wf_of rfl ?_
  refine mq ?_
  rw [Int.toNat_natCast]
  refine wg_ind (fun i sl rt => ∃ o2 o4 o5 o6 o7 o8 o9 r4 r7, At2 (goN w s i) o2 r4 ∧ sl = [some (.r 0), some (.r 1), o2, some (.r 5), o4, o5, o6, o7, o8, o9] ∧ rt = [some (.cl (eng s w e)), some (.cl (.int k)), none, none, r4, some (.ls (cls ((cnts w s e i).map .int))), none, r7, none, none, none, none]  ∧ (∀ o ∈ [o2, o4, o6, o7, o8, o9], o ≠ some (.r 7))) _ _ _ ⟨some (.r 4), _, _, _, _, _, _, some (.ls (cls (s.map .int))), _, .inl ⟨rfl, rfl⟩, rfl, rfl, by simp⟩ ?_ ?_
  · rintro i x sl rt hx ⟨o2, o4, o5, o6, o7, o8, o9, r4, r7, a2, rfl, rfl, hn⟩
    obtain ⟨hi, rfl⟩ := rng_get hx
    have lg : (goN w s i).length = s.length := len_goN w s h.lw i
    have mE := h.mulE (ft.mono (Nat.le_of_lt hi))
    have mW := h.mulW (ft.mono (Nat.le_of_lt hi))
    refine ⟨_, rfl, ?_⟩
    refine mq ?_
    refine we_x a2.len ?_
    refine mq ?_
    rw [Int.toNat_natCast, lg]
    unfold rngD
    refine wl_map _ (fun j => .int ((goN w s i).getD j 0 * e.getD j 0)) _ (by rw [List.length_range]; omega) (fun j hj => ?_) ?_
    · have hj : j < s.length := List.mem_range.mp hj
      refine ⟨_, rfl, ?_⟩
      rw [Int.zero_add]
      obtain ⟨x, hx⟩ : ∃ x, (goN w s i)[j]? = some x := ⟨_, List.getElem?_eq_getElem (by omega)⟩
      obtain ⟨y, hy⟩ : ∃ y, e[j]? = some y := ⟨_, List.getElem?_eq_getElem (by rw [h.le]; omega)⟩
      have := mE x (List.mem_of_getElem? hx) y (List.mem_of_getElem? hy)
      simp only [List.getD_eq_getElem?_getD, hx, hy, Option.getD_some]
      refine mq ?_
      refine ⟨rfl, rfl, ?_⟩
      refine we_bin (we_get (a2.ix hx) (we_get (d := .int y) (by show (ixD (dI e) (.int j)).map T.cl = _; rw [ixE hy]; rfl) ?_))
      refine mq ?_
      exact ⟨rfl, rfl⟩
    · refine mq ?_
      rw [map_int (fun j => (goN w s i).getD j 0 * e.getD j 0), getD_zip _ _ _ lg h.le]
      refine of_sum (intsOf_map _) ?_
      have l1 : (cnts w s e i).length = i := by unfold cnts; rw [List.length_map, List.length_range]
      have ec : cnts w s e (i + 1) = cnts w s e i ++ [dot (goN w s i) e] := by unfold cnts; rw [List.range_succ, List.map_append]; rfl
      refine ⟨cls ((cnts w s e i).map .int), [some (.cl (eng s w e)), some (.cl (.int k)), none, none, r4, some (.ls (cls ((cnts w s e (i + 1)).map .int))), none, r7, none, none, none, none], rfl, ?_, ?_, ?_⟩
      · rw [clsI, List.length_map, l1]
        have : sizeLine = 16777216 := rfl
        omega
      · rw [ec, ← add1]
        rfl
      refine kq_nx (ws_x (wx_asg (we_bin (we_lst (wes_cons (we_int (wes_nil ⟨by decide, ?_⟩)))))))
      refine we_x a2.len ?_
      refine ob_rep1 (d := .int 0) (by omega) ?_
      rw [rep0 (goN w s i)]
      refine ⟨_, store_ls rfl (show 5 < 10 by decide) (nr_of (by simp at hn ⊢; simp [hn])) (show 7 < 12 by decide), ?_⟩
      show Kq _ _ _ _ [some (.r 0), some (.r 1), o2, some (.r 5), some (.v (.int i)), some (.r 7), o6, o7, o8, o9] [some (.cl (eng s w e)), some (.cl (.int k)), none, none, r4, some (.ls (cls ((cnts w s e (i + 1)).map .int))), none, some (.ls ((List.replicate (goN w s i).length (0 : Int)).map dInt)), none, none, none, none]
      rw [← clsI]
      refine kq_nx (ws_x (wx_fr (wi_enum (we_get (d := dMv w) rfl ⟨_, .inr rfl, ?_⟩))))
      refine wg_ind (fun j sl rt => ∃ o6 o7 o8 o9, (∀ o ∈ [o6, o7, o8, o9], o ≠ some (.r 7)) ∧ sl = [some (.r 0), some (.r 1), o2, some (.r 5), some (.v (.int i)), some (.r 7), o6, o7, o8, o9] ∧ rt = [some (.cl (eng s w e)), some (.cl (.int k)), none, none, r4, some (.ls (cls ((cnts w s e (i + 1)).map .int))), none, some (.ls (cls ((goFrom (List.replicate (goN w s i).length 0) (goN w s i) (w.take j)).map .int))), none, none, none, none]) _ _ _ ⟨_, _, _, _, by simp at hn ⊢; simp [hn], rfl, by rw [List.take_zero, goFrom_nil]⟩ ?_ ?_
      · rintro j x sl rt hx ⟨o6, o7, o8, o9, h6, rfl, rfl⟩
        obtain ⟨row, hr, rfl⟩ := enum_get _ _ _ _ _ hx
        rw [Nat.zero_add]
        refine ⟨_, rfl, ?_⟩
        have hj := (List.getElem?_eq_some_iff.mp hr).1
        obtain ⟨t, ht⟩ : ∃ x, (goN w s i)[j]? = some x := ⟨_, List.getElem?_eq_getElem (by rw [lg, ← h.lw]; exact hj)⟩
        have hrw := List.mem_of_getElem? hr
        refine mq ?_
        refine c_row (n := s.length) a2 ht (fun p q => ⟨(h.rg row hrw p q).1, mW row hrw p q t (List.mem_of_getElem? ht)⟩) (by simp at h6 ⊢; simp [h6]) (by rw [len_goFrom, List.length_replicate, lg]) fun o8 o9 h89 => ?_
        refine mq ?_
        refine ⟨.inl rfl, _, _, o8, o9, by simp at h89 ⊢; simp [h89], rfl, ?_⟩
        rw [goFrom_take ht hr]
      · rintro sl rt ⟨o6, o7, o8, o9, h6, rfl, rfl⟩
        rw [enum_len, List.length_map, List.take_length]
        refine mq ?_
        rw [show goFrom (List.replicate (goN w s i).length 0) (goN w s i) w = goN w s (i + 1) by show _ = go w _; unfold go; rw [lg, h.lw]]
        refine ⟨.inl rfl, _, _, _, o6, o7, o8, o9, r4, some (.cl (.lst ((goN w s (i + 1)).map .int))), .inr rfl, rfl, by simp [close, d_ls], by simp at h6 ⊢; simp [h6]⟩
  · rintro sl rt ⟨o2, o4, o5, o6, o7, o8, o9, r4, r7, a2, rfl, rfl, -⟩
    rw [rng_len]
    refine mq ?_
    refine we_f1p (t := .ls (cls ((cnts w s e k).map .int))) rfl (leaves_cls _) ?_
    refine mq ?_
    simp only [ds_ti]
    exact ⟨rfl, rfl⟩
end Mi
namespace Mi
open PySem L2
structure MNum (g : List (Str × D)) (G : List Fn) (isc ac mv ir ini : Nat) : Prop where
  eisc : G[isc]? = some fIsCount
  eac : G[ac]? = some (fAreCounts isc)
  emv : G[mv]? = some (fIsMove isc)
  eir : G[ir]? = some (fIsRow mv)
  eini : G[ini]? = some (fInit ac ir)
  pair : g.lookup ("PAIR_machines" : Str) = some (.int 2)
variable {g : List (Str × D)} {G : List Fn} {isc ac mv ir ini : Nat}
theorem MNum.isc_at (N : MNum g G isc ac mv ir ini) (k : Nat) {i l : Int} (h : l ≤ i) : At (sem g G (k + 1)) isc [.int i, .int l] (.bl true) := at_of N.eisc (iscount_wf h)
theorem MNum.arec_at (N : MNum g G isc ac mv ir ini) (k : Nat) {xs : List Int} (hl : xs.length ≤ 10000) (h : ∀ x ∈ xs, 0 ≤ x) : At (sem g G (k + 2)) ac [dI xs] (.bl true) := at_of N.eac (arecounts_wf (by omega) fun x m => N.isc_at k (h x m))
theorem MNum.ismv_at (N : MNum g G isc ac mv ir ini) (k : Nat) {n : Nat} {p : Nat × Int} (h0 : p.1 < n) (h1 : 1 ≤ p.2) : At (sem g G (k + 2)) mv [.int n, dP p] (.bl true) := at_of N.emv (ismove_wf N.pair h0 (N.isc_at k (by omega)) (N.isc_at k h1))
theorem MNum.isrow_at (N : MNum g G isc ac mv ir ini) (k : Nat) {n : Nat} {row : List (Nat × Int)} (hn : row.length ≤ 10000) (hp : row.Pairwise fun p q => p.1 < q.1) (h : ∀ p ∈ row, p.1 < n ∧ 1 ≤ p.2) : At (sem g G (k + 3)) ir [.int n, dRow row] (.bl true) :=
  at_of N.eir (isrow_wf (by omega) hp fun p m => N.ismv_at k (h p m).1 (h p m).2)
def oMc (cc : Nat) (s : List Int) (w : List (List (Nat × Int))) (e : List Int) : T := .ob cc ["starts", "moves", "ends"] [.cl (dI s), .cl (dMv w), .cl (dI e)]
theorem MNum.mkG (N : MNum g G isc ac mv ir ini) (k cc : Nat) {C : Nat} {s e : List Int} {w : List (List (Nat × Int))} (h : OkMC C s w e) (hl : s.length ≤ 1000) : mkGo (sem g G (k + 4)) cc ini [0, 1, 2, 3] [.inl (dI s), .inl (dMv w), .inl (dI e)] = some (oMc cc s w e) := by
  obtain ⟨u, us, e1, rfl, rfl⟩ := init_wf (g := g) (F := sem g G (k + 3)) (ac := ac) (ir := ir) (cc := cc) h.lw h.le (N.arec_at (k + 1) (by omega) fun x m => (h.bs x m).1) (N.arec_at (k + 1) (by rw [h.le]; omega) fun x m => (h.be x m).1)
    fun row m => N.isrow_at k (by have := h.len row m; omega) (h.pw row m) fun p q => ⟨(h.rg row m p q).1, (h.rg row m p q).2.1⟩
  have : sem g G (k + 4) ini [.ob cc [] [], .cl (dI s), .cl (dMv w), .cl (dI e)] = _ := sem_of N.eini e1
  unfold mkGo
  show (if _ then match sem g G (k + 4) ini [.ob cc [] [], .cl (dI s), .cl (dMv w), .cl (dI e)] with | some (.cl .non, t :: ts) => if ts.length + 1 = _ then some t else none | _ => none else none) = _
  rw [if_pos (by decide), this]
  rfl
theorem MNum.wm (N : MNum g G isc ac mv ir ini) (k cc : Nat) {C : Nat} {s e : List Int} {w : List (List (Nat × Int))} {K : T → Prop} (h : OkMC C s w e) (hl : s.length ≤ 1000) (q : K (oMc cc s w e)) : Wm (sem g G (k + 4)) cc ini [0, 1, 2, 3] [.inl (dI s), .inl (dMv w), .inl (dI e)] K := ⟨_, N.mkG k cc h hl, q⟩
section
variable {C a c i k : Nat} {s e : List Int} {w : List (List (Nat × Int))}
theorem go_atC {go : Nat} (eg : G[go]? = some fGo) (k : Nat) (h : OkMC C s w e) (hl : s.length ≤ 1000) (f : Fits a c i C s.length) : At (sem g G (k + 1)) go [dMv w, dI (goN w s i)] (dI (goN w s (i + 1))) :=
  sem_of eg (go_ok (by rw [h.lw]; omega) fun row m p n => ⟨h.inr row m p n, h.mulW f row m p n⟩)
theorem by_atC {go b : Nat} (eg : G[go]? = some fGo) (eb : G[b]? = some (fBy go)) (k : Nat) (h : OkMC C s w e) (hl : s.length ≤ 1000) (hi : i < 2 ^ 62) (f : Fits a c i C s.length) : At (sem g G (k + 2)) b [dMv w, dI s, .int i] (dI (goN w s i)) :=
  at_of eb (by_wf hi fun j hj => go_atC eg k h hl (f.mono (Nat.le_of_lt hj)))
theorem counted_atC {ct : Nat} (ec : G[ct]? = some fCounted) (k : Nat) (h : OkMC C s w e) (hl : s.length ≤ 1000) (hi : i ≤ 1000) (f : Fits a c i C s.length) : At (sem g G (k + 1)) ct [eng s w e, .int i] (dI (cnts w s e i)) := at_of ec (counted_wf h hl hi f)
end
end Mi
namespace Mi
open PySem L2
variable {g : List (Str × D)} {G : List Fn} {np : Nat} {gl : List (Str × D)} {as : List A} {ps : List T} {Q : T → List A → List T → Prop}
theorem vc_deck {dk k : Nat} (hk : G[dk]? = some fDeckD) {ns : List Int} (q : ∀ t, Dk 0 t → t.isCl = false → Q t as ps) : Vc ⟨sem g G (k + 1), np, gl⟩ dk [0] [.inl (.scr ns)] as ps Q := by
  obtain ⟨u, us, e2, rfl, left, b, rfl, hl⟩ := deck_wf (g := g) (F := sem g G k) ns
  exact vc_call (ys := [.inl (.scr ns)]) (ts := [.cl (.scr ns)]) rfl rfl List.nodup_nil (sem_of hk e2) rfl (q _ ⟨left, b, 0, rfl, hl, by omega, by omega⟩ rfl)
theorem vc_draw {k i dr : Nat} {m s : Int} {t : T} (hd : G[dr]? = some fDrawD) (h : Dk m t) (hm : m < 2 ^ 20) (hs : 0 < s) (hs2 : s < 2 ^ 64) (e : treeA as ps i = some t) (q : ∀ r t', 0 ≤ r → r < s → Dk (m + 1) t' → t'.isCl = false → Q (.cl (.int r)) (putA as ps i t').1 (putA as ps i t').2) :
    Vc ⟨sem g G (k + 1), np, gl⟩ dr [0, 1] [.inr i, .inl (.int s)] as ps Q := by
  obtain ⟨left, b, n, rfl, h1, h2, h3⟩ := h
  obtain ⟨u, us, e2, r, left', b', r0, r1, rfl, rfl, hl⟩ := draw_wf (g := g) (F := sem g G k) h2 (by omega) h1 hs hs2 (b := b)
  exact vc_call (ys := [.inr i, .inl (.int s)]) (ts := [dkD left b n, .cl (.int s)]) rfl (by unfold treesA; rw [e]; rfl) (by simp [slotsOf]) (sem_of hd e2) rfl
    (q r (dkD left' b' (n + 1)) r0 r1 ⟨left', b', n + 1, rfl, hl, by omega, by omega⟩ rfl)
theorem Dk.open {m : Int} {t : T} (h : Dk m t) : t.isCl = false := by
  obtain ⟨a, b, n, rfl, -⟩ := h
  rfl
theorem vc_built {dr bu i : Nat} (hd : G[dr]? = some fDrawD) (hb : G[bu]? = some (fBuilt dr)) {k C : Nat} {t : T} {m top great : Int} (h : Dk m t) (hm : m < 2 ^ 19) (h0 : 0 ≤ top) (h1 : top ≤ 60) (g0 : 1 ≤ great) (g1 : great < 2 ^ 30) (gC : 2 * great ≤ C) (e : treeA as ps i = some t)
    (q : ∀ s w e t', OkMC C s w e → (s.length : Int) ≤ top → Dk (m + 8000) t' → Q (.cl (eng s w e)) (putA as ps i t').1 (putA as ps i t').2) : Vc ⟨sem g G (k + 2), np, gl⟩ bu [0, 1, 2] [.inr i, .inl (.int top), .inl (.int great)] as ps Q := by
  obtain ⟨u, us, e2, t', s, w, e', rfl, rfl, d, ok, hl, -⟩ := built_wf (g := g) (G := G) hd (k := k) h hm h0 h1 g0 g1 gC
  exact vc_call (ys := [.inr i, .inl (.int top), .inl (.int great)]) (ts := [t, .cl (.int top), .cl (.int great)]) rfl (by unfold treesA; rw [e]; rfl) (by simp [slotsOf]) (sem_of hb e2) rfl (q s w e' t' ok hl d)
end Mi
namespace Mi
open PySem L2
def cv (a b : Nat → Int) : Nat → Int
  | 0 => a 0 * b 0
  | n + 1 => a 0 * b (n + 1) + cv (fun i => a (i + 1)) b n
def shift (n : Nat) (row : List (Nat × Int)) : List (Nat × Int) := row.map fun p => (p.1 + n, p.2)
def sparse (xs : List Int) : List (Nat × Int) := (runs0 xs).filter fun p => decide (0 < p.2)
def wJ (w1 w2 : List (List (Nat × Int))) (s2 e1 : List Int) (n : Nat) : List (List (Nat × Int)) := (w1.map fun row => row ++ shift n (sparse (s2.map fun x => val row e1 * x))) ++ w2.map (shift n)
def sJ (s1 s2 : List Int) (a : Int) : List Int := s1 ++ s2.map fun x => a * x
def eJ (n : Nat) (e2 : List Int) : List Int := List.replicate n 0 ++ e2
theorem val_filter (y : List Int) : ∀ l : List (Nat × Int), (∀ p ∈ l, 0 ≤ p.2) → val (l.filter fun p => decide (0 < p.2)) y = val l y
  | [], _ => rfl
  | p :: l, h => by
    have h0 := h p List.mem_cons_self
    have ih := val_filter y l fun q m => h q (List.mem_cons_of_mem _ m)
    by_cases c : 0 < p.2
    · rw [List.filter_cons_of_pos (by simpa using c), val_cons, val_cons, ih]
    · rw [List.filter_cons_of_neg (by simpa using c), val_cons, ih, show p.2 = 0 by omega]
      omega
theorem val_sparse {xs y : List Int} (h : ∀ x ∈ xs, 0 ≤ x) : val (sparse xs) y = dot xs y := by
  unfold sparse
  rw [val_filter, val_runs0]
  intro p m
  obtain ⟨q, hq, rfl⟩ := List.mem_map.mp m
  obtain ⟨h1, h2⟩ := List.mem_zipIdx' hq
  exact h q.1 (h2 ▸ List.getElem_mem _)
theorem len_pull (w : List (List (Nat × Int))) (x : List Int) : (pull w x).length = w.length := by unfold pull; rw [List.length_map]
end Mi
namespace Mi
open PySem L2
variable {c : Cfg} {mv : Bool} {sl : Sl} {rt : Rt} {Q : T → Rt → Prop}
theorem wl_filter {α : Type} (fd ft : α → D) (pr : α → Bool) (xs : List α) {own : List Nat} {tg : Tg} {cond elt : E} (hl : xs.length ≤ 1000000)
    (st : ∀ x ∈ xs, ∃ sl1, bind (wip sl own) tg (fd x) = some sl1 ∧ We c false sl1 cond rt fun t rt' => t = .cl (.bl (pr x)) ∧ rt' = rt ∧ (pr x = true → We c false sl1 elt rt fun t rt' => t = .cl (ft x) ∧ rt' = rt))
    (k : Q (.ls (cls ((xs.filter pr).map ft))) rt) : Wl c sl own tg cond elt (xs.map fd) rt Q := by
  refine wl_ind (fun n ts rt' => rt' = rt ∧ ts = cls (((xs.take n).filter pr).map ft)) _ ⟨rfl, rfl⟩ (by have : sizeLine = 16777216 := rfl; rw [List.length_map]; omega) ?_ ?_
  · rintro n x acc rt' hx ⟨rfl, rfl⟩
    rw [List.getElem?_map] at hx
    obtain ⟨p, hp, rfl⟩ := Option.map_eq_some_iff.mp hx
    obtain ⟨sl1, e1, t, r1, e2, rfl, rfl, e3⟩ := st p (List.mem_of_getElem? hp)
    have et : (xs.take (n + 1)).filter pr = (xs.take n).filter pr ++ if pr p then [p] else [] := by
      rw [List.take_succ, hp, List.filter_append]
      cases e : pr p <;> simp [e]
    refine ⟨sl1, e1, _, _, e2, pr p, rfl, fun h => ?_, fun h => ⟨rfl, ?_⟩⟩
    · obtain ⟨t2, r2, e4, rfl, rfl⟩ := e3 h
      refine ⟨_, _, e4, rfl, ?_⟩
      rw [et, h]
      unfold cls
      simp
    · rw [et, h]
      simp
  · rintro ts rt' ⟨rfl, rfl⟩
    rw [List.length_map, List.take_length]
    exact k
def fSparse : Fn := ⟨1, 3, (.cons (.ret (.f1 .tuple (.lc [1, 2] (.tup [(.var 1), (.var 2)]) (.enum (.get (.var 0))) (.cmp .gt (.get (.var 2)) (.int 0)) (.tup (.cons (.get (.var 1)) (.cons (.get (.var 2)) .nil)))))) .nil)⟩
theorem enum_runs : ∀ (s : List Int) (k : Nat), enumD k (s.map .int) = ((s.zipIdx k).map fun p => (p.2, p.1)).map dP
  | [], k => rfl
  | x :: s, k => by
    rw [List.zipIdx_cons, List.map_cons, List.map_cons, List.map_cons, ← enum_runs s (k + 1)]
    rfl
theorem len_runs0 (s : List Int) : (runs0 s).length = s.length := by unfold runs0; rw [List.length_map, List.length_zipIdx]
theorem sparse_wf {g : List (Str × D)} {F : Fs} {xs : List Int} (hl : xs.length ≤ 100000) : Wf g F fSparse (cls [dI xs]) fun t ts => t = .cl (dRow (sparse xs)) ∧ ts = cls [dI xs] := by
  refine wf_of rfl ?_
  refine mq ?_
  refine ⟨_, .inr rfl, ?_⟩
  rw [enum_runs]
  refine wl_filter dP dP (fun p => decide (0 < p.2)) (runs0 xs) (by rw [len_runs0]; omega) (fun p hp => ?_) ?_
  · refine ⟨_, rfl, ?_⟩
    refine mq ?_
    refine ⟨rfl, rfl, fun _ => ?_⟩
    refine mq ?_
    exact ⟨rfl, rfl⟩
  · refine mq ?_
    simp only [ds_ti]
    exact ⟨rfl, rfl⟩
end Mi
namespace Mi
open PySem L2
theorem pw_runs0 (xs : List Int) : (runs0 xs).Pairwise fun p q => p.1 < q.1 := by
  suffices h : ∀ (xs : List Int) (k : Nat), ((xs.zipIdx k).map fun p => (p.2, p.1)).Pairwise (fun (p q : Nat × Int) => p.1 < q.1) ∧ ∀ p ∈ (xs.zipIdx k).map (fun p => (p.2, p.1)), k ≤ p.1 from (h xs 0).1
  intro xs
  induction xs with
  | nil => exact fun k => ⟨List.Pairwise.nil, fun p m => by cases m⟩
  | cons x xs ih =>
    intro k
    obtain ⟨h1, h2⟩ := ih (k + 1)
    rw [List.zipIdx_cons, List.map_cons]
    refine ⟨List.pairwise_cons.mpr ⟨fun p m => ?_, h1⟩, fun p m => ?_⟩
    · have := h2 p m
      show k < p.1
      omega
    · rcases List.mem_cons.mp m with rfl | m
      · exact Nat.le_refl k
      · have := h2 p m
        omega
theorem mem_runs0 {xs : List Int} {p : Nat × Int} (m : p ∈ runs0 xs) : p.1 < xs.length ∧ p.2 ∈ xs := by
  obtain ⟨q, hq, rfl⟩ := List.mem_map.mp m
  obtain ⟨h1, h2⟩ := List.mem_zipIdx' hq
  exact ⟨h1, h2 ▸ List.getElem_mem _⟩
theorem sparse_mem {xs : List Int} {p : Nat × Int} (m : p ∈ sparse xs) : p.1 < xs.length ∧ p.2 ∈ xs ∧ 1 ≤ p.2 := by
  obtain ⟨h1, h2⟩ := List.mem_filter.mp m
  have := of_decide_eq_true h2
  exact ⟨(mem_runs0 h1).1, (mem_runs0 h1).2, by omega⟩
theorem sparse_pw (xs : List Int) : (sparse xs).Pairwise fun p q => p.1 < q.1 := (pw_runs0 xs).sublist List.filter_sublist
theorem dot_nonneg : ∀ {r e : List Int}, (∀ x ∈ r, 0 ≤ x) → (∀ x ∈ e, 0 ≤ x) → 0 ≤ dot r e
  | [], e, _, _ => Int.le_refl 0
  | x :: r, [], _, _ => by rw [dot_nil']; exact Int.le_refl 0
  | x :: r, y :: e, h, h' => by
    rw [dot_cons]
    have h1 := dot_nonneg (fun z m => h z (List.mem_cons_of_mem _ m)) fun z m => h' z (List.mem_cons_of_mem _ m)
    have := Int.mul_nonneg (h x List.mem_cons_self) (h' y List.mem_cons_self)
    omega
end Mi
namespace Mi
open PySem L2
variable {g : List (Str × D)} {G : List Fn} {isc ac mv ir ini : Nat}
theorem eqD_tups (xs ys : List Int) : eqD (dI xs) (dI ys) = some (decide (xs = ys)) := by
  unfold eqD dI
  rw [py_tup (py_ints xs), py_tup (py_ints ys)]
  simp only
  rw [shaped_tup (lay_map _ lay_int xs), shaped_tup (lay_map _ lay_int ys), Bool.and_self, if_pos rfl]
  simp only [PyData.eqv]
  rw [eqv_ints]
def row (a : Nat → Int) (n : Nat) : List Int := (List.range n).map a
theorem row_get {a : Nat → Int} {n i : Nat} (h : i < n) : (row a n)[i]? = some (a i) := by
  unfold row
  rw [List.getElem?_map, List.getElem?_range h]
  rfl
end Mi
namespace Mi
open PySem L2
end Mi
namespace Mi
open PySem L2
structure Mk where
  s : List Int
  w : List (List (Nat × Int))
  e : List Int
namespace Mk
def d (m : Mk) (cc : Nat) : D := dM cc m.s m.w m.e
def t (m : Mk) (cc : Nat) : T := oMc cc m.s m.w m.e
def g (m : Mk) : D := eng m.s m.w m.e
def c (m : Mk) (i : Nat) : Int := dot (goN m.w m.s i) m.e
abbrev Ok (C : Nat) (m : Mk) : Prop := OkMC C m.s m.w m.e
def J (a b : Mk) : Mk := ⟨sJ a.s b.s (dot a.s a.e), wJ a.w b.w b.s a.e a.s.length, eJ a.s.length b.e⟩
theorem bd {C a c : Nat} {m : Mk} (h : Ok C m) (ha : m.s.length ≤ 2 ^ a) (hc : C ≤ 2 ^ c) (i : Nat) : (m.c i).natAbs ≤ 2 ^ (a + ((2 * a + c) * i + c) + c) := by
  have h1 := h.bd ha hc i
  have h2 : Bd (2 ^ c) m.e := fun x q => by have := h.be x q; omega
  refine Nat.le_trans (bd_dot h1 h2) ?_
  rw [len_goN _ _ h.lw, show a + ((2 * a + c) * i + c) + c = a + (((2 * a + c) * i + c) + c) by omega, Nat.pow_add 2 a, Nat.pow_add 2 ((2 * a + c) * i + c) c]
  exact Nat.mul_le_mul_right _ ha
end Mk
theorem oc_eq_dI {xs ys : List Int} {K : Bool → Prop} (h : K (decide (xs = ys))) : Oc .eq (dI xs) (dI ys) K := oc_eq (eqD_tups xs ys) h
end Mi
namespace Mi
open PySem L2
def unit (n y : Nat) : List Int := (List.range n).map fun i => if i = y then 1 else 0
theorem unit_len (n y : Nat) : (unit n y).length = n := by unfold unit; rw [List.length_map, List.length_range]
theorem unit_zero (n : Nat) : unit (n + 1) 0 = 1 :: List.replicate n 0 := by
  unfold unit
  rw [List.range_succ_eq_map, List.map_cons, List.map_map]
  congr 1
  apply List.ext_getElem?
  intro i
  rw [List.getElem?_map, List.getElem?_replicate]
  by_cases h : i < n
  · rw [List.getElem?_range h, if_pos h]
    rfl
  · rw [List.getElem?_eq_none (by simpa using h), if_neg h]
    rfl
theorem unit_succ (n y : Nat) : unit (n + 1) (y + 1) = 0 :: unit n y := by
  unfold unit
  rw [List.range_succ_eq_map, List.map_cons, List.map_map]
  congr 1
  apply List.map_congr_left
  intro i _
  show (if i + 1 = y + 1 then (1 : Int) else 0) = _
  simp
theorem dot_comm : ∀ a b : List Int, dot a b = dot b a
  | [], b => (dot_nil b).trans (dot_nil' b).symm
  | x :: a, [] => (dot_nil' _).trans (dot_nil _).symm
  | x :: a, y :: b => by rw [dot_cons, dot_cons, dot_comm a b, Int.mul_comm]
theorem dot_unit : ∀ (n y : Nat) (v : List Int), v.length = n → dot (unit n y) v = v.getD y 0
  | 0, y, [], _ => rfl
  | 0, y, _ :: _, h => by cases h
  | n + 1, y, [], h => by cases h
  | n + 1, 0, x :: v, h => by
    rw [unit_zero, dot_cons, dot_zero]
    simp
  | n + 1, y + 1, x :: v, h => by
    rw [unit_succ, dot_cons, dot_unit n y v (by simpa using h)]
    simp
theorem unit_getD (n y i : Nat) : (unit n y).getD i 0 = if i = y ∧ i < n then 1 else 0 := by
  unfold unit
  rw [List.getD_eq_getElem?_getD, List.getElem?_map]
  by_cases h : i < n
  · rw [List.getElem?_range h]
    by_cases e : i = y
    · simp [e, e ▸ h]
    · simp [e]
  · rw [List.getElem?_eq_none (by simpa using h)]
    simp [h]
theorem val_unit_far {n y : Nat} : ∀ row : List (Nat × Int), (∀ p ∈ row, y < p.1) → val row (unit n y) = 0
  | [], _ => rfl
  | p :: row, h => by
    rw [val_cons, unit_getD, if_neg (fun z => by have := h p List.mem_cons_self; omega), val_unit_far row fun q m => h q (List.mem_cons_of_mem _ m)]
    simp
theorem val_unit {n y C : Nat} : ∀ row : List (Nat × Int), row.Pairwise (fun p q => p.1 < q.1) → (∀ p ∈ row, 0 ≤ p.2 ∧ p.2 ≤ (C : Int)) → 0 ≤ val row (unit n y) ∧ val row (unit n y) ≤ (C : Int)
  | [], _, _ => by
    show (0 : Int) ≤ 0 ∧ (0 : Int) ≤ C
    omega
  | p :: row, hp, hc => by
    obtain ⟨h1, h2⟩ := List.pairwise_cons.mp hp
    have h3 := hc p List.mem_cons_self
    rw [val_cons, unit_getD]
    by_cases e : p.1 = y
    · have h4 : val row (unit n y) = 0 := val_unit_far row fun q m => by have := h1 q m; omega
      rw [h4]
      split <;> omega
    · have := val_unit (n := n) (y := y) (C := C) row h2 fun q m => hc q (List.mem_cons_of_mem _ m)
      rw [if_neg (fun z => e z.1)]
      omega
structure Ws1 (n g : Nat) (w : List (List (Nat × Int))) : Prop where
  lw : w.length = n
  pw : ∀ row ∈ w, row.Pairwise fun p q => p.1 < q.1
  rg : ∀ row ∈ w, ∀ p ∈ row, p.1 < n ∧ 0 ≤ p.2 ∧ p.2 ≤ (g : Int)
theorem Ws1.inr {n g : Nat} {w : List (List (Nat × Int))} (h : Ws1 n g w) : InR w := fun row m p q => by rw [h.lw]; exact (h.rg row m p q).1
theorem bd_go1 {n g B : Nat} {w : List (List (Nat × Int))} {r : List Int} (h : Ws1 n g w) (hl : r.length = n) (hr : Bd B r) : Bd (n * (B * g)) (go w r) := by
  intro x m
  obtain ⟨y, hy⟩ := List.mem_iff_getElem?.mp m
  have hl2 : (go w r).length = n := (len_go w r).trans h.lw
  have e : x = dot (go w r) (unit n y) := by
    rw [dot_comm, dot_unit n y _ hl2, List.getD_eq_getElem?_getD, hy]
    rfl
  rw [e, dot_go h.inr]
  have := bd_dot (r := r) (e := pull w (unit n y)) hr (C := g) fun z mz => by
    obtain ⟨row, hrow, rfl⟩ := List.mem_map.mp mz
    have := val_unit (n := n) (y := y) row (h.pw row hrow) fun p q => (h.rg row hrow p q).2
    omega
  rw [hl] at this
  exact this
theorem len_goN1 {n g : Nat} {w : List (List (Nat × Int))} {r : List Int} (h : Ws1 n g w) (hl : r.length = n) (k : Nat) : (goN w r k).length = n := (len_goN w r (h.lw.trans hl.symm) k).trans hl
theorem bd_goN1 {n g B b c : Nat} {w : List (List (Nat × Int))} {r : List Int} (h : Ws1 n g w) (hl : r.length = n) (hr : Bd B r) (hB : B ≤ 2 ^ b) (hc : n * g ≤ 2 ^ c) : ∀ k, Bd (2 ^ (c * k + b)) (goN w r k)
  | 0 => fun x m => by have := hr x m; rw [Nat.mul_zero, Nat.zero_add]; omega
  | k + 1 => fun x m => by
    refine Nat.le_trans (bd_go1 h (len_goN1 h hl k) (bd_goN1 h hl hr hB hc k) x m) ?_
    rw [show c * (k + 1) + b = c + (c * k + b) by rw [Nat.mul_succ]; omega, Nat.pow_add 2 c]
    generalize 2 ^ (c * k + b) = X
    rw [Nat.mul_comm X g, ← Nat.mul_assoc]
    exact Nat.mul_le_mul_right _ hc
theorem go_nn {n g : Nat} {w : List (List (Nat × Int))} {r : List Int} (h : Ws1 n g w) (hl : r.length = n) (hr : ∀ x ∈ r, 0 ≤ x) : ∀ x ∈ go w r, 0 ≤ x := by
  intro x m
  obtain ⟨y, hy⟩ := List.mem_iff_getElem?.mp m
  have hl2 : (go w r).length = n := (len_go w r).trans h.lw
  have e : x = dot (go w r) (unit n y) := by
    rw [dot_comm, dot_unit n y _ hl2, List.getD_eq_getElem?_getD, hy]
    rfl
  rw [e, dot_go h.inr]
  refine dot_nonneg hr fun z mz => ?_
  obtain ⟨row, hrow, rfl⟩ := List.mem_map.mp mz
  exact (val_unit (n := n) (y := y) row (h.pw row hrow) fun p q => (h.rg row hrow p q).2).1
theorem goN_nn {n g : Nat} {w : List (List (Nat × Int))} {r : List Int} (h : Ws1 n g w) (hl : r.length = n) (hr : ∀ x ∈ r, 0 ≤ x) : ∀ k, ∀ x ∈ goN w r k, 0 ≤ x
  | 0 => hr
  | k + 1 => go_nn h (len_goN1 h hl k) (goN_nn h hl hr k)
theorem goN_add (w : List (List (Nat × Int))) (s : List Int) (a : Nat) : ∀ b, goN w (goN w s a) b = goN w s (a + b)
  | 0 => rfl
  | b + 1 => by
    show go w (goN w (goN w s a) b) = go w (goN w s (a + b))
    rw [goN_add w s a b]
theorem pullN_add (w : List (List (Nat × Int))) : ∀ (a b : Nat) (e : List Int), pullN w (pullN w e a) b = pullN w e (a + b)
  | 0, b, e => by rw [Nat.zero_add]; rfl
  | a + 1, b, e => by
    rw [show a + 1 + b = (a + b) + 1 by omega]
    exact pullN_add w a b (pull w e)
theorem len_pullN {n : Nat} {w : List (List (Nat × Int))} (h : w.length = n) : ∀ (k : Nat) (e : List Int), e.length = n → (pullN w e k).length = n
  | 0, e, he => he
  | k + 1, e, he => len_pullN h k _ ((len_pull w e).trans h)
namespace Mk
def shift (m : Mk) (k : Nat) : Mk := ⟨goN m.w m.s k, m.w, m.e⟩
theorem ws {C : Nat} {m : Mk} (h : Ok C m) : Ws1 m.s.length C m.w := ⟨h.lw, h.pw, fun row r p q => by have := h.rg row r p q; omega⟩
def steps (m : Mk) (st rs : Nat) : Mk := ⟨goN m.w m.s rs, (List.range m.s.length).map fun x => sparse (goN m.w (unit m.s.length x) st), m.e⟩
theorem pull_steps {C : Nat} {m : Mk} (h : Ok C m) (st rs : Nat) (e : List Int) (he : e.length = m.s.length) : pull (m.steps st rs).w e = pullN m.w e st := by
  have hw := ws h
  apply List.ext_getElem?
  intro y
  show ((((List.range m.s.length).map fun x => sparse (goN m.w (unit m.s.length x) st)).map fun row => val row e)[y]?) = _
  rw [List.map_map, List.getElem?_map]
  have hlp : (pullN m.w e st).length = m.s.length := len_pullN h.lw st e he
  by_cases hy : y < m.s.length
  · rw [List.getElem?_range hy, List.getElem?_eq_getElem (by omega)]
    show some (val (sparse (goN m.w (unit m.s.length y) st)) e) = _
    have nn : ∀ x ∈ goN m.w (unit m.s.length y) st, 0 ≤ x := goN_nn hw (unit_len _ _) (fun x r => by
      obtain ⟨i, -, rfl⟩ := List.mem_map.mp r
      split <;> omega) st
    rw [val_sparse nn, dot_goN h.inr, dot_unit _ _ _ hlp, List.getD_eq_getElem?_getD, List.getElem?_eq_getElem (by omega)]
    rfl
  · rw [List.getElem?_eq_none (by simpa using hy), List.getElem?_eq_none (by omega)]
    rfl
theorem pullN_steps {C : Nat} {m : Mk} (h : Ok C m) (st rs : Nat) : ∀ (i : Nat) (e : List Int), e.length = m.s.length → pullN (m.steps st rs).w e i = pullN m.w e (st * i)
  | 0, e, _ => rfl
  | i + 1, e, he => by
    show pullN _ (pull (m.steps st rs).w e) i = _
    rw [pull_steps h st rs e he, pullN_steps h st rs i _ (len_pullN h.lw st e he), pullN_add, Nat.mul_succ, Nat.add_comm]
theorem inr_steps {C : Nat} {m : Mk} (h : Ok C m) (st rs : Nat) : InR (m.steps st rs).w := by
  intro row hr p hp
  have hl : (m.steps st rs).w.length = m.s.length := by
    show ((List.range m.s.length).map _).length = _
    rw [List.length_map, List.length_range]
  obtain ⟨x, -, rfl⟩ := List.mem_map.mp hr
  have := (sparse_mem hp).1
  rw [len_goN1 (ws h) (unit_len _ _)] at this
  rw [hl]
  exact this
theorem c_steps {C : Nat} {m : Mk} (h : Ok C m) (st rs i : Nat) : (m.steps st rs).c i = m.c (rs + st * i) := by
  show dot (goN (m.steps st rs).w (goN m.w m.s rs) i) m.e = dot (goN m.w m.s (rs + st * i)) m.e
  rw [dot_goN (inr_steps h st rs), pullN_steps h st rs i _ h.le, ← dot_goN h.inr, goN_add]
theorem ok_steps {C b c k st rs : Nat} {m : Mk} (h : Ok C m) (hC : C ≤ 2 ^ b) (hc : m.s.length * C ≤ 2 ^ c) (h1 : st ≤ k) (h2 : rs ≤ k) : Ok (2 ^ (c * k + b)) (m.steps st rs) := by
  have hw := ws h
  have up : ∀ {j : Nat} {x : Int}, j ≤ k → x.natAbs ≤ 2 ^ (c * j + b) → x.natAbs ≤ 2 ^ (c * k + b) := fun hj hx =>
    Nat.le_trans hx (Nat.pow_le_pow_right (by decide) (by have := Nat.mul_le_mul_left c hj; omega))
  have hl : (goN m.w m.s rs).length = m.s.length := len_goN1 hw rfl rs
  have hle : C ≤ 2 ^ (c * k + b) := Nat.le_trans hC (Nat.pow_le_pow_right (by decide) (by omega))
  refine ⟨?_, h.le.trans hl.symm, fun x r => ?_, fun x r => ?_, fun row r => ?_, fun row r p q => ?_⟩
  · show ((List.range m.s.length).map _).length = _
    rw [List.length_map, List.length_range]
    exact hl.symm
  · have a1 := goN_nn hw rfl (fun x r => (h.bs x r).1) rs x r
    have a2 := up h2 (bd_goN1 hw rfl (B := C) (fun x r => by have := h.bs x r; omega) hC hc rs x r)
    omega
  · have := h.be x r
    omega
  · obtain ⟨x, -, rfl⟩ := List.mem_map.mp r
    exact sparse_pw _
  · obtain ⟨x, -, rfl⟩ := List.mem_map.mp r
    obtain ⟨q1, q2, q3⟩ := sparse_mem q
    have hu : Bd 1 (unit m.s.length x) := fun y r => by
      obtain ⟨i, -, rfl⟩ := List.mem_map.mp r
      split <;> decide
    have a2 := up h1 (bd_goN1 hw (unit_len _ x) hu (Nat.one_le_two_pow) hc st p.2 q2)
    rw [len_goN1 hw (unit_len _ _)] at q1
    show p.1 < (goN m.w m.s rs).length ∧ _
    omega
def behind (m : Mk) (ns : List Int) : Mk := if ns = [] then m else ⟨1 :: List.replicate (ns.length - 1 + m.s.length) 0, ((List.range (ns.length - 1)).map fun p => [(p + 1, 1)]) ++ (Mi.shift ns.length (sparse m.s) :: m.w.map (Mi.shift ns.length)), ns ++ m.e⟩
end Mk
end Mi
namespace Mi
open PySem L2
def kp (x y : List Int) : List Int := x.flatMap fun p => y.map fun q => p * q
def krow (n : Nat) (row mate : List (Nat × Int)) : List (Nat × Int) := row.flatMap fun p => mate.map fun q => (p.1 * n + q.1, p.2 * q.2)
def kw (n : Nat) (w v : List (List (Nat × Int))) : List (List (Nat × Int)) := w.flatMap fun row => v.map fun mate => krow n row mate
theorem len_kp : ∀ x y : List Int, (kp x y).length = x.length * y.length
  | [], y => by simp [kp]
  | p :: x, y => by
    unfold kp
    rw [List.flatMap_cons, List.length_append, List.length_map]
    have := len_kp x y
    unfold kp at this
    rw [this, List.length_cons, Nat.succ_mul, Nat.add_comm]
theorem kw_mem {n : Nat} {w w' : List (List (Nat × Int))} {r : List (Nat × Int)} (m : r ∈ kw n w w') : ∃ row ∈ w, ∃ mate ∈ w', r = krow n row mate := by
  obtain ⟨row, h1, h2⟩ := List.mem_flatMap.mp m
  obtain ⟨mate, h3, rfl⟩ := List.mem_map.mp h2
  exact ⟨row, h1, mate, h3, rfl⟩
theorem krow_mem {n : Nat} {row mate : List (Nat × Int)} {r : Nat × Int} (m : r ∈ krow n row mate) : ∃ p ∈ row, ∃ q ∈ mate, r = (p.1 * n + q.1, p.2 * q.2) := by
  obtain ⟨row, h1, h2⟩ := List.mem_flatMap.mp m
  obtain ⟨mate, h3, rfl⟩ := List.mem_map.mp h2
  exact ⟨row, h1, mate, h3, rfl⟩
theorem len_kw (n : Nat) (w' : List (List (Nat × Int))) : ∀ w : List (List (Nat × Int)), (kw n w w').length = w.length * w'.length
  | [] => by simp [kw]
  | row :: w => by
    unfold kw
    rw [List.flatMap_cons, List.length_append, List.length_map]
    have := len_kw n w' w
    unfold kw at this
    rw [this, List.length_cons, Nat.succ_mul, Nat.add_comm]
theorem kpos_lt {i j n m : Nat} (h1 : i < m) (h2 : j < n) : i * n + j < m * n := by
  have := Nat.mul_le_mul_right n (Nat.succ_le_of_lt h1)
  rw [Nat.succ_mul] at this
  omega
theorem mul_bds {x y : Int} {C D : Nat} (h1 : 0 ≤ x ∧ x ≤ C) (h2 : 0 ≤ y ∧ y ≤ D) : 0 ≤ x * y ∧ x * y ≤ ((C * D : Nat) : Int) := by
  refine ⟨Int.mul_nonneg h1.1 h2.1, ?_⟩
  rw [Int.natCast_mul]
  exact Int.mul_le_mul h1.2 h2.2 h2.1 (by omega)
theorem kp_mem {x y : List Int} {z : Int} (m : z ∈ kp x y) : ∃ p ∈ x, ∃ q ∈ y, z = p * q := by
  obtain ⟨row, h1, h2⟩ := List.mem_flatMap.mp m
  obtain ⟨mate, h3, rfl⟩ := List.mem_map.mp h2
  exact ⟨row, h1, mate, h3, rfl⟩
theorem krow_pw {n : Nat} {mate : List (Nat × Int)} (h2 : mate.Pairwise fun p q => p.1 < q.1) (hn : ∀ q ∈ mate, q.1 < n) : ∀ row : List (Nat × Int), row.Pairwise (fun p q => p.1 < q.1) → (krow n row mate).Pairwise fun p q => p.1 < q.1
  | [], _ => List.Pairwise.nil
  | p :: row, h => by
    obtain ⟨h3, h4⟩ := List.pairwise_cons.mp h
    unfold krow
    rw [List.flatMap_cons]
    refine List.pairwise_append.mpr ⟨List.pairwise_map.mpr (h2.imp fun h => by show p.1 * n + _ < p.1 * n + _; omega), krow_pw h2 hn row h4, fun a ha b hb => ?_⟩
    obtain ⟨q, hq, rfl⟩ := List.mem_map.mp ha
    obtain ⟨p', hp', q', hq', rfl⟩ := krow_mem hb
    have := kpos_lt (h3 p' hp') (hn q hq)
    show p.1 * n + q.1 < p'.1 * n + q'.1
    omega
namespace Mk
def A (a b : Mk) : Mk := ⟨a.s ++ b.s, a.w ++ b.w.map (Mi.shift a.s.length), a.e ++ b.e⟩
def P (a b : Mk) : Mk := ⟨kp a.s b.s, kw b.s.length a.w b.w, kp a.e b.e⟩
theorem len_P (a b : Mk) : (P a b).s.length = a.s.length * b.s.length := len_kp ..
theorem okP {C D : Nat} {a b : Mk} (h1 : Ok C a) (h2 : Ok D b) : Ok (C * D) (P a b) := by
  have hl := len_P a b
  refine ⟨?_, ?_, fun x m => ?_, fun x m => ?_, fun row m => ?_, fun row m p q => ?_⟩
  · rw [hl]
    show (kw _ _ _).length = _
    rw [len_kw, h1.lw, h2.lw]
  · rw [hl]
    show (kp _ _).length = _
    rw [len_kp, h1.le, h2.le]
  · obtain ⟨p, hp, q, hq, rfl⟩ := kp_mem m
    exact mul_bds (h1.bs p hp) (h2.bs q hq)
  · obtain ⟨p, hp, q, hq, rfl⟩ := kp_mem m
    exact mul_bds (h1.be p hp) (h2.be q hq)
  · obtain ⟨r, hr, t, ht, rfl⟩ := kw_mem m
    exact krow_pw (h2.pw t ht) (fun q hq => (h2.rg t ht q hq).1) r (h1.pw r hr)
  · rw [hl]
    obtain ⟨r, hr, t, ht, rfl⟩ := kw_mem m
    obtain ⟨x, hx, y, hy, rfl⟩ := krow_mem q
    have a1 := h1.rg r hr x hx
    have a2 := h2.rg t ht y hy
    have a3 := mul_bds (x := x.2) (y := y.2) (C := C) (D := D) (by omega) (by omega)
    refine ⟨kpos_lt a1.1 a2.1, ?_, a3.2⟩
    have := Int.mul_pos (a := x.2) (b := y.2) (by omega) (by omega)
    show 1 ≤ x.2 * y.2
    omega
def R (n : Nat) : Mk := ⟨1 :: List.replicate (n - 1) 0, (List.range n).map fun x => [((x + 1) % n, 1)], (List.range n).map fun (x : Nat) => (x : Int) + 1⟩
end Mk
end Mi
set_option maxHeartbeats 4000000
namespace Mi
open PySem L2
def pP (p : Nat × Int) : PyData := .tuple ([(p.1 : Int), p.2].map .int)
def pRw (r : List (Nat × Int)) : PyData := .tuple (r.map pP)
theorem py_dP (p : Nat × Int) : (dP p).py = some (pP p) := py_tup (py_ints [(p.1 : Int), p.2])
theorem py_dRow (r : List (Nat × Int)) : (dRow r).py = some (pRw r) := py_tup (pys_map dP pP py_dP r)
theorem py_dMv (w : List (List (Nat × Int))) : (dMv w).py = some (.tuple (w.map pRw)) := py_tup (pys_map dRow pRw py_dRow w)
theorem py_dI (xs : List Int) : (dI xs).py = some (.tuple (xs.map .int)) := py_tup (py_ints xs)
end Mi
set_option maxHeartbeats 4000000
namespace Mi
open PySem L2
section
variable {g : List (Str × D)} {G : List Fn} {isc ac imv ir ini mv sd pr ao ad ml cc : Nat} {C C2 k : Nat} {a b : Mk}
end
end Mi
namespace Mi
open PySem L2
def trow (y : Nat) : Nat → List (List (Nat × Int)) → List (Nat × Int)
  | _, [] => []
  | k, row :: w => ((row.filter fun p => decide (p.1 = y)).map fun p => (k, p.2)) ++ trow y (k + 1) w
def tr (n : Nat) (w : List (List (Nat × Int))) : List (List (Nat × Int)) := (List.range n).map fun y => trow y 0 w
theorem val_const (k : Nat) (s : List Int) : ∀ row : List (Nat × Int), val (row.map fun p => (k, p.2)) s = s.getD k 0 * (row.map (·.2)).sum
  | [] => by show (0 : Int) = _ * 0; rw [Int.mul_zero]
  | p :: row => by
    rw [List.map_cons, val_cons, val_const k s row, List.map_cons, List.sum_cons, Int.mul_add, Int.mul_comm]
theorem val_unitF {n y : Nat} (hy : y < n) : ∀ row : List (Nat × Int), val row (unit n y) = ((row.filter fun p => decide (p.1 = y)).map (·.2)).sum
  | [] => rfl
  | p :: row => by
    rw [val_cons, unit_getD, val_unitF hy row, List.filter_cons]
    by_cases e : p.1 = y
    · rw [if_pos ⟨e, by omega⟩, if_pos (decide_eq_true e), List.map_cons, List.sum_cons, Int.mul_one]
    · rw [if_neg (fun z => e z.1), if_neg (by simpa using e), Int.mul_zero, Int.zero_add]
theorem val_trow {n y : Nat} (hy : y < n) (s : List Int) : ∀ (w : List (List (Nat × Int))) (k : Nat), s.length = k + w.length → val (trow y k w) s = dot (s.drop k) (w.map fun row => val row (unit n y))
  | [], k, h => by
    rw [List.map_nil, dot_nil']
    rfl
  | row :: w, k, h => by
    rw [List.length_cons] at h
    have hk : k < s.length := by omega
    unfold trow
    rw [val_app, val_const, ← val_unitF hy, List.map_cons, List.drop_eq_getElem_cons hk, dot_cons, val_trow hy s w (k + 1) (by omega), List.getD_eq_getElem?_getD, List.getElem?_eq_getElem hk]
    rfl
theorem pull_tr {n : Nat} {w : List (List (Nat × Int))} (h : InR w) (hw : w.length = n) {s : List Int} (hs : s.length = n) : pull (tr n w) s = go w s := by
  apply List.ext_getElem?
  intro y
  have hl : (go w s).length = n := (len_go w s).trans hw
  unfold pull tr
  rw [List.map_map, List.getElem?_map]
  by_cases hy : y < n
  · rw [List.getElem?_range hy, List.getElem?_eq_getElem (by omega)]
    show some (val (trow y 0 w) s) = _
    have e : (go w s)[y]'(by omega) = dot (go w s) (unit n y) := by
      rw [dot_comm, dot_unit n y _ hl, List.getD_eq_getElem?_getD, List.getElem?_eq_getElem (by omega)]
      rfl
    rw [val_trow hy s w 0 (by omega), e, dot_go h, List.drop_zero]
    rfl
  · rw [List.getElem?_eq_none (by simpa using hy), List.getElem?_eq_none (by omega)]
    rfl
theorem trow_mem {y : Nat} {p : Nat × Int} : ∀ {w : List (List (Nat × Int))} {k : Nat}, p ∈ trow y k w → k ≤ p.1 ∧ ∃ row, w[p.1 - k]? = some row ∧ (y, p.2) ∈ row
  | [], k, m => by cases m
  | row :: w, k, m => by
    unfold trow at m
    rcases List.mem_append.mp m with m | m
    · obtain ⟨q, hq, rfl⟩ := List.mem_map.mp m
      obtain ⟨h1, h2⟩ := List.mem_filter.mp hq
      have h2 := of_decide_eq_true h2
      refine ⟨Nat.le_refl _, row, ?_, ?_⟩
      · rw [Nat.sub_self]
        rfl
      · rw [← h2]
        exact h1
    · obtain ⟨h1, r, h2, h3⟩ := trow_mem m
      refine ⟨by omega, r, ?_, h3⟩
      rw [show p.1 - k = (p.1 - (k + 1)) + 1 by omega]
      exact h2
theorem trow_pw {y : Nat} : ∀ (w : List (List (Nat × Int))) (k : Nat), (∀ row ∈ w, row.Pairwise fun p q => p.1 < q.1) → (trow y k w).Pairwise fun p q => p.1 < q.1
  | [], k, h => .nil
  | row :: w, k, h => by
    unfold trow
    refine List.pairwise_append.mpr ⟨?_, trow_pw w (k + 1) fun r m => h r (List.mem_cons_of_mem _ m), fun a ha b hb => ?_⟩
    · -- one at most
      have hr := h row List.mem_cons_self
      generalize hF : (row.filter fun p => decide (p.1 = y)) = F
      have hF1 : F.Pairwise fun p q => p.1 < q.1 := by rw [← hF]; exact hr.filter _
      have hF2 : ∀ p ∈ F, p.1 = y := fun p m => by
        rw [← hF] at m
        exact of_decide_eq_true (List.mem_filter.mp m).2
      cases F with
      | nil => exact .nil
      | cons a F =>
        cases F with
        | nil => exact List.pairwise_singleton ..
        | cons b F =>
          have h1 := (List.pairwise_cons.mp hF1).1 b List.mem_cons_self
          have h2 := hF2 a List.mem_cons_self
          have h3 := hF2 b (List.mem_cons_of_mem _ List.mem_cons_self)
          omega
    · obtain ⟨q, hq, rfl⟩ := List.mem_map.mp ha
      have := (trow_mem hb).1
      show k < b.1
      omega
theorem trow_of {y : Nat} {p : Nat × Int} : ∀ {w : List (List (Nat × Int))} {k : Nat} {row : List (Nat × Int)}, k ≤ p.1 → w[p.1 - k]? = some row → (y, p.2) ∈ row → p ∈ trow y k w
  | [], k, row, h, e, m => by cases e
  | r :: w, k, row, h, e, m => by
    unfold trow
    by_cases hk : p.1 = k
    · refine List.mem_append_left _ (List.mem_map.mpr ⟨(y, p.2), List.mem_filter.mpr ⟨?_, decide_eq_true rfl⟩, ?_⟩)
      · rw [hk, Nat.sub_self] at e
        cases e
        exact m
      · rw [← hk]
    · refine List.mem_append_right _ (trow_of (row := row) (by omega) ?_ m)
      rw [show p.1 - k = (p.1 - (k + 1)) + 1 by omega] at e
      exact e
theorem trow_iff {y : Nat} {p : Nat × Int} {w : List (List (Nat × Int))} : p ∈ trow y 0 w ↔ ∃ row, w[p.1]? = some row ∧ (y, p.2) ∈ row :=
  ⟨fun m => (trow_mem m).2, fun ⟨row, h1, h2⟩ => trow_of (Nat.zero_le _) h1 h2⟩
theorem pw_nodup {a : List (Nat × Int)} (h : a.Pairwise fun p q => p.1 < q.1) : a.Nodup := h.imp fun h e => by rw [e] at h; exact Nat.lt_irrefl _ h
theorem pw_ext {a b : List (Nat × Int)} (ha : a.Pairwise fun p q => p.1 < q.1) (hb : b.Pairwise fun p q => p.1 < q.1) (h : ∀ p, p ∈ a ↔ p ∈ b) : a = b :=
  List.Perm.eq_of_pairwise (le := fun p q : Nat × Int => p.1 < q.1) (fun x y _ _ h1 h2 => absurd h1 (Nat.lt_asymm h2)) ha hb ((List.perm_ext_iff_of_nodup (pw_nodup ha) (pw_nodup hb)).mpr h)
theorem tr_get {n : Nat} {w : List (List (Nat × Int))} {y : Nat} {row : List (Nat × Int)} : (tr n w)[y]? = some row ↔ y < n ∧ row = trow y 0 w := by
  unfold tr
  rw [List.getElem?_map]
  by_cases hy : y < n
  · rw [List.getElem?_range hy]
    exact ⟨fun e => ⟨hy, (Option.some.inj e).symm⟩, fun e => congrArg some e.2.symm⟩
  · rw [List.getElem?_eq_none (by simpa using hy)]
    exact ⟨fun e => (by cases e), fun e => absurd e.1 hy⟩
theorem tr_tr {n : Nat} {w : List (List (Nat × Int))} (hw : w.length = n) (hp : ∀ row ∈ w, row.Pairwise fun p q => p.1 < q.1) (hr : ∀ row ∈ w, ∀ p ∈ row, p.1 < n) : tr n (tr n w) = w := by
  apply List.ext_getElem?
  intro x
  by_cases hx : x < n
  · rw [tr_get.mpr ⟨hx, rfl⟩, List.getElem?_eq_getElem (by omega)]
    have hm : w[x]'(by omega) ∈ w := List.getElem_mem _
    refine congrArg some (pw_ext (trow_pw _ _ fun r m => ?_) (hp _ hm) fun p => ?_)
    · obtain ⟨y, -, rfl⟩ := List.mem_map.mp m
      exact trow_pw _ _ hp
    · rw [trow_iff]
      constructor
      · rintro ⟨row, h1, h2⟩
        obtain ⟨h3, rfl⟩ := tr_get.mp h1
        obtain ⟨row, h4, h5⟩ := trow_iff.mp h2
        have h4 : w[x]? = some row := h4
        rw [List.getElem?_eq_getElem (by omega)] at h4
        cases h4
        exact h5
      · intro m
        refine ⟨_, tr_get.mpr ⟨hr _ hm p m, rfl⟩, trow_iff.mpr ⟨_, ?_, m⟩⟩
        exact List.getElem?_eq_getElem (by omega)
  · rw [List.getElem?_eq_none (by unfold tr; simpa using hx), List.getElem?_eq_none (by omega)]
namespace Mk
def T (m : Mk) : Mk := ⟨m.e, tr m.s.length m.w, m.s⟩
theorem len_T {C : Nat} {m : Mk} (h : Ok C m) : (T m).s.length = m.s.length := h.le
theorem okT {C : Nat} {m : Mk} (h : Ok C m) : Ok C (T m) := by
  have hl := len_T h
  refine ⟨?_, h.le.symm, h.be, h.bs, fun row m => ?_, fun row m p q => ?_⟩
  · rw [hl]
    show ((List.range _).map _).length = _
    rw [List.length_map, List.length_range]
  · obtain ⟨y, -, rfl⟩ := List.mem_map.mp m
    exact trow_pw _ _ h.pw
  · rw [hl]
    obtain ⟨y, -, rfl⟩ := List.mem_map.mp m
    obtain ⟨-, row, h1, h2⟩ := trow_mem q
    have h3 := h.rg row (List.mem_of_getElem? h1) _ h2
    have h4 := (List.getElem?_eq_some_iff.mp h1).1
    rw [h.lw] at h4
    exact ⟨by omega, h3.2⟩
theorem pullN_tr {C : Nat} {m : Mk} (h : Ok C m) : ∀ (k : Nat) (s : List Int), s.length = m.s.length → pullN (tr m.s.length m.w) s k = goN m.w s k
  | 0, s, hs => rfl
  | k + 1, s, hs => by
    show pullN _ (pull (tr m.s.length m.w) s) k = _
    rw [pull_tr h.inr h.lw hs, pullN_tr h k _ ((len_go _ _).trans h.lw)]
    have : ∀ k, goN m.w (go m.w s) k = goN m.w s (k + 1) := fun k => by
      rw [show go m.w s = goN m.w s 1 from rfl, goN_add, Nat.add_comm]
    exact this k
theorem cT {C : Nat} {m : Mk} (h : Ok C m) (n : Nat) : (T m).c n = m.c n := by
  show dot (goN (T m).w (T m).s n) (T m).e = dot (goN m.w m.s n) m.e
  rw [dot_goN (okT h).inr]
  show dot m.e (pullN (tr m.s.length m.w) m.s n) = _
  rw [pullN_tr h n _ rfl, dot_comm]
theorem TT {C : Nat} {m : Mk} (h : Ok C m) : T (T m) = m := by
  show (⟨m.s, tr m.e.length (tr m.s.length m.w), m.e⟩ : Mk) = m
  rw [h.le, tr_tr h.lw h.pw fun row m p q => (h.rg row m p q).1]
end Mk
end Mi
namespace Mi
open PySem L2
inductive Rch (w : List (List (Nat × Int))) (s : List Int) : Nat → Prop
  | st {x : Nat} : 0 < s.getD x 0 → Rch w s x
  | go {x : Nat} {row : List (Nat × Int)} {p : Nat × Int} : Rch w s x → w[x]? = some row → p ∈ row → Rch w s p.1
end Mi
namespace Mi
open PySem L2
def cutRow (K : List Nat) (row : List (Nat × Int)) : List (Nat × Int) := (row.filter fun p => decide (p.1 ∈ K)).map fun p => (K.idxOf p.1, p.2)
namespace Mk
def cut (m : Mk) (K : List Nat) : Mk := ⟨K.map fun x => m.s.getD x 0, K.map fun x => cutRow K (m.w.getD x []), K.map fun x => m.e.getD x 0⟩
end Mk
structure Mat (m : Mk) (P : Nat → Bool) : Prop where
  iff : ∀ x, x < m.s.length → (P x = true ↔ Rch m.w m.s x ∧ Rch (tr m.s.length m.w) m.e x)
end Mi
namespace Mi
open PySem L2
theorem Mat.turn {C : Nat} {m : Mk} (h : m.Ok C) {P : Nat → Bool} (M : Mat m P) : Mat m.T P := ⟨fun x hx => by
  have hx : x < m.e.length := hx
  rw [h.le] at hx
  have e : tr m.T.s.length m.T.w = m.w := by
    show tr m.e.length (tr m.s.length m.w) = m.w
    rw [h.le]
    exact tr_tr h.lw h.pw fun row q p hp => (h.rg row q p hp).1
  rw [e, M.iff x hx]
  exact And.comm⟩
end Mi
set_option maxHeartbeats 4000000
namespace Mi
open PySem L2
def fSteps (sp b : Nat) : Fn := ⟨3, 8, (.cons (.par 3 4 (.x (.len (.at (.var 0) "starts"))) (.lst .nil)) (.cons (.fr (.var 5) (.rng1 (.get (.var 3))) (.cons (.asg 6 (.f1 .tuple (.lc [7] (.var 7) (.rng1 (.get (.var 3))) (.bl true) (.f1 .int (.cmp .eq (.get (.var 7)) (.get (.var 5))))))) (.cons (.app (.var 4) (.call sp (.cons (.call b (.cons (.get (.at (.var 0) "moves")) (.cons (.get (.var 6)) (.cons (.get (.var 1)) .nil))) .nil [0, 1, 2]) .nil) .nil [0])) .nil))) (.cons (.ret (.tup (.cons (.call b (.cons (.get (.at (.var 0) "moves")) (.cons (.get (.at (.var 0) "starts")) (.cons (.get (.var 2)) .nil))) .nil [0, 1, 2]) (.cons (.f1p .tuple (.var 4)) (.cons (.get (.at (.var 0) "ends")) .nil))))) .nil)))⟩
theorem len_cls (xs : List D) : (cls xs).length = xs.length := by unfold cls; rw [List.length_map]
theorem steps_wf {g : List (Str × D)} {F : Fs} {sp b cc st rs : Nat} {m : Mk} (hl : m.s.length ≤ 1000) (hU : ∀ x, x < m.s.length → At F b [dMv m.w, dI (unit m.s.length x), .int st] (dI (goN m.w (unit m.s.length x) st)))
    (hS : ∀ x, x < m.s.length → At F sp [dI (goN m.w (unit m.s.length x) st)] (dRow (sparse (goN m.w (unit m.s.length x) st)))) (hR : At F b [dMv m.w, dI m.s, .int rs] (dI (goN m.w m.s rs))) :
    Wf g F (fSteps sp b) (cls [m.d cc, .int st, .int rs]) fun t ts => t = .cl (m.steps st rs).g ∧ ts = cls [m.d cc, .int st, .int rs] := by
  refine vf_of rfl rfl ?_
  have z : sizeLine = 16777216 := rfl
  refine vq ?_
  rw [List.length_map, Int.toNat_natCast]
  refine vg_ind (fun i as ps => as = [.p, .p, .p, .v (.int m.s.length), .o (.ls (cls (((List.range i).map fun x => sparse (goN m.w (unit m.s.length x) st)).map dRow))), .any, .any, .any] ∧ ps = cls [m.d cc, .int st, .int rs]) _ ⟨_, ?_, rfl, rfl⟩ ?_ ?_
  · (repeat (first | exact Les.nil | refine Les.any ?_ | refine Les.same ?_ | refine Les.v ?_ | refine Les.o rfl ?_ | refine Les.o (d_ls _) ?_ | refine Les.p rfl ?_))
  · rintro i x as ps hx ⟨rfl, rfl⟩
    obtain ⟨hi, rfl⟩ := rng_get hx
    refine ⟨_, rfl, ?_⟩
    refine vq ?_
    rw [Int.toNat_natCast]
    unfold rngD
    apply vl_mapE (fun j : Nat => .int (0 + (j : Int))) (fun j => .int (if j = i then 1 else 0)) (List.range m.s.length) rfl (by rw [List.length_range]; omega)
    · (repeat (first | exact nf_nil rfl | (apply nf_cons; · exact rfl)))
    · intro j hj
      refine ⟨_, rfl, ?_⟩
      refine vq ?_
      refine ⟨rfl, ?_⟩
      refine vq ?_
      refine ⟨?_, rfl, rfl⟩
      by_cases e : j = i
      · subst e
        simp
      · have : ¬ ((j : Int) = i) := by omega
        simp [this, e]
    · rw [map_int (fun j => if j = i then 1 else 0)]
      refine vq ?_
      simp only [ds_ti]
      refine vc_at (hU i hi) rfl ?_
      refine vq ?_
      refine vc_at (hS i hi) rfl ?_
      refine ⟨_, _, _, rfl, ?_, rfl, ?_⟩
      · rw [len_cls, List.length_map, List.length_map, List.length_range]
        omega
      · refine vq ?_
        refine ⟨_, ?_, rfl, rfl⟩
        rw [List.range_succ, List.map_append, List.map_append]
        unfold cls
        rw [List.map_append]
        (repeat (first | exact Les.nil | refine Les.any ?_ | refine Les.same ?_ | refine Les.v ?_ | refine Les.o rfl ?_ | refine Les.o (d_ls _) ?_ | refine Les.p rfl ?_))
  · rintro as ps ⟨rfl, rfl⟩
    rw [rng_len]
    refine vq ?_
    refine vc_at hR rfl ?_
    refine vq ?_
    refine ve_f1p rfl rfl (leaves_cls _) ?_
    refine vq ?_
    simp only [ds_ti]
    exact ⟨rfl, rfl⟩
section
variable {g : List (Str × D)} {G : List Fn} {isc ac imv ir ini go b sp mv bn st sh bh sc cc : Nat} {C C' a c k : Nat} {m : Mk}
end
end Mi
set_option maxHeartbeats 4000000
namespace Mi
open PySem L2
theorem atI_ofN {α : Type} {xs : List α} {i : Nat} {x : α} (h : xs[i]? = some x) : atI xs (i : Int) = some x := by
  unfold atI
  rw [ixN_of (List.getElem?_eq_some_iff.mp h).1]
  exact h
theorem trow_snoc (y : Nat) (row : List (Nat × Int)) : ∀ (w : List (List (Nat × Int))) (k : Nat), trow y k (w ++ [row]) = trow y k w ++ ((row.filter fun p => decide (p.1 = y)).map fun p => (k + w.length, p.2))
  | [], k => by
    show trow y k [row] = _
    unfold trow
    simp [trow]
  | r :: w, k => by
    rw [List.cons_append]
    unfold trow
    rw [trow_snoc y row w (k + 1), List.append_assoc, List.length_cons, show k + 1 + w.length = k + (w.length + 1) by omega]
def fTurnA : Fn := ⟨1, 6, (.cons (.asg 1 (.lc [2] (.var 2) (.seq (.get (.at (.var 0) "starts"))) (.bl true) (.lst .nil))) (.cons (.fr (.tup [(.var 2), (.var 3)]) (.enum (.get (.at (.var 0) "moves"))) (.cons (.fr (.tup [(.var 4), (.var 5)]) (.seq (.get (.var 3))) (.cons (.app (.ix (.var 1) (.rd (.var 4))) (.tup (.cons (.get (.var 2)) (.cons (.get (.var 5)) .nil)))) .nil)) .nil)) (.cons (.ret (.tup (.cons (.get (.at (.var 0) "ends")) (.cons (.f1 .tuple (.lc [3] (.var 3) (.seq (.get (.var 1))) (.bl true) (.f1 .tuple (.get (.var 3))))) (.cons (.get (.at (.var 0) "starts")) .nil))))) .nil)))⟩
theorem map_set {α : Type} {n y : Nat} (hy : y < n) {f g : Nat → α} {v : α} (h1 : g y = v) (h2 : ∀ z, z ≠ y → g z = f z) : ((List.range n).map f).set y v = (List.range n).map g := by
  apply List.ext_getElem?
  intro i
  rw [List.getElem?_set]
  by_cases hi : i < n
  · by_cases e : y = i
    · subst e
      rw [if_pos rfl, if_pos (by simpa using hi), List.getElem?_map, List.getElem?_range hi]
      exact congrArg some h1.symm
    · rw [if_neg e, List.getElem?_map, List.getElem?_map, List.getElem?_range hi]
      exact congrArg some (h2 i fun z => e z.symm).symm
  · rw [if_neg (by omega), List.getElem?_eq_none (by simpa using hi), List.getElem?_eq_none (by simpa using hi)]
def tpart (n : Nat) (w : List (List (Nat × Int))) (i : Nat) (row : List (Nat × Int)) : List T := (List.range n).map fun y => .ls (cls ((trow y 0 w ++ (row.filter fun p => decide (p.1 = y)).map fun p => (i, p.2)).map dP))
theorem enumD_at {xs : List D} {k n : Nat} {x : D} (h : (enumD k xs)[n]? = some x) : ∃ d, xs[n]? = some d ∧ x = .tup [.int ((k + n : Nat) : Int), d] := by
  have hl := (List.getElem?_eq_some_iff.mp h).1
  rw [enumD_len] at hl
  have := enumD_get (k := k) (List.getElem?_eq_getElem hl)
  rw [h] at this
  exact ⟨_, List.getElem?_eq_getElem hl, Option.some.inj this⟩
theorem tpart_next {n i : Nat} {w : List (List (Nat × Int))} {row : List (Nat × Int)} (h : w[i]? = some row) : tpart n (w.take i) i row = tpart n (w.take (i + 1)) (i + 1) [] := by
  have hi := (List.getElem?_eq_some_iff.mp h).1
  unfold tpart
  refine List.map_congr_left fun y _ => ?_
  rw [show w.take (i + 1) = w.take i ++ [row] by rw [List.take_succ, h]; rfl, trow_snoc, List.length_take, Nat.min_eq_left (by omega), Nat.zero_add]
  simp
theorem tpart_len {n i : Nat} {w : List (List (Nat × Int))} {row : List (Nat × Int)} : (tpart n w i row).length = n := by unfold tpart; simp
theorem tpart_end {n : Nat} {w : List (List (Nat × Int))} {i : Nat} : T.ds (tpart n w i []) = (tr n w).map fun row => .lst (row.map dP) := by
  rw [ds_map]
  unfold tpart tr
  rw [List.map_map, List.map_map]
  refine List.map_congr_left fun y _ => ?_
  show (T.ls (cls ((trow y 0 w ++ []).map dP))).d = .lst ((trow y 0 w).map dP)
  rw [List.append_nil]
  exact d_ls _
theorem tpart_nil {n : Nat} : tpart n [] 0 [] = (List.range n).map fun _ => T.ls [] := rfl
theorem tpart_get {n i y : Nat} {w : List (List (Nat × Int))} {row : List (Nat × Int)} (hy : y < n) : (tpart n w i row)[y]? = some (.ls (cls ((trow y 0 w ++ (row.filter fun p => decide (p.1 = y)).map fun p => (i, p.2)).map dP))) := by
  unfold tpart
  rw [List.getElem?_map, List.getElem?_range hy]
  rfl
theorem tpart_set {n i : Nat} {w : List (List (Nat × Int))} {row : List (Nat × Int)} {p : Nat × Int} (hy : p.1 < n) : (tpart n w i row).set p.1 (.ls (cls ((trow p.1 0 w ++ (row.filter fun q => decide (q.1 = p.1)).map fun q => (i, q.2)).map dP) ++ [.cl (dP (i, p.2))])) = tpart n w i (row ++ [p]) := by
  unfold tpart
  refine map_set hy ?_ fun y hy => ?_
  · rw [List.filter_append, List.filter_cons_of_pos (by simp), List.filter_nil]
    unfold cls
    simp
  · rw [List.filter_append, List.filter_cons_of_neg (by simpa using fun z => hy z.symm), List.filter_nil, List.append_nil]
theorem turnA_wf {g : List (Str × D)} {F : Fs} {cc C : Nat} {m : Mk} (h : m.Ok C) (hl : m.s.length ≤ 1000) : Wf g F fTurnA (cls [m.d cc]) fun t ts => t = .cl m.T.g ∧ ts = cls [m.d cc] := by
  have z : sizeLine = 16777216 := rfl
  refine vf_of rfl rfl ?_
  refine vq ?_
  apply vl_mapT D.int (fun _ => .ls []) m.s rfl (by omega)
  · (repeat (first | exact nf_nil rfl | (apply nf_cons; · exact rfl)))
  · intro x hx
    refine ⟨_, rfl, ?_⟩
    refine vq ?_
    refine ⟨rfl, ?_⟩
    refine vq ?_
    exact ⟨rfl, rfl, rfl⟩
  have e0 : m.s.map (fun _ => T.ls []) = tpart m.s.length (m.w.take 0) 0 [] := by
    rw [List.take_zero, tpart_nil, List.map_const', List.map_const', List.length_range]
  rw [e0]
  refine vq ?_
  refine ⟨_, .inr rfl, ?_⟩
  refine vg_ind (fun n as ps => as = [.p, .o (.ls (tpart m.s.length (m.w.take n) n [])), .any, .any, .any, .any] ∧ ps = cls [m.d cc]) _ ⟨_, ?_, rfl, rfl⟩ ?_ ?_
  · (repeat (first | exact Les.nil | refine Les.any ?_ | refine Les.same ?_ | refine Les.v ?_ | refine Les.o rfl ?_ | refine Les.o (d_ls _) ?_ | refine Les.p rfl ?_))
  · rintro i x as ps hx ⟨rfl, rfl⟩
    obtain ⟨d, e1, rfl⟩ := enumD_at hx
    rw [List.getElem?_map] at e1
    obtain ⟨row, hrow, rfl⟩ := Option.map_eq_some_iff.mp e1
    have hr := List.mem_of_getElem? hrow
    refine ⟨_, rfl, ?_⟩
    rw [Nat.zero_add]
    refine vq ?_
    refine vg_ind (fun j as ps => as = [.p, .o (.ls (tpart m.s.length (m.w.take i) i (row.take j))), .v (.int (i : Int)), .any, .any, .any] ∧ ps = cls [m.d cc]) _ ⟨_, ?_, rfl, rfl⟩ ?_ ?_
    · (repeat (first | exact Les.nil | refine Les.any ?_ | refine Les.same ?_ | refine Les.v ?_ | refine Les.o rfl ?_ | refine Les.o (d_ls _) ?_ | refine Les.p rfl ?_))
    · rintro j x as ps hx ⟨rfl, rfl⟩
      rw [List.getElem?_map] at hx
      obtain ⟨p, hp, rfl⟩ := Option.map_eq_some_iff.mp hx
      have hp1 := (h.rg row hr p (List.mem_of_getElem? hp)).1
      have et : row.take (j + 1) = row.take j ++ [p] := by rw [List.take_succ, hp]; rfl
      have hg := tpart_get (i := i) (w := m.w.take i) (row := row.take j) hp1
      have hs := tpart_set (i := i) (w := m.w.take i) (row := row.take j) hp1
      have hlen : (tpart m.s.length (m.w.take i) i (row.take j)).length = m.s.length := tpart_len
      have hrl : (cls ((trow p.1 0 (m.w.take i) ++ ((row.take j).filter fun q => decide (q.1 = p.1)).map fun q => (i, q.2)).map dP)).length < sizeLine := by
        unfold cls
        rw [List.length_map, List.length_map, List.length_append, List.length_map]
        have h1 := len_sorted (n := i) (trow p.1 0 (m.w.take i)) 0 (trow_pw _ _ fun r q => h.pw r (List.mem_of_mem_take q)) fun q hq => ⟨Nat.zero_le _, by
          have := (List.getElem?_eq_some_iff.mp (trow_mem hq).2.choose_spec.1).1
          rw [List.length_take] at this
          omega⟩
        have h2 := List.length_filter_le (fun q : Nat × Int => decide (q.1 = p.1)) (row.take j)
        have h3 := h.len row hr
        have h4 := (List.getElem?_eq_some_iff.mp hrow).1
        rw [h.lw] at h4
        rw [List.length_take] at h2
        omega
      refine ⟨_, rfl, ?_⟩
      rw [et]
      generalize tpart m.s.length (m.w.take i) i (row.take j ++ [p]) = Y at hs ⊢
      generalize tpart m.s.length (m.w.take i) i (row.take j) = X at hg hs hlen ⊢
      generalize (cls ((trow p.1 0 (m.w.take i) ++ ((row.take j).filter fun q => decide (q.1 = p.1)).map fun q => (i, q.2)).map dP)) = R at hg hs hrl ⊢
      refine vs_x ?_
      refine vx_app2 (p := .ix (.var 1) (.rd (.var 4))) (ts := R) (d := dP (i, p.2)) (as' := [.p, .o (.ls Y), .v (.int (i : Int)), .any, .v (.int p.1), .v (.int p.2)]) (ps' := cls [m.d cc]) rfl (atI_ofN hg) rfl hrl ?_ ?_
      · show (Option.map _ (ixN X.length (p.1 : Int))).bind _ = _
        rw [ixN_of (by omega)]
        show some ([A.p, .o (.ls (X.set p.1 _)), _, _, _, _], _) = _
        rw [hs]
      · refine vq ?_
        refine ⟨_, ?_, rfl, rfl⟩
        (repeat (first | exact Les.nil | refine Les.any ?_ | refine Les.same ?_ | refine Les.v ?_ | refine Les.o rfl ?_ | refine Les.o (d_ls _) ?_ | refine Les.p rfl ?_))
    · rintro as ps ⟨rfl, rfl⟩
      rw [List.length_map, List.take_length, tpart_next hrow]
      refine vq ?_
      refine ⟨_, ?_, rfl, rfl⟩
      (repeat (first | exact Les.nil | refine Les.any ?_ | refine Les.same ?_ | refine Les.v ?_ | refine Les.o rfl ?_ | refine Les.o (d_ls _) ?_ | refine Les.p rfl ?_))
  · rintro as ps ⟨rfl, rfl⟩
    rw [enumD_len, List.length_map, List.take_length]
    have eT := tpart_end (n := m.s.length) (w := m.w) (i := m.w.length)
    generalize tpart m.s.length m.w m.w.length [] = X at eT ⊢
    refine vq ?_
    rw [eT]
    have lt : (tr m.s.length m.w).length = m.s.length := by unfold tr; simp
    apply vl_mapE (fun row => .lst (row.map dP)) dRow (tr m.s.length m.w) rfl (by omega)
    · (repeat (first | exact nf_nil rfl | (apply nf_cons; · exact rfl)))
    · intro row _
      refine ⟨_, rfl, ?_⟩
      refine vq ?_
      refine ⟨rfl, ?_⟩
      refine vq ?_
      exact ⟨rfl, rfl, rfl⟩
    refine vq ?_
    simp only [ds_ti]
    refine vq ?_
    exact ⟨rfl, rfl⟩
def fMet : Fn := ⟨2, 8, (.cons (.par 2 3 (.lc [5, 6] (.tup [(.var 5), (.var 6)]) (.enum (.get (.var 0))) (.cmp .gt (.get (.var 6)) (.int 0)) (.get (.var 5))) .dn) (.cons (.wh (.emp true (.var 2)) (.cons (.asg 4 (.pop (.var 2))) (.cons (.ite (.inn true (.get (.var 4)) (.var 3)) (.cons (.setx (.var 3) (.rd (.var 4)) (.bl true)) (.cons (.ext 2 (.lc [7, 6] (.tup [(.var 7), (.var 6)]) (.seq (.get (.ix (.var 1) (.rd (.var 4))))) (.bl true) (.get (.var 7)))) .nil)) .nil) .nil))) (.cons (.ret (.get (.var 3))) .nil)))⟩
def dcN (K : List Nat) : T := .dc (kyN K) (K.map fun _ => .cl (.bl true))
structure Srch (w : List (List (Nat × Int))) (s : List Int) (W K : List Nat) : Prop where
  nd : K.Nodup
  kn : ∀ x ∈ K, x < s.length
  wn : ∀ x ∈ W, x < s.length
  kr : ∀ x ∈ K, Rch w s x
  wr : ∀ x ∈ W, Rch w s x
  st : ∀ x, 0 < s.getD x 0 → x ∈ K ∨ x ∈ W
  cl : ∀ x ∈ K, ∀ row, w[x]? = some row → ∀ p ∈ row, p.1 ∈ K ∨ p.1 ∈ W
theorem Srch.end {w : List (List (Nat × Int))} {s : List Int} {K : List Nat} (h : Srch w s [] K) (x : Nat) : x ∈ K ↔ Rch w s x := by
  refine ⟨h.kr x, fun r => ?_⟩
  induction r with
  | st hs => exact (h.st _ hs).resolve_right (by simp)
  | go r hw hp ih => exact (h.cl _ ih _ hw _ hp).resolve_right (by simp)
theorem getD_pos {s : List Int} {x : Nat} (h : 0 < s.getD x 0) : x < s.length := by
  rcases Nat.lt_or_ge x s.length with z | z
  · exact z
  · rw [List.getD_eq_getElem?_getD, List.getElem?_eq_none z] at h
    exact absurd h (by decide)
theorem Srch.begin (w : List (List (Nat × Int))) (s : List Int) : Srch w s ((List.range s.length).filter fun x => decide (0 < s.getD x 0)) [] := by
  refine ⟨.nil, by simp, fun x m => List.mem_range.mp (List.mem_filter.mp m).1, by simp, fun x m => .st (of_decide_eq_true (List.mem_filter.mp m).2), fun x h => .inr (List.mem_filter.mpr ⟨List.mem_range.mpr (getD_pos h), decide_eq_true h⟩), by simp⟩
theorem Srch.known {w : List (List (Nat × Int))} {s : List Int} {W K : List Nat} {x : Nat} (h : Srch w s (W ++ [x]) K) (hx : x ∈ K) : Srch w s W K := by
  have hW : ∀ y, y ∈ K ∨ y ∈ W ++ [x] → y ∈ K ∨ y ∈ W := fun y q => by
    rcases q with q | q
    · exact .inl q
    · rcases List.mem_append.mp q with q | q
      · exact .inr q
      · exact .inl (List.mem_singleton.mp q ▸ hx)
  exact ⟨h.nd, h.kn, fun y m => h.wn y (List.mem_append_left _ m), h.kr, fun y m => h.wr y (List.mem_append_left _ m), fun y q => hW y (h.st y q), fun y m row e p q => hW _ (h.cl y m row e p q)⟩
theorem Srch.new {C : Nat} {m : Mk} (ok : m.Ok C) {W K : List Nat} {x : Nat} {row : List (Nat × Int)} (h : Srch m.w m.s (W ++ [x]) K) (hx : x ∉ K) (hr : m.w[x]? = some row) : Srch m.w m.s (W ++ row.map (·.1)) (K ++ [x]) := by
  have hm : x ∈ W ++ [x] := List.mem_append_right _ (List.mem_singleton.mpr rfl)
  have hrm := List.mem_of_getElem? hr
  have hW : ∀ y, y ∈ K ∨ y ∈ W ++ [x] → y ∈ K ++ [x] ∨ y ∈ W ++ row.map (·.1) := fun y q => by
    rcases q with q | q
    · exact .inl (List.mem_append_left _ q)
    · rcases List.mem_append.mp q with q | q
      · exact .inr (List.mem_append_left _ q)
      · exact .inl (List.mem_append_right _ q)
  refine ⟨?_, fun y q => ?_, fun y q => ?_, fun y q => ?_, fun y q => ?_, fun y q => hW y (h.st y q), fun y q r e p hp => ?_⟩
  · refine List.nodup_append.mpr ⟨h.nd, List.pairwise_singleton .., fun a ha b hb e => hx ?_⟩
    rw [← List.mem_singleton.mp hb, ← e]
    exact ha
  · rcases List.mem_append.mp q with q | q
    · exact h.kn y q
    · rw [List.mem_singleton.mp q]
      exact h.wn x hm
  · rcases List.mem_append.mp q with q | q
    · exact h.wn y (List.mem_append_left _ q)
    · obtain ⟨p, hp, rfl⟩ := List.mem_map.mp q
      exact (ok.rg row hrm p hp).1
  · rcases List.mem_append.mp q with q | q
    · exact h.kr y q
    · rw [List.mem_singleton.mp q]
      exact h.wr x hm
  · rcases List.mem_append.mp q with q | q
    · exact h.wr y (List.mem_append_left _ q)
    · obtain ⟨p, hp, rfl⟩ := List.mem_map.mp q
      exact (h.wr x hm).go hr hp
  · rcases List.mem_append.mp q with q | q
    · exact hW _ (h.cl y q r e p hp)
    · rw [List.mem_singleton.mp q, hr] at e
      cases e
      exact .inr (List.mem_append_right _ (List.mem_map_of_mem hp))
theorem nodup_len {K : List Nat} {n : Nat} (nd : K.Nodup) (h : ∀ x ∈ K, x < n) : K.length ≤ n := by
  have := List.Nodup.length_le_of_subset nd (l₂ := List.range n) fun x q => List.mem_range.mpr (h x q)
  rwa [List.length_range] at this
theorem enum_range (xs : List Int) : enumD 0 (xs.map D.int) = (List.range xs.length).map fun (x : Nat) => .tup [.int (x : Int), .int (xs.getD x 0)] := by
  apply List.ext_getElem?
  intro i
  rw [List.getElem?_map]
  by_cases hi : i < xs.length
  · rw [enumD_get (k := 0) (d := .int xs[i]) (by rw [List.getElem?_map, List.getElem?_eq_getElem hi]; rfl), List.getElem?_range hi, Nat.zero_add]
    show _ = some (D.tup [.int (i : Int), .int (xs.getD i 0)])
    rw [List.getD_eq_getElem?_getD, List.getElem?_eq_getElem hi]
    rfl
  · rw [List.getElem?_eq_none (by rw [enumD_len, List.length_map]; omega), List.getElem?_eq_none (by simpa using hi)]
    rfl
theorem clsN (xs : List Nat) : (T.ls (cls (dN xs))).d = .lst (dN xs) := d_ls _
theorem met_wf {g : List (Str × D)} {F : Fs} {C : Nat} {m : Mk} (h : m.Ok C) (hl : m.s.length ≤ 1000) : Wf g F fMet (cls [dI m.s, dMv m.w]) fun t ts => ts = cls [dI m.s, dMv m.w] ∧ ∃ K, t = dcN K ∧ Srch m.w m.s [] K := by
  have z : sizeLine = 16777216 := rfl
  refine vf_of rfl rfl ?_
  refine vq ?_
  refine ⟨_, .inr rfl, ?_⟩
  rw [enum_range]
  apply vl_filt (fun (x : Nat) => .tup [.int (x : Int), .int (m.s.getD x 0)]) (fun (x : Nat) => .int (x : Int)) (fun x => decide (0 < m.s.getD x 0)) (List.range m.s.length) rfl (by rw [List.length_range]; omega)
  · (repeat (first | exact nf_nil rfl | (apply nf_cons; · exact rfl)))
  · intro x hx
    refine ⟨_, rfl, ?_⟩
    refine vq ?_
    refine ⟨rfl, fun _ => ?_, fun _ => ⟨rfl, rfl⟩⟩
    refine vq ?_
    exact ⟨rfl, rfl, rfl⟩
  refine vq ?_
  refine vx_wh (fun N as ps => ∃ W K, Srch m.w m.s W K ∧ (m.s.length - K.length) * (m.s.length + 1) + W.length ≤ N ∧ N ≤ 1002000 ∧ as = [.p, .p, .o (.ls (cls (dN W))), .o (dcN K), .any, .any, .any, .any] ∧ ps = cls [dI m.s, dMv m.w]) (m.s.length * (m.s.length + 1) + m.s.length) ?_ ⟨_, ?_, _, [], Srch.begin .., ?_, ?_, rfl, rfl⟩ ?_
  · have := Nat.mul_le_mul hl (show m.s.length + 1 ≤ 1001 by omega)
    omega
  · (repeat (first | exact Les.nil | refine Les.any ?_ | refine Les.same ?_ | refine Les.v ?_ | refine Les.o rfl ?_ | refine Les.o (d_ls _) ?_ | refine Les.p rfl ?_))
  · have := List.length_filter_le (fun x => decide (0 < m.s.getD x 0)) (List.range m.s.length)
    rw [List.length_range] at this
    simp only [List.length_nil, Nat.sub_zero]
    omega
  · have := Nat.mul_le_mul hl (show m.s.length + 1 ≤ 1001 by omega)
    omega
  · rintro n as ps ⟨W, K, S, hN, hn, rfl, rfl⟩
    refine ve_emp (t := .ls (cls (dN W))) rfl (by rw [clsN]; exact eqD_dN W) ?_
    refine ⟨_, rfl, fun hv => ?_, fun hv => ?_⟩
    · have hne : W ≠ [] := by simpa using hv
      obtain ⟨W, x, rfl⟩ : ∃ ys y, W = ys ++ [y] := by
        rcases List.eq_nil_or_concat W with h | ⟨ys, y, rfl⟩
        · exact absurd h hne
        · exact ⟨ys, y, by simp⟩
      have e1 : cls (dN (W ++ [x])) = cls (dN W) ++ [.cl (.int (x : Int))] := by unfold cls dN; simp
      have kl := nodup_len S.nd S.kn
      have xn := S.wn x (List.mem_append_right _ (List.mem_singleton.mpr rfl))
      rw [List.length_append, List.length_singleton] at hN
      refine ⟨n - 1, by omega, ?_⟩
      rw [e1]
      refine vs_x (vx_asg (ve_pop (ts := cls (dN W) ++ [.cl (.int (x : Int))]) (t := .cl (.int (x : Int))) (as' := [.p, .p, .o (.ls (cls (dN W))), .o (dcN K), .any, .any, .any, .any]) (ps' := cls [dI m.s, dMv m.w]) rfl (by simp) (by rw [List.dropLast_concat]; rfl) ?_))
      refine vq ?_
      refine ⟨dcN K, _, rfl, (by show inD _ (.dct _ _) = _; exact in_dct _ _ x), ?_⟩
      by_cases hx : x ∈ K
      · rw [decide_eq_true hx]
        refine vq ?_
        refine ⟨_, ?_, W, K, S.known hx, by omega, by omega, rfl, rfl⟩
        (repeat (first | exact Les.nil | refine Les.any ?_ | refine Les.same ?_ | refine Les.v ?_ | refine Les.o rfl ?_ | refine Les.o (d_ls _) ?_ | refine Les.p rfl ?_))
      · rw [decide_eq_false hx]
        have hw : x < m.w.length := by rw [h.lw]; exact xn
        have hr : m.w[x]? = some m.w[x] := List.getElem?_eq_getElem hw
        generalize m.w[x] = row at hr
        have hrl := h.len row (List.mem_of_getElem? hr)
        have S' := S.new h hx hr
        have kl' := nodup_len S'.nd S'.kn
        rw [List.length_append, List.length_singleton] at kl'
        refine vq ?_
        have lk : (kyN K).length = K.length := by unfold kyN; simp
        refine ⟨dcN K, .int x, dcN (K ++ [x]), _, _, rfl, rfl, ?_, rfl, ?_⟩
        · show (if (kyN K).length < sizeLine then (putOne (Sum.inl (x : Int) : Key) (T.cl (.bl true)) (kyN K) (K.map fun _ => T.cl (.bl true))).map _ else none) = _
          rw [if_pos (by omega), putOne_new (by rw [lk, List.length_map]) (by
            unfold kyN
            intro q
            obtain ⟨y, hy, e⟩ := List.mem_map.mp q
            have e : (y : Int) = x := Sum.inl.inj e
            exact hx (Int.ofNat_inj.mp e ▸ hy))]
          unfold dcN kyN
          simp
        refine vq ?_
        refine ve_get (d := dRow row) (by show (atI (m.w.map dRow) (x : Int)).map T.cl = _; rw [atI_ofN (by rw [List.getElem?_map, hr]; rfl)]; rfl) rfl ?_
        refine ⟨_, rfl, ?_⟩
        apply vl_mapE dP (fun p => .int (p.1 : Int)) row rfl (by omega)
        · (repeat (first | exact nf_nil rfl | (apply nf_cons; · exact rfl)))
        · intro p hp
          refine ⟨_, rfl, ?_⟩
          refine vq ?_
          refine ⟨rfl, ?_⟩
          refine vq ?_
          exact ⟨rfl, rfl, rfl⟩
        refine ⟨_, _, _, _, d_ls _, rfl, ?_, rfl, ?_⟩
        · unfold cls dN
          rw [List.length_map, List.length_map, List.length_map]
          omega
        have e2 : cls (dN W) ++ cls (row.map fun p => .int (p.1 : Int)) = cls (dN (W ++ row.map (·.1))) := by unfold cls dN; simp
        rw [e2]
        refine vq ?_
        refine ⟨_, ?_, W ++ row.map (·.1), K ++ [x], S', ?_, by omega, rfl, rfl⟩
        · (repeat (first | exact Les.nil | refine Les.any ?_ | refine Les.same ?_ | refine Les.v ?_ | refine Les.o rfl ?_ | refine Les.o (d_ls _) ?_ | refine Les.p rfl ?_))
        · rw [List.length_append, List.length_singleton, List.length_append, List.length_map]
          have e3 : m.s.length - K.length = (m.s.length - (K.length + 1)) + 1 := by omega
          rw [e3, Nat.succ_mul] at hN
          omega
    · have hW : W = [] := by simpa using hv
      subst hW
      refine vq ?_
      exact ⟨rfl, K, rfl, S⟩
namespace Mk
noncomputable def mp (m : Mk) (x : Nat) : Bool := @decide (Rch m.w m.s x ∧ Rch (tr m.s.length m.w) m.e x) (Classical.propDecidable _)
noncomputable def K (m : Mk) : List Nat := (List.range m.s.length).filter m.mp
variable {C : Nat} {m : Mk}
end Mk
def fOne (tu cc ini : Nat) : Fn := ⟨1, 2, (.cons (.asg 1 (.call tu (.cons (.get (.var 0)) .nil) .nil [0])) (.cons (.ret (.mkS cc ini (.get (.var 1)) [0, 1, 2, 3])) .nil))⟩
section
variable {g : List (Str × D)} {G : List Fn} {isc ac imv ir ini tu mt on td tm cc : Nat} {C k : Nat} {m : Mk}
theorem one_at (k : Nat) (N : MNum g G isc ac imv ir ini) {X : Mk} (etd : G[td]? = some (fOne tu cc ini)) (A : At (sem g G (k + 4)) tu [m.d cc] X.g) (h : X.Ok C) (hl : X.s.length ≤ 1000) : AtT (sem g G (k + 5)) td [m.d cc] (X.t cc) := by
  refine atT_of etd ?_
  refine vf_of rfl rfl ?_
  refine vq ?_
  refine vc_at A rfl ?_
  refine vq ?_
  refine ⟨rfl, ?_⟩
  refine N.wm k cc h hl ?_
  refine vq ?_
  exact ⟨rfl, rfl⟩
theorem turned_at (k : Nat) (N : MNum g G isc ac imv ir ini) (etu : G[tu]? = some fTurnA) (etd : G[td]? = some (fOne tu cc ini)) (h : m.Ok C) (hl : m.s.length ≤ 1000) : AtT (sem g G (k + 5)) td [m.d cc] (m.T.t cc) :=
  one_at k N etd (at_of etu (turnA_wf h hl)) (Mk.okT h) (by rw [Mk.len_T h]; exact hl)
end
end Mi
namespace Mi
open PySem L2
structure Tel {α : Type} [DecidableEq α] (g : α → PyData) (n : Nat) : Prop where
  lay : ∀ x, (g x).canLay0 = true
  dep : ∀ x, (g x).depth ≤ n
  eqv : ∀ x y, PyData.eqv (g x) (g y) = decide (x = y)
section
variable {α : Type} [DecidableEq α] {g : α → PyData} {n : Nat}
theorem Tel.layA (h : Tel g n) : ∀ xs : List α, PyData.canLayAll0 (xs.map g) = true
  | [] => by unfold PyData.canLayAll0; rfl
  | x :: xs => by
    rw [List.map_cons]
    unfold PyData.canLayAll0
    rw [h.lay, h.layA xs]
    rfl
theorem Tel.depA (h : Tel g n) : ∀ xs : List α, PyData.depthAll (xs.map g) ≤ n
  | [] => by unfold PyData.depthAll; exact Nat.zero_le _
  | x :: xs => by
    rw [List.map_cons]
    unfold PyData.depthAll
    exact Nat.max_le.mpr ⟨h.dep x, h.depA xs⟩
theorem Tel.eqvA (h : Tel g n) : ∀ xs ys : List α, PyData.eqvAll (xs.map g) (ys.map g) = decide (xs = ys)
  | [], [] => by simp [PyData.eqvAll]
  | x :: xs, [] => by simp [PyData.eqvAll]
  | [], y :: ys => by simp [PyData.eqvAll]
  | x :: xs, y :: ys => by
    rw [List.map_cons, List.map_cons]
    unfold PyData.eqvAll
    rw [h.eqv, h.eqvA xs ys]
    by_cases h : x = y <;> by_cases h' : xs = ys <;> simp [h, h']
theorem Tel.tup (h : Tel g n) : Tel (fun xs : List α => PyData.tuple (xs.map g)) (n + 1) := by
  refine ⟨fun xs => ?_, fun xs => ?_, fun xs ys => ?_⟩
  · unfold PyData.canLay0
    exact h.layA xs
  · unfold PyData.depth
    have := h.depA xs
    omega
  · simp only [PyData.eqv]
    exact h.eqvA xs ys
theorem tel_int : Tel PyData.int 0 := ⟨fun i => (lay_int i).1, fun i => Nat.le_of_eq (lay_int i).2, fun i j => by simp only [PyData.eqv]; by_cases h : i = j <;> simp [h]⟩
theorem Tel.of {β : Type} [DecidableEq β] (h : Tel g n) (f : β → α) (hf : ∀ x y, f x = f y → x = y) : Tel (fun x => g (f x)) n :=
  ⟨fun x => h.lay _, fun x => h.dep _, fun x y => by rw [h.eqv, decide_eq_decide]; exact ⟨hf x y, fun e => by rw [e]⟩⟩
theorem Tel.eqD (h : Tel g n) (hn : n ≤ 64) {f : α → D} (py : ∀ x, (f x).py = some (g x)) (x y : α) : eqD (f x) (f y) = some (decide (x = y)) := by
  have sh : ∀ x, SeqAt.shaped (g x) = true := fun x => by
    unfold SeqAt.shaped
    rw [h.lay, decide_eq_true (Nat.le_trans (h.dep x) hn)]
    rfl
  unfold Mi.eqD
  rw [py, py]
  simp only
  rw [sh, sh, Bool.and_self, if_pos rfl, h.eqv]
end
theorem tel_P : Tel pP 1 := tel_int.tup.of (fun p : Nat × Int => [(p.1 : Int), p.2]) fun p q e => by
  have h1 := List.cons.inj e
  have h2 := List.cons.inj h1.2
  exact Prod.ext (Int.ofNat_inj.mp h1.1) h2.1
theorem eqD_dMv (w v : List (List (Nat × Int))) : eqD (dMv w) (dMv v) = some (decide (w = v)) :=
  Tel.eqD (f := dMv) tel_P.tup.tup (by decide) py_dMv w v
theorem oc_eq_dMv {w v : List (List (Nat × Int))} {K : Bool → Prop} (h : K (decide (w = v))) : Oc .eq (dMv w) (dMv v) K := oc_eq (eqD_dMv w v) h
end Mi
set_option maxHeartbeats 4000000
namespace Mi
open PySem L2
def fWInit : Fn := ⟨2, 2, (.cons (.fld (.var 0) "machine" (.get (.var 1))) (.cons (.fld (.var 0) "moves_told" (.int 0)) (.cons (.fld (.var 0) "runs_told" (.get (.at (.var 1) "starts"))) (.cons (.fld (.var 0) "earlier" (.tup .nil)) .nil))))⟩
def fWMoves : Fn := ⟨1, 1, (.cons (.ret (.get (.at (.var 0) "moves_told"))) .nil)⟩
def fWRuns : Fn := ⟨1, 1, (.cons (.ret (.get (.at (.var 0) "runs_told"))) .nil)⟩
def fWAcc : Fn := ⟨1, 3, (.cons (.ret (.f1 .sum (.lc [1, 2] (.tup [(.var 1), (.var 2)]) (.zip (.get (.at (.var 0) "runs_told")) (.get (.at (.at (.var 0) "machine") "ends"))) (.bl true) (.bin .mul (.get (.var 1)) (.get (.var 2)))))) .nil)⟩
def fWLen : Fn := ⟨1, 1, (.cons (.ret (.x (.len (.at (.var 0) "earlier")))) .nil)⟩
def fWGo : Fn := ⟨2, 8, (.cons (.fld (.var 0) "earlier" (.tup (.star (.get (.at (.var 0) "earlier")) (.cons (.tup (.cons (.get (.at (.var 0) "moves_told")) (.cons (.get (.at (.var 0) "runs_told")) .nil))) .nil)))) (.cons (.fr (.var 2) (.rng1 (.get (.var 1))) (.cons (.asg 3 (.bin .mul (.lst (.cons (.int 0) .nil)) (.x (.len (.at (.var 0) "runs_told"))))) (.cons (.fr (.tup [(.var 4), (.var 5)]) (.zip (.get (.at (.var 0) "runs_told")) (.get (.at (.at (.var 0) "machine") "moves"))) (.cons (.fr (.tup [(.var 6), (.var 7)]) (.seq (.get (.var 5))) (.cons (.augx (.var 3) (.rd (.var 6)) .add (.bin .mul (.get (.var 4)) (.get (.var 7)))) .nil)) .nil)) (.cons (.fld (.var 0) "runs_told" (.f1p .tuple (.var 3))) .nil)))) (.cons (.fldaug (.var 0) "moves_told" .add (.get (.var 1))) .nil)))⟩
def fWUndo : Fn := ⟨1, 1, (.cons (.ite (.cmp .eq (.get (.at (.var 0) "earlier")) (.tup .nil)) (.cons .never .nil) .nil) (.cons (.fld2 (.var 0) "moves_told" "runs_told" (.get (.ix (.at (.var 0) "earlier") (.neg (.int 1))))) (.cons (.fld (.var 0) "earlier" (.sl (.get (.at (.var 0) "earlier")) none (some (.neg (.int 1))))) .nil)))⟩
def dE (m : Mk) (n : Nat) : D := .tup [.int (n : Int), dI (goN m.w m.s n)]
def wk (cc mc : Nat) (m : Mk) (n : Nat) (E : List Nat) : T := .ob cc ["machine", "moves_told", "runs_told", "earlier"] [.cl (m.d mc), .cl (.int (n : Int)), .cl (dI (goN m.w m.s n)), .cl (.tup (E.map (dE m)))]
theorem ds_app (xs : List D) (ts : List T) : T.ds (cls xs ++ ts) = xs ++ T.ds ts := by
  induction xs with
  | nil => rfl
  | cons x xs ih => exact congrArg (x :: ·) ih
variable {g : List (Str × D)} {F : Fs} {cc mc C a c : Nat} {m : Mk}
theorem winit_wf : Wf g F fWInit [.ob cc [] [], .cl (m.d mc)] fun u ts => u = .cl .non ∧ ts = [wk cc mc m 0 [], .cl (m.d mc)] := by
  refine vf_of rfl rfl ?_
  refine vq ?_
  refine ⟨_, _, _, _, _, rfl, (by decide : 0 < 1000), rfl, ?_⟩
  refine vq ?_
  refine ⟨_, _, _, _, _, rfl, (by decide : 1 < 1000), rfl, ?_⟩
  refine vq ?_
  refine ⟨_, _, _, _, _, rfl, (by decide : 2 < 1000), rfl, ?_⟩
  refine vq ?_
  refine ⟨_, _, _, _, _, rfl, (by decide : 3 < 1000), rfl, ?_⟩
  refine vq ?_
  exact ⟨rfl, rfl⟩
theorem wmoves_wf {n : Nat} {E : List Nat} : Wf g F fWMoves [wk cc mc m n E] fun u ts => u = .cl (.int (n : Int)) ∧ ts = [wk cc mc m n E] := by
  refine vf_of rfl rfl ?_
  refine vq ?_
  exact ⟨rfl, rfl⟩
theorem wruns_wf {n : Nat} {E : List Nat} : Wf g F fWRuns [wk cc mc m n E] fun u ts => u = .cl (dI (goN m.w m.s n)) ∧ ts = [wk cc mc m n E] := by
  refine vf_of rfl rfl ?_
  refine vq ?_
  exact ⟨rfl, rfl⟩
theorem wlen_wf {n : Nat} {E : List Nat} : Wf g F fWLen [wk cc mc m n E] fun u ts => u = .cl (.int (E.length : Int)) ∧ ts = [wk cc mc m n E] := by
  refine vf_of rfl rfl ?_
  refine vq ?_
  refine ⟨?_, rfl⟩
  rw [List.length_map]
theorem wacc_wf {n : Nat} {E : List Nat} (h : m.Ok C) (hl : m.s.length ≤ 1000) (f : Fits a c n C m.s.length) : Wf g F fWAcc [wk cc mc m n E] fun u ts => u = .cl (.int (m.c n)) ∧ ts = [wk cc mc m n E] := by
  have hm := h.mulE f
  refine vf_of rfl rfl ?_
  refine vq ?_
  refine ⟨_, _, .inr ⟨rfl, rfl⟩, ?_⟩
  rw [zipD_map]
  have hz : ((goN m.w m.s n).zip m.e).length ≤ 1000 := by rw [List.length_zip, h.le]; omega
  apply vl_mapE (fun p : Int × Int => .tup [.int p.1, .int p.2]) (fun p => .int (p.1 * p.2)) ((goN m.w m.s n).zip m.e) rfl (by omega)
  · (repeat (first | exact nf_nil rfl | (apply nf_cons; · exact rfl)))
  · intro p hp
    have hz := List.of_mem_zip (a := p.1) (b := p.2) hp
    have := hm _ hz.1 _ hz.2
    refine ⟨_, rfl, ?_⟩
    refine vq ?_
    refine ⟨rfl, ?_⟩
    refine vq ?_
    exact ⟨rfl, rfl, rfl⟩
  refine vq ?_
  rw [map_int (fun p : Int × Int => p.1 * p.2)]
  refine of_sum (intsOf_map _) ?_
  refine vq ?_
  exact ⟨rfl, rfl⟩
def wkm (cc mc : Nat) (m : Mk) (n : Nat) (r : List Int) (E : List Nat) : T := .ob cc ["machine", "moves_told", "runs_told", "earlier"] [.cl (m.d mc), .cl (.int (n : Int)), .cl (dI r), .cl (.tup (E.map (dE m)))]
theorem foldl_snoc {α β : Type} (f : β → α → β) (b : β) (l : List α) (x : α) : (l ++ [x]).foldl f b = f (l.foldl f b) x := by rw [List.foldl_append]; rfl
theorem len_fold (w : List (Int × List (Nat × Int))) : ∀ f : List Int, (w.foldl (fun f p => rowAdd p.1 f p.2) f).length = f.length := by
  induction w with
  | nil => exact fun f => rfl
  | cons p w ih => exact fun f => (ih _).trans (len_rowAdd ..)
theorem wgo_wf {n k : Nat} {E : List Nat} (h : m.Ok C) (hl : m.s.length ≤ 1000) (f : Fits a c (n + k) C m.s.length) (hk : k < 2 ^ 60) (hE : E.length ≤ 1000) : Wf g F fWGo [wk cc mc m n E, .cl (.int (k : Int))] fun u ts => u = .cl .non ∧ ts = [wk cc mc m (n + k) (E ++ [n]), .cl (.int (k : Int))] := by
  refine vf_of rfl rfl ?_
  refine vq ?_
  have z : sizeLine = 16777216 := rfl
  refine ⟨by rw [List.length_append]; unfold cls; rw [List.length_map, List.length_map]; show _ + 1 ≤ _; omega, ?_⟩
  refine vq ?_
  refine ⟨_, _, _, _, _, rfl, (by decide : 4 < 1000), rfl, ?_⟩
  refine vq ?_
  rw [Int.toNat_natCast]
  have eE : T.cl (.tup (T.ds (cls (E.map (dE m)) ++ [T.cl (.tup (T.ds [T.cl (.int (n : Int)), T.cl (dI (goN m.w m.s n))]))]))) = T.cl (.tup ((E ++ [n]).map (dE m))) := by
    rw [ds_app, List.map_append]
    rfl
  refine vg_ind (fun i as ps => as = [.p, .p, .any, .any, .any, .any, .any, .any] ∧ ps = [wkm cc mc m n (goN m.w m.s (n + i)) (E ++ [n]), .cl (.int (k : Int))]) _ ⟨_, ?_, rfl, ?_⟩ ?_ ?_
  · (repeat (first | exact Les.nil | refine Les.any ?_ | refine Les.same ?_ | refine Les.v ?_ | refine Les.o rfl ?_ | refine Les.o (d_ls _) ?_ | refine Les.p rfl ?_))
  · rw [eE]
    rfl
  · rintro i x as ps hx ⟨rfl, rfl⟩
    obtain ⟨hi, rfl⟩ := rng_get hx
    have hrl : (goN m.w m.s (n + i)).length = m.w.length := (len_goN _ _ h.lw _).trans h.lw.symm
    have hm := h.mulW (f.mono (j := n + i) (by omega))
    have eg : goN m.w m.s (n + (i + 1)) = go m.w (goN m.w m.s (n + i)) := rfl
    rw [eg]
    have hw1 : m.w.length ≤ 1000 := by rw [h.lw]; exact hl
    generalize goN m.w m.s (n + i) = r at hrl hm ⊢
    refine ⟨_, rfl, ?_⟩
    refine vq ?_
    refine ob_rep1 (d := .int 0) (by rw [List.length_map]; omega) ?_
    rw [rep0, List.length_map]
    refine vq ?_
    refine ⟨_, _, .inr ⟨rfl, rfl⟩, ?_⟩
    rw [zipD_map]
    refine vg_ind (fun j as ps => as = [.p, .p, .any, .o (tI (((r.zip m.w).take j).foldl (fun f p => rowAdd p.1 f p.2) (List.replicate r.length 0))), .any, .any, .any, .any] ∧ ps = [wkm cc mc m n r (E ++ [n]), .cl (.int (k : Int))]) _ ⟨_, ?_, rfl, rfl⟩ ?_ ?_
    · (repeat (first | exact Les.nil | refine Les.any ?_ | refine Les.same ?_ | refine Les.v ?_ | refine Les.o rfl ?_ | refine Les.o (d_ls _) ?_ | refine Les.p rfl ?_))
    · rintro j x as ps hx ⟨rfl, rfl⟩
      rw [List.getElem?_map] at hx
      obtain ⟨⟨t, row⟩, hp, rfl⟩ := Option.map_eq_some_iff.mp hx
      have hz := List.of_mem_zip (List.mem_of_getElem? hp)
      have et : (r.zip m.w).take (j + 1) = (r.zip m.w).take j ++ [(t, row)] := by rw [List.take_succ, hp]; rfl
      rw [et, foldl_snoc]
      have hl0 : (((r.zip m.w).take j).foldl (fun f p => rowAdd p.1 f p.2) (List.replicate r.length (0 : Int))).length = m.w.length := by rw [len_fold, List.length_replicate, hrl]
      generalize ((r.zip m.w).take j).foldl (fun f p => rowAdd p.1 f p.2) (List.replicate r.length (0 : Int)) = v at hl0 ⊢
      refine ⟨_, rfl, ?_⟩
      refine vq ?_
      refine vg_ind (fun q as ps => as = [.p, .p, .any, .o (tI (rowAdd t v (row.take q))), .v (.int t), .any, .any, .any] ∧ ps = [wkm cc mc m n r (E ++ [n]), .cl (.int (k : Int))]) _ ⟨_, ?_, rfl, rfl⟩ ?_ ?_
      · (repeat (first | exact Les.nil | refine Les.any ?_ | refine Les.same ?_ | refine Les.v ?_ | refine Les.o rfl ?_ | refine Les.o (d_ls _) ?_ | refine Les.p rfl ?_))
      · rintro q x as ps hx ⟨rfl, rfl⟩
        rw [List.getElem?_map] at hx
        obtain ⟨p, hp, rfl⟩ := Option.map_eq_some_iff.mp hx
        have hpm := List.mem_of_getElem? hp
        have hp1 : p.1 < m.w.length := by rw [h.lw]; exact (h.rg row hz.2 p hpm).1
        have hp2 := hm row hz.2 p hpm t hz.1
        have e : rowAdd t v (row.take (q + 1)) = addAt (rowAdd t v (row.take q)) p.1 (t * p.2) := by
          unfold rowAdd
          rw [List.take_succ, hp, List.foldl_append]
          rfl
        rw [e]
        have hl1 : (rowAdd t v (row.take q)).length = m.w.length := (len_rowAdd ..).trans hl0
        generalize rowAdd t v (row.take q) = u at hl1 ⊢
        have hl' : p.1 < (u.map dInt).length := by rw [List.length_map]; omega
        have hg : p.1 < u.length := by omega
        have e1 : ixT (.ls (u.map dInt)) (.int p.1) = some (.cl (.int u[p.1])) := by
          show atI (u.map dInt) _ = _
          rw [atI_of hl', List.getElem_map]
          rfl
        have e2 : setIxT (.ls (u.map dInt)) (.int p.1) (.cl (.int (u[p.1] + t * p.2))) = some (tI (addAt u p.1 (t * p.2))) := by
          show (ixN _ _).map _ = _
          rw [ixN_of hl']
          unfold addAt tI
          rw [List.map_set, List.getElem?_eq_getElem hg]
          rfl
        have e3 : opB .mul (.int t) (.int p.2) = some (.cl (.int (t * p.2))) := oB_mul hp2
        refine ⟨_, rfl, ?_⟩
        refine vs_x (vx_augxA (ts := u.map dInt) (i := (p.1 : Int)) (b := t * p.2) (a := u[p.1]) (u := tI (addAt u p.1 (t * p.2))) rfl rfl ?_ e1 e2 rfl ?_)
        · show (match opB .mul (.int t) (.int p.2) with | some (.cl d) => some d | _ => none) = _
          rw [e3]
        · refine vq ?_
          refine ⟨_, ?_, rfl, rfl⟩
          (repeat (first | exact Les.nil | refine Les.any ?_ | refine Les.same ?_ | refine Les.v ?_ | refine Les.o rfl ?_ | refine Les.o (d_ls _) ?_ | refine Les.p rfl ?_))
      · rintro as ps ⟨rfl, rfl⟩
        rw [List.length_map, List.take_length]
        refine vq ?_
        refine ⟨_, ?_, rfl, rfl⟩
        (repeat (first | exact Les.nil | refine Les.any ?_ | refine Les.same ?_ | refine Les.v ?_ | refine Les.o rfl ?_ | refine Les.o (d_ls _) ?_ | refine Les.p rfl ?_))
    · rintro as ps ⟨rfl, rfl⟩
      have eF : ((r.zip m.w).take ((r.zip m.w).map fun p => D.tup [.int p.1, dRow p.2]).length).foldl (fun f p => rowAdd p.1 f p.2) (List.replicate r.length 0) = go m.w r := by
        rw [List.length_map, List.take_length, hrl]
        rfl
      rw [eF]
      refine vq ?_
      refine ve_f1p (t := tI (go m.w r)) rfl rfl (leaves_d _) ?_
      rw [d_tI]
      refine vq ?_
      refine ⟨_, _, _, _, _, rfl, (by decide : 4 < 1000), rfl, ?_⟩
      refine vq ?_
      refine ⟨_, ?_, rfl, rfl⟩
      (repeat (first | exact Les.nil | refine Les.any ?_ | refine Les.same ?_ | refine Les.v ?_ | refine Les.o rfl ?_ | refine Les.o (d_ls _) ?_ | refine Les.p rfl ?_))
  · rintro as ps ⟨rfl, rfl⟩
    rw [rng_len]
    refine vq ?_
    refine vx_fldaugA (cc := cc) (ns := ["machine", "moves_told", "runs_told", "earlier"]) (a := (n : Int)) (b := (k : Int)) (ts := [.cl (m.d mc), .cl (.int (n : Int)), .cl (dI (goN m.w m.s (n + k))), .cl (.tup ((E ++ [n]).map (dE m)))]) (as' := [.p, .p, .any, .any, .any, .any, .any, .any]) (ps' := [wk cc mc m (n + k) (E ++ [n]), .cl (.int (k : Int))]) rfl rfl rfl (by decide : 4 < 1000) rfl ?_
    refine vq ?_
    exact ⟨rfl, rfl⟩
def pE2 (p : Int × List Int) : PyData := .tuple [.int p.1, .tuple (p.2.map .int)]
theorem tel_E2 : Tel pE2 2 := by
  have t := tel_int.tup
  refine ⟨fun x => ?_, fun x => ?_, fun x y => ?_⟩
  · have h := t.lay x.2
    unfold pE2 PyData.canLay0
    simp only [PyData.canLayAll0, tel_int.lay, Bool.true_and, Bool.and_true]
    exact h
  · have h := t.dep x.2
    unfold pE2 PyData.depth
    simp only [PyData.depthAll, (lay_int x.1).2]
    simp only [Nat.zero_max, Nat.max_zero]
    exact Nat.le_trans (Nat.add_le_add_right h 1) (by decide)
  · have h := t.eqv x.2 y.2
    unfold pE2
    simp only [PyData.eqv, PyData.eqvAll, Bool.and_true]
    simp only [PyData.eqv] at h
    rw [h]
    obtain ⟨a, b⟩ := x
    obtain ⟨c, d⟩ := y
    by_cases e1 : a = c <;> by_cases e2 : b = d <;> simp [e1, e2]
theorem py_dE (m : Mk) (n : Nat) : (dE m n).py = some (pE2 ((n : Int), goN m.w m.s n)) := by
  refine py_tup ?_
  unfold D.pys
  rw [py_int]
  unfold D.pys
  rw [py_dI]
  rfl
theorem eqD_E (m : Mk) (E : List Nat) : eqD (.tup (E.map (dE m))) (.tup []) = some (decide (E = [])) := by
  have h : eqD (.tup (E.map (dE m))) (.tup (([] : List Nat).map (dE m))) = some (decide (E.map (fun n : Nat => ((n : Int), goN m.w m.s n)) = [])) := by
    unfold eqD
    rw [py_tup (pys_map (dE m) (fun n => pE2 ((n : Int), goN m.w m.s n)) (py_dE m) E), py_tup (pys_map (dE m) (fun n => pE2 ((n : Int), goN m.w m.s n)) (py_dE m) [])]
    simp only
    have e : ∀ E : List Nat, E.map (fun n : Nat => pE2 ((n : Int), goN m.w m.s n)) = (E.map fun n : Nat => ((n : Int), goN m.w m.s n)).map pE2 := fun E => by rw [List.map_map]; rfl
    rw [e, e]
    have sh : ∀ L : List (Int × List Int), SeqAt.shaped (.tuple (L.map pE2)) = true := fun L => by
      unfold SeqAt.shaped
      rw [tel_E2.tup.lay L, decide_eq_true (Nat.le_trans (tel_E2.tup.dep L) (by decide))]
      rfl
    rw [sh, sh, Bool.and_self, if_pos rfl, tel_E2.tup.eqv]
    rfl
  refine h.trans ?_
  congr 1
  rw [decide_eq_decide]
  exact List.map_eq_nil_iff
theorem cut_last {α : Type} (xs : List α) (x : α) : cut (xs ++ [x]) none (some (-1)) = xs := by
  unfold cut
  have h1 : HT.sIx (xs ++ [x]).length 0 none = 0 := by unfold HT.sIx; rfl
  have h2 : HT.sIx (xs ++ [x]).length (xs ++ [x]).length (some (-1)) = xs.length := by
    unfold HT.sIx
    simp
    omega
  rw [h1, h2, List.drop_zero, Nat.sub_zero]
  simp
theorem atI_last {α : Type} (xs : List α) (x : α) : atI (xs ++ [x]) (-1) = some x := by
  unfold atI ixN
  rw [if_neg (by decide), if_pos (by simp; omega)]
  have e : (-1 + ((xs ++ [x]).length : Int)).toNat = xs.length := by
    rw [List.length_append]
    show (-1 + ((xs.length + 1 : Nat) : Int)).toNat = _
    omega
  simp only [e]
  simp
theorem wundo_wf {n j : Nat} {E : List Nat} : Wf g F fWUndo [wk cc mc m n (E ++ [j])] fun u ts => u = .cl .non ∧ ts = [wk cc mc m j E] := by
  refine vf_of rfl rfl ?_
  refine vq ?_
  refine oc_eq (eqD_E m (E ++ [j])) ?_
  rw [decide_eq_false (by simp)]
  refine vq ?_
  refine ve_get (d := dE m j) (by show (atI ((E ++ [j]).map (dE m)) (-1)).map T.cl = _; rw [List.map_append]; exact congrArg (Option.map T.cl) (atI_last (E.map (dE m)) (dE m j))) rfl ?_
  refine ⟨.int (j : Int), dI (goN m.w m.s j), cc, _, _, _, _, cc, _, _, _, _, rfl, rfl, (by decide : 4 < 1000), rfl, rfl, (by decide : 4 < 1000), rfl, ?_⟩
  refine vq ?_
  refine ⟨none, some (-1), .cl (.tup (E.map (dE m))), rfl, rfl, ?_, ?_⟩
  · show some (T.cl (.tup (cut ((E ++ [j]).map (dE m)) none (some (-1))))) = _
    rw [List.map_append]
    exact congrArg (fun l => some (T.cl (.tup l))) (cut_last (E.map (dE m)) (dE m j))
  refine ⟨_, _, _, _, _, rfl, (by decide : 4 < 1000), rfl, ?_⟩
  refine vq ?_
  exact ⟨rfl, rfl⟩
end Mi
namespace Mi.Law
open PySem PySem.Spec PyProof.Rows L2
def top (i : Nat) : Stmt := PySem.Challenge.pw_runcounts_k54_whole_walks_from_both_ends.main.body.getD i (.Pass ⟨0, 0, 0, 0⟩)
def inCls (j : Nat) : Stmt → Stmt
  | .ClassDef _ _ _ b _ _ _ _ _ _ _ => b.getD j (.Pass ⟨0, 0, 0, 0⟩)
  | s => s
def p0 : List Str := ["self", "machine"]
def n0 : List Str := ["self", "machine"]
def f0 : Fn := ⟨2, 2, (.cons (.fld (.var 0) "machine" (.get (.var 1))) (.cons (.fld (.var 0) "moves_told" (.int 0)) (.cons (.fld (.var 0) "runs_told" (.get (.at (.var 1) "starts"))) (.cons (.fld (.var 0) "earlier" (.tup .nil)) .nil))))⟩
def p1 : List Str := ["self"]
def n1 : List Str := ["self"]
def f1 : Fn := ⟨1, 1, (.cons (.ret (.get (.at (.var 0) "moves_told"))) .nil)⟩
def p2 : List Str := ["self"]
def n2 : List Str := ["self"]
def f2 : Fn := ⟨1, 1, (.cons (.ret (.get (.at (.var 0) "runs_told"))) .nil)⟩
def p3 : List Str := ["self"]
def n3 : List Str := ["self", "number", "end"]
def f3 : Fn := ⟨1, 3, (.cons (.ret (.f1 .sum (.lc [1, 2] (.tup [(.var 1), (.var 2)]) (.zip (.get (.at (.var 0) "runs_told")) (.get (.at (.at (.var 0) "machine") "ends"))) (.bl true) (.bin .mul (.get (.var 1)) (.get (.var 2)))))) .nil)⟩
def p4 : List Str := ["self"]
def n4 : List Str := ["self"]
def f4 : Fn := ⟨1, 1, (.cons (.ret (.x (.len (.at (.var 0) "earlier")))) .nil)⟩
def p5 : List Str := ["self", "many"]
def n5 : List Str := ["self", "many", "turn", "found", "number", "moves", "state", "times"]
def f5 : Fn := ⟨2, 8, (.cons (.fld (.var 0) "earlier" (.tup (.star (.get (.at (.var 0) "earlier")) (.cons (.tup (.cons (.get (.at (.var 0) "moves_told")) (.cons (.get (.at (.var 0) "runs_told")) .nil))) .nil)))) (.cons (.fr (.var 2) (.rng1 (.get (.var 1))) (.cons (.asg 3 (.bin .mul (.lst (.cons (.int 0) .nil)) (.x (.len (.at (.var 0) "runs_told"))))) (.cons (.fr (.tup [(.var 4), (.var 5)]) (.zip (.get (.at (.var 0) "runs_told")) (.get (.at (.at (.var 0) "machine") "moves"))) (.cons (.fr (.tup [(.var 6), (.var 7)]) (.seq (.get (.var 5))) (.cons (.augx (.var 3) (.rd (.var 6)) .add (.bin .mul (.get (.var 4)) (.get (.var 7)))) .nil)) .nil)) (.cons (.fld (.var 0) "runs_told" (.f1p .tuple (.var 3))) .nil)))) (.cons (.fldaug (.var 0) "moves_told" .add (.get (.var 1))) .nil)))⟩
def p6 : List Str := ["self"]
def n6 : List Str := ["self"]
def f6 : Fn := ⟨1, 1, (.cons (.ite (.cmp .eq (.get (.at (.var 0) "earlier")) (.tup .nil)) (.cons .never .nil) .nil) (.cons (.fld2 (.var 0) "moves_told" "runs_told" (.get (.ix (.at (.var 0) "earlier") (.neg (.int 1))))) (.cons (.fld (.var 0) "earlier" (.sl (.get (.at (.var 0) "earlier")) none (some (.neg (.int 1))))) .nil)))⟩
def p7 : List Str := ["moves", "runs"]
def n7 : List Str := ["moves", "runs", "found", "times", "row", "target", "number"]
def f7 : Fn := ⟨2, 7, (.cons (.asg 2 (.bin .mul (.lst (.cons (.int 0) .nil)) (.x (.len (.var 0))))) (.cons (.fr (.tup [(.var 3), (.var 4)]) (.zip (.get (.var 1)) (.get (.var 0))) (.cons (.fr (.tup [(.var 5), (.var 6)]) (.seq (.get (.var 4))) (.cons (.augx (.var 2) (.rd (.var 5)) .add (.bin .mul (.get (.var 3)) (.get (.var 6)))) .nil)) .nil)) (.cons (.ret (.f1p .tuple (.var 2))) .nil)))⟩
def p8 : List Str := ["moves", "runs", "many"]
def n8 : List Str := ["moves", "runs", "many", "found", "turn"]
def f8 : Fn := ⟨3, 5, (.cons (.asg 3 (.get (.var 1))) (.cons (.fr (.var 4) (.rng1 (.get (.var 2))) (.cons (.asg 3 (.call 7 (.cons (.get (.var 0)) (.cons (.get (.var 3)) .nil)) .nil [0, 1])) .nil)) (.cons (.ret (.get (.var 3))) .nil)))⟩
def p9 : List Str := ["numbers"]
def n9 : List Str := ["numbers", "state", "number"]
def f9 : Fn := ⟨1, 3, (.cons (.ret (.f1 .tuple (.lc [1, 2] (.tup [(.var 1), (.var 2)]) (.enum (.get (.var 0))) (.cmp .gt (.get (.var 2)) (.int 0)) (.tup (.cons (.get (.var 1)) (.cons (.get (.var 2)) .nil)))))) .nil)⟩
def p10 : List Str := ["machine", "step", "rest"]
def n10 : List Str := ["machine", "step", "rest", "size", "moves", "state", "alone", "place"]
def f10 : Fn := ⟨3, 8, (.cons (.par 3 4 (.x (.len (.at (.var 0) "starts"))) (.lst .nil)) (.cons (.fr (.var 5) (.rng1 (.get (.var 3))) (.cons (.asg 6 (.f1 .tuple (.lc [7] (.var 7) (.rng1 (.get (.var 3))) (.bl true) (.f1 .int (.cmp .eq (.get (.var 7)) (.get (.var 5))))))) (.cons (.app (.var 4) (.call 9 (.cons (.call 8 (.cons (.get (.at (.var 0) "moves")) (.cons (.get (.var 6)) (.cons (.get (.var 1)) .nil))) .nil [0, 1, 2]) .nil) .nil [0])) .nil))) (.cons (.ret (.tup (.cons (.call 8 (.cons (.get (.at (.var 0) "moves")) (.cons (.get (.at (.var 0) "starts")) (.cons (.get (.var 2)) .nil))) .nil [0, 1, 2]) (.cons (.f1p .tuple (.var 4)) (.cons (.get (.at (.var 0) "ends")) .nil))))) .nil)))⟩
def p11 : List Str := ["machine"]
def n11 : List Str := ["machine", "rows", "state", "row", "target", "number"]
def f11 : Fn := ⟨1, 6, (.cons (.asg 1 (.lc [2] (.var 2) (.seq (.get (.at (.var 0) "starts"))) (.bl true) (.lst .nil))) (.cons (.fr (.tup [(.var 2), (.var 3)]) (.enum (.get (.at (.var 0) "moves"))) (.cons (.fr (.tup [(.var 4), (.var 5)]) (.seq (.get (.var 3))) (.cons (.app (.ix (.var 1) (.rd (.var 4))) (.tup (.cons (.get (.var 2)) (.cons (.get (.var 5)) .nil)))) .nil)) .nil)) (.cons (.ret (.tup (.cons (.get (.at (.var 0) "ends")) (.cons (.f1 .tuple (.lc [3] (.var 3) (.seq (.get (.var 1))) (.bl true) (.f1 .tuple (.get (.var 3))))) (.cons (.get (.at (.var 0) "starts")) .nil))))) .nil)))⟩
def p12 : List Str := ["thing", "least"]
def n12 : List Str := ["thing", "least"]
def f12 : Fn := ⟨2, 2, (.cons (.ret (.and (.isi (.bi "int") (.get (.var 0))) (.and (.not (.isi (.bi "bool") (.get (.var 0)))) (.cmp .ge (.get (.var 0)) (.get (.var 1)))))) .nil)⟩
def p13 : List Str := ["thing"]
def n13 : List Str := ["thing", "number"]
def f13 : Fn := ⟨1, 2, (.cons (.ret (.and (.isi (.bi "tuple") (.get (.var 0))) (.f1 .all (.lc [1] (.var 1) (.seq (.get (.var 0))) (.bl true) (.call 12 (.cons (.get (.var 1)) (.cons (.int 0) .nil)) .nil [0, 1]))))) .nil)⟩
def p14 : List Str := ["size", "thing"]
def n14 : List Str := ["size", "thing"]
def f14 : Fn := ⟨2, 2, (.cons (.ite (.or (.not (.isi (.bi "tuple") (.get (.var 1)))) (.cmp .ne (.x (.len (.var 1))) (.glb "PAIR_machines"))) (.cons (.ret (.bl false)) .nil) .nil) (.cons (.ret (.and (.call 12 (.cons (.get (.ix (.var 1) (.int 0))) (.cons (.int 0) .nil)) .nil [0, 1]) (.and (.cmp .lt (.get (.ix (.var 1) (.int 0))) (.get (.var 0))) (.call 12 (.cons (.get (.ix (.var 1) (.int 1))) (.cons (.int 1) .nil)) .nil [0, 1])))) .nil))⟩
def p15 : List Str := ["size", "thing"]
def n15 : List Str := ["size", "thing", "one", "other", "move"]
def f15 : Fn := ⟨2, 5, (.cons (.ite (.or (.not (.isi (.bi "tuple") (.get (.var 1)))) (.not (.f1 .all (.lc [4] (.var 4) (.seq (.get (.var 1))) (.bl true) (.call 14 (.cons (.get (.var 0)) (.cons (.get (.var 4)) .nil)) .nil [0, 1]))))) (.cons (.ret (.bl false)) .nil) .nil) (.cons (.ret (.f1 .all (.lc [2, 3] (.tup [(.var 2), (.var 3)]) (.zip (.get (.var 1)) (.sl (.get (.var 1)) (some (.int 1)) none)) (.bl true) (.cmp .lt (.get (.ix (.var 2) (.int 0))) (.get (.ix (.var 3) (.int 0))))))) .nil))⟩
def p16 : List Str := ["self", "starts", "moves", "ends"]
def n16 : List Str := ["self", "starts", "moves", "ends", "row"]
def f16 : Fn := ⟨4, 5, (.cons (.ite (.not (.call 13 (.cons (.get (.var 1)) .nil) .nil [0])) (.cons .never .nil) .nil) (.cons (.ite (.or (.not (.isi (.bi "tuple") (.get (.var 2)))) (.cmp .ne (.x (.len (.var 2))) (.x (.len (.var 1))))) (.cons .never .nil) .nil) (.cons (.fr (.var 4) (.seq (.get (.var 2))) (.cons (.ite (.not (.call 15 (.cons (.x (.len (.var 1))) (.cons (.get (.var 4)) .nil)) .nil [0, 1])) (.cons .never .nil) .nil) .nil)) (.cons (.ite (.or (.not (.call 13 (.cons (.get (.var 3)) .nil) .nil [0])) (.cmp .ne (.x (.len (.var 3))) (.x (.len (.var 1))))) (.cons .never .nil) .nil) (.cons (.fld (.var 0) "starts" (.get (.var 1))) (.cons (.fld (.var 0) "moves" (.get (.var 2))) (.cons (.fld (.var 0) "ends" (.get (.var 3))) .nil)))))))⟩
def p17 : List Str := ["self", "other"]
def n17 : List Str := ["self", "other"]
def f17 : Fn := ⟨2, 2, (.cons (.ite (.not (.isi (.own 0 2) (.get (.var 1)))) (.cons (.ret (.bl false)) .nil) .nil) (.cons (.ret (.and (.cmp .eq (.get (.at (.var 0) "starts")) (.get (.at (.var 1) "starts"))) (.and (.cmp .eq (.get (.at (.var 0) "moves")) (.get (.at (.var 1) "moves"))) (.cmp .eq (.get (.at (.var 0) "ends")) (.get (.at (.var 1) "ends")))))) .nil))⟩
def p18 : List Str := ["self", "step", "rest"]
def n18 : List Str := ["self", "step", "rest", "parts"]
def f18 : Fn := ⟨3, 4, (.cons (.asg 3 (.call 10 (.cons (.get (.var 0)) (.cons (.get (.var 1)) (.cons (.get (.var 2)) .nil))) .nil [0, 1, 2])) (.cons (.ret (.mkS 0 16 (.get (.var 3)) [0, 1, 2, 3])) .nil))⟩
def p19 : List Str := ["self"]
def n19 : List Str := ["self", "parts"]
def f19 : Fn := ⟨1, 2, (.cons (.asg 1 (.call 11 (.cons (.get (.var 0)) .nil) .nil [0])) (.cons (.ret (.mkS 0 16 (.get (.var 1)) [0, 1, 2, 3])) .nil))⟩
def p20 : List Str := ["_law_script"]
def n20 : List Str := ["_law_script", "_law_cells", "_law_blend", "_law_cell"]
def f20 : Fn := ⟨1, 4, (.cons (.par 1 2 (.f1 .list (.sl (.get (.var 0)) none (some (.int 63)))) (.int 10851032)) (.cons (.fr (.var 3) (.seq (.get (.var 1))) (.cons (.asg 2 (.bin .mod (.f1 .int (.bin .add (.bin .add (.bin .mul (.get (.var 2)) (.int 48271)) (.bin .mod (.f1 .int (.get (.var 3))) (.int 2147483629))) (.int 32))) (.int 2147483587))) .nil)) (.cons (.ret (.dct [.inr "cells", .inr "blend", .inr "drawn"] (.cons (.rev (.get (.var 1))) (.cons (.get (.var 2)) (.cons (.int 0) .nil))))) .nil)))⟩
def p21 : List Str := ["_law_deck_here", "_law_below"]
def n21 : List Str := ["_law_deck_here", "_law_below", "_law_turn", "_law_blend", "_law_cell"]
def f21 : Fn := ⟨2, 5, (.cons (.setx (.var 0) (.str "drawn") (.bin .add (.get (.ix (.var 0) (.str "drawn"))) (.int 1))) (.cons (.par 2 3 (.get (.ix (.var 0) (.str "drawn"))) (.get (.ix (.var 0) (.str "blend")))) (.cons (.ite (.emp true (.ix (.var 0) (.str "cells"))) (.cons (.asg 4 (.pop (.ix (.var 0) (.str "cells")))) (.cons (.ite (.cmp .ge (.get (.var 4)) (.bin .pow (.int 10) (.int 18))) (.cons (.app (.ix (.var 0) (.str "cells")) (.bin .fdiv (.get (.var 4)) (.get (.var 1)))) (.cons (.ret (.bin .mod (.f1 .int (.get (.var 4))) (.get (.var 1)))) .nil)) .nil) (.cons (.asg 3 (.bin .add (.get (.var 3)) (.bin .mod (.f1 .int (.get (.var 4))) (.int 2147483563)))) .nil))) .nil) (.cons (.asg 3 (.bin .mod (.bin .mul (.f1 .int (.bin .add (.bin .add (.bin .mod (.f1 .int (.get (.var 3))) (.int 2147483629)) (.bin .mul (.bin .mul (.int 60719) (.get (.var 2))) (.get (.var 2)))) (.int 37))) (.int 40692)) (.int 2147483647))) (.cons (.asg 3 (.bin .mod (.f1 .int (.bin .add (.bin .add (.bin .mul (.get (.var 3)) (.get (.var 3))) (.bin .mul (.int 39373) (.get (.var 2)))) (.int 17))) (.int 2147483579))) (.cons (.ret (.bin .mod (.bin .fdiv (.bin .mod (.f1 .int (.bin .mul (.get (.var 3)) (.int 69621))) (.int 2147483549)) (.int 64)) (.get (.var 1)))) .nil))))))⟩
def p22 : List Str := ["_law_deck_here", "_law_top", "_law_great"]
def n22 : List Str := ["_law_deck_here", "_law_top", "_law_great", "_law_size", "_law_begins", "_law_ways", "_law_x", "_law_y"]
def f22 : Fn := ⟨3, 8, (.cons (.asg 3 (.call 21 (.mut 0 (.cons (.bin .add (.get (.var 1)) (.int 1)) .nil)) .nil [0, 1])) (.cons (.asg 4 (.f1 .tuple (.lc [6] (.var 6) (.rng1 (.get (.var 3))) (.bl true) (.bin .mul (.call 21 (.mut 0 (.cons (.int 3) .nil)) .nil [0, 1]) (.call 21 (.mut 0 (.cons (.get (.var 2)) .nil)) .nil [0, 1]))))) (.cons (.asg 5 (.lst .nil)) (.cons (.fr (.var 6) (.rng1 (.get (.var 3))) (.cons (.app (.var 5) (.f1 .tuple (.lc [7] (.var 7) (.rng1 (.get (.var 3))) (.cmp .eq (.call 21 (.mut 0 (.cons (.int 3) .nil)) .nil [0, 1]) (.int 0)) (.tup (.cons (.get (.var 7)) (.cons (.bin .add (.int 1) (.call 21 (.mut 0 (.cons (.get (.var 2)) .nil)) .nil [0, 1])) .nil)))))) .nil)) (.cons (.ret (.tup (.cons (.get (.var 4)) (.cons (.f1p .tuple (.var 5)) (.cons (.f1 .tuple (.lc [6] (.var 6) (.rng1 (.get (.var 3))) (.bl true) (.call 21 (.mut 0 (.cons (.int 3) .nil)) .nil [0, 1]))) .nil))))) .nil)))))⟩
def p23 : List Str := ["_law_engine", "_law_top"]
def n23 : List Str := ["_law_engine", "_law_top", "_law_here", "_law_found", "_law_turn", "_law_fresh", "_law_x", "_law_line", "_law_y", "_law_often"]
def f23 : Fn := ⟨2, 10, (.cons (.parN 2 3 (.f1 .list (.get (.ix (.var 0) (.int 0)))) (.lst .nil)) (.cons (.fr (.var 4) (.rng1 (.get (.var 1))) (.cons (.app (.var 3) (.f1 .sum (.lc [6] (.var 6) (.rng1 (.x (.len (.var 2)))) (.bl true) (.bin .mul (.get (.ix (.var 2) (.rd (.var 6)))) (.get (.ix (.ix (.var 0) (.int 2)) (.rd (.var 6)))))))) (.cons (.asg 5 (.bin .mul (.lst (.cons (.int 0) .nil)) (.x (.len (.var 2))))) (.cons (.fr (.tup [(.var 6), (.var 7)]) (.enum (.get (.ix (.var 0) (.int 1)))) (.cons (.fr (.tup [(.var 8), (.var 9)]) (.seq (.get (.var 7))) (.cons (.setx (.var 5) (.rd (.var 8)) (.bin .add (.get (.ix (.var 5) (.rd (.var 8)))) (.bin .mul (.get (.ix (.var 2) (.rd (.var 6)))) (.get (.var 9))))) .nil)) .nil)) (.cons (.asg 2 (.get (.var 5))) .nil))))) (.cons (.ret (.f1p .tuple (.var 3))) .nil)))⟩
def p24 : List Str := ["_law_near", "_law_far"]
def n24 : List Str := ["_law_near", "_law_far", "_law_x", "_law_y"]
def f24 : Fn := ⟨2, 4, (.cons (.ret (.f1 .sum (.lc [2, 3] (.tup [(.var 2), (.var 3)]) (.zip (.prop 1 "runs" 2 (.mut 0 .nil)) (.prop 1 "runs" 2 (.mut 1 .nil))) (.bl true) (.bin .mul (.get (.var 2)) (.get (.var 3)))))) .nil)⟩
def p25 : List Str := ["_law_deck_here", "_law_walk", "_law_most"]
def n25 : List Str := ["_law_deck_here", "_law_walk", "_law_most", "_law_goes", "_law_so_far", "_law_few"]
def f25 : Fn := ⟨3, 6, (.cons (.parN 3 4 (.int 0) (.int 0)) (.cons (.wh (.cmp .lt (.get (.var 4)) (.get (.var 2))) (.cons (.asg 5 (.f2 .min (.bin .sub (.get (.var 2)) (.get (.var 4))) (.bin .add (.int 1) (.call 21 (.mut 0 (.cons (.int 7) .nil)) .nil [0, 1])))) (.cons (.ite (.cmp .notn (.methD 1 "go" 5 (.mut 1 .nil) (.cons (.get (.var 5)) .nil) .nil [] [0, 1]) .non) (.cons (.ret (.neg (.int 1))) .nil) .nil) (.cons (.par 3 4 (.bin .add (.get (.var 3)) (.int 1)) (.bin .add (.get (.var 4)) (.get (.var 5)))) .nil)))) (.cons (.ret (.get (.var 3))) .nil)))⟩
def p26 : List Str := ["_law_deck_here", "_law_engine"]
def n26 : List Str := ["_law_deck_here", "_law_engine", "_law_it", "_law_due", "_law_near", "_law_far", "_law_some", "_law_more", "_law_goes", "_law_back", "_law_wide", "_law_there"]
def f26 : Fn := ⟨2, 12, (.cons (.par 2 3 (.mk 0 16 (.cons (.get (.ix (.var 1) (.int 0))) (.cons (.get (.ix (.var 1) (.int 1))) (.cons (.get (.ix (.var 1) (.int 2))) .nil))) .nil [0, 1, 2, 3]) (.call 23 (.cons (.get (.var 1)) (.cons (.int 61) .nil)) .nil [0, 1])) (.cons (.par 4 5 (.mk 1 0 (.cons (.get (.var 2)) .nil) .nil [0, 1]) (.mk 1 0 .nil (.cons (.meth 0 "turned" 19 (.cons (.get (.var 2)) .nil) .nil .nil [0]) .nil) [0, 1])) (.cons (.par 6 7 (.call 21 (.mut 0 (.cons (.int 31) .nil)) .nil [0, 1]) (.call 21 (.mut 0 (.cons (.int 31) .nil)) .nil [0, 1])) (.cons (.par 8 9 (.call 25 (.mut 0 (.mut 4 (.cons (.get (.var 6)) .nil))) .nil [0, 1, 2]) (.call 25 (.mut 0 (.mut 5 (.cons (.get (.var 7)) .nil))) .nil [0, 1, 2])) (.cons (.ite (.cmp .ne (.lst (.cons (.olen 1 4 (.mut 4 .nil)) (.cons (.olen 1 4 (.mut 5 .nil)) (.cons (.prop 1 "moves_made" 1 (.mut 4 .nil)) (.cons (.prop 1 "moves_made" 1 (.mut 5 .nil)) .nil))))) (.lst (.cons (.get (.var 8)) (.cons (.get (.var 9)) (.cons (.get (.var 6)) (.cons (.get (.var 7)) .nil)))))) (.cons (.ret (.bl false)) .nil) .nil) (.cons (.ite (.or (.cmp .ne (.call 24 (.mut 4 (.mut 5 .nil)) .nil [0, 1]) (.get (.ix (.var 3) (.add (.rd (.var 6)) (.rd (.var 7)))))) (.cmp .ne (.lst (.cons (.prop 1 "accepted" 3 (.mut 4 .nil)) (.cons (.prop 1 "accepted" 3 (.mut 5 .nil)) .nil))) (.lst (.cons (.get (.ix (.var 3) (.rd (.var 6)))) (.cons (.get (.ix (.var 3) (.rd (.var 7)))) .nil))))) (.cons (.ret (.bl false)) .nil) .nil) (.cons (.ite (.and (.cmp .gt (.get (.var 8)) (.int 0)) (.cmp .notn (.meth 1 "undo" 6 (.mut 4 .nil) .nil .nil [0]) .non)) (.cons (.ret (.bl false)) .nil) .nil) (.cons (.ite (.or (.cmp .ne (.call 24 (.mut 4 (.mut 5 .nil)) .nil [0, 1]) (.ix (.get (.var 3)) (.bin .add (.prop 1 "moves_made" 1 (.mut 4 .nil)) (.get (.var 7))))) (.cmp .ne (.prop 1 "accepted" 3 (.mut 4 .nil)) (.ix (.get (.var 3)) (.prop 1 "moves_made" 1 (.mut 4 .nil))))) (.cons (.ret (.bl false)) .nil) .nil) (.cons (.asg 10 (.bin .add (.int 1) (.call 21 (.mut 0 (.cons (.int 5) .nil)) .nil [0, 1]))) (.cons (.asg 11 (.mk 1 0 (.cons (.meth 0 "section" 18 (.cons (.get (.var 2)) .nil) (.cons (.get (.var 10)) (.cons (.int 0) .nil)) .nil [0, 1, 2]) .nil) .nil [0, 1])) (.cons (.ex (.methD 1 "go" 5 (.mut 11 .nil) (.cons (.int 6) .nil) .nil [] [0, 1])) (.cons (.ret (.and (.cmp .eq (.prop 1 "accepted" 3 (.mut 11 .nil)) (.ix (.get (.var 3)) (.bin .mul (.int 6) (.get (.var 10))))) (.oeq 0 17 (.get (.at (.var 4) "machine")) (.get (.var 2))))) .nil))))))))))))⟩
def p27 : List Str := ["_law_script"]
def n27 : List Str := ["_law_script", "_law_deck_here", "_law_go"]
def f27 : Fn := ⟨1, 3, (.cons (.asg 1 (.call 20 (.cons (.get (.var 0)) .nil) .nil [0])) (.cons (.fr (.var 2) (.rng1 (.int 6)) (.cons (.ite (.not (.call 26 (.mut 1 (.cons (.call 22 (.mut 1 (.cons (.int 5) (.cons (.int 4) .nil))) .nil [0, 1, 2]) .nil)) .nil [0, 1])) (.cons (.ret (.bl false)) .nil) .nil) .nil)) (.cons (.ret (.bl true)) .nil)))⟩
def G : List Fn := [f0, f1, f2, f3, f4, f5, f6, f7, f8, f9, f10, f11, f12, f13, f14, f15, f16, f17, f18, f19, f20, f21, f22, f23, f24, f25, f26, f27]
def pats : List (Nat × Nat × List Str × List Nat) := [(7, 2, [], [0, 1]), (8, 3, [], [0, 1, 2]), (9, 1, [], [0]), (12, 2, [], [0, 1]), (14, 2, [], [0, 1]), (13, 1, [], [0]), (15, 2, [], [0, 1]), (16, 4, [], [0, 1, 2, 3]), (10, 3, [], [0, 1, 2]), (11, 1, [], [0]), (21, 2, [], [0, 1]), (2, 1, [], [0]), (17, 2, [], [0, 1]), (3, 1, [], [0]), (0, 2, [], [0, 1]), (18, 3, [], [0, 1, 2]), (1, 1, [], [0]), (24, 2, [], [0, 1]), (6, 1, [], [0]), (4, 1, [], [0]), (25, 3, [], [0, 1, 2]), (0, 1, ["machine"], [0, 1]), (19, 1, [], [0]), (23, 2, [], [0, 1]), (26, 2, [], [0, 1]), (22, 3, [], [0, 1, 2]), (20, 1, [], [0])]
def I : Inf := { fnm := ["", "", "", "", "", "", "", "gone_on", "gone_on_by", "sparse", "by_steps", "turned_about", "is_count", "are_counts", "is_move", "is_row", "", "", "", "", "_law_deck", "_law_draw", "_law_built", "_law_counted", "_law_met", "_law_gone", "_law_right", "law"], glb := [("PAIR_machines", .int 2)], fld := ["earlier", "runs_told", "starts", "moves_told", "machine", "ends", "moves"], pat := pats, cls := ["Machine", "Walk"], mth := [(5, 1, "go"), (17, 0, "__eq__"), (18, 0, "section"), (6, 1, "undo"), (4, 1, "__len__"), (19, 0, "turned")], prp := [(2, 1, "runs"), (3, 1, "accepted"), (1, 1, "moves_made")], ini := [(16, 0), (0, 1)], isc := true, str := [], opr := [], pad := [(5, 2, [], [], [0, 1])] }
theorem s0 : FnScope n0 p0 (defScope (inCls 0 (top 7))) := ⟨rfl, rfl, rfl, by decide +kernel, rfl, by decide +kernel, by decide +kernel⟩
theorem o0 : okSs I ⟨defScope (inCls 0 (top 7)), n0, fun _ => true⟩ f0.body (defBody (inCls 0 (top 7))) = true := by decide +kernel
theorem s1 : FnScope n1 p1 (defScope (inCls 1 (top 7))) := ⟨rfl, rfl, rfl, by decide +kernel, rfl, by decide +kernel, by decide +kernel⟩
theorem o1 : okSs I ⟨defScope (inCls 1 (top 7)), n1, fun _ => true⟩ f1.body (defBody (inCls 1 (top 7))) = true := by decide +kernel
theorem s2 : FnScope n2 p2 (defScope (inCls 2 (top 7))) := ⟨rfl, rfl, rfl, by decide +kernel, rfl, by decide +kernel, by decide +kernel⟩
theorem o2 : okSs I ⟨defScope (inCls 2 (top 7)), n2, fun _ => true⟩ f2.body (defBody (inCls 2 (top 7))) = true := by decide +kernel
theorem s3 : FnScope n3 p3 (defScope (inCls 3 (top 7))) := ⟨rfl, rfl, rfl, by decide +kernel, rfl, by decide +kernel, by decide +kernel⟩
theorem o3 : okSs I ⟨defScope (inCls 3 (top 7)), n3, fun _ => true⟩ f3.body (defBody (inCls 3 (top 7))) = true := by decide +kernel
theorem s4 : FnScope n4 p4 (defScope (inCls 4 (top 7))) := ⟨rfl, rfl, rfl, by decide +kernel, rfl, by decide +kernel, by decide +kernel⟩
theorem o4 : okSs I ⟨defScope (inCls 4 (top 7)), n4, fun _ => true⟩ f4.body (defBody (inCls 4 (top 7))) = true := by decide +kernel
theorem s5 : FnScope n5 p5 (defScope (inCls 5 (top 7))) := ⟨rfl, rfl, rfl, by decide +kernel, rfl, by decide +kernel, by decide +kernel⟩
theorem o5 : okSs I ⟨defScope (inCls 5 (top 7)), n5, fun _ => true⟩ f5.body (defBody (inCls 5 (top 7))) = true := by decide +kernel
theorem s6 : FnScope n6 p6 (defScope (inCls 6 (top 7))) := ⟨rfl, rfl, rfl, by decide +kernel, rfl, by decide +kernel, by decide +kernel⟩
theorem o6 : okSs I ⟨defScope (inCls 6 (top 7)), n6, fun _ => true⟩ f6.body (defBody (inCls 6 (top 7))) = true := by decide +kernel
theorem s7 : FnScope n7 p7 (defScope (top 9)) := ⟨rfl, rfl, rfl, by decide +kernel, rfl, by decide +kernel, by decide +kernel⟩
theorem o7 : okSs I ⟨defScope (top 9), n7, fun _ => true⟩ f7.body (defBody (top 9)) = true := by decide +kernel
theorem s8 : FnScope n8 p8 (defScope (top 10)) := ⟨rfl, rfl, rfl, by decide +kernel, rfl, by decide +kernel, by decide +kernel⟩
theorem o8 : okSs I ⟨defScope (top 10), n8, fun _ => true⟩ f8.body (defBody (top 10)) = true := by decide +kernel
theorem s9 : FnScope n9 p9 (defScope (top 11)) := ⟨rfl, rfl, rfl, by decide +kernel, rfl, by decide +kernel, by decide +kernel⟩
theorem o9 : okSs I ⟨defScope (top 11), n9, fun _ => true⟩ f9.body (defBody (top 11)) = true := by decide +kernel
theorem s10 : FnScope n10 p10 (defScope (top 18)) := ⟨rfl, rfl, rfl, by decide +kernel, rfl, by decide +kernel, by decide +kernel⟩
theorem o10 : okSs I ⟨defScope (top 18), n10, fun _ => true⟩ f10.body (defBody (top 18)) = true := by decide +kernel
theorem s11 : FnScope n11 p11 (defScope (top 19)) := ⟨rfl, rfl, rfl, by decide +kernel, rfl, by decide +kernel, by decide +kernel⟩
theorem o11 : okSs I ⟨defScope (top 19), n11, fun _ => true⟩ f11.body (defBody (top 19)) = true := by decide +kernel
theorem s12 : FnScope n12 p12 (defScope (top 34)) := ⟨rfl, rfl, rfl, by decide +kernel, rfl, by decide +kernel, by decide +kernel⟩
theorem o12 : okSs I ⟨defScope (top 34), n12, fun _ => true⟩ f12.body (defBody (top 34)) = true := by decide +kernel
theorem s13 : FnScope n13 p13 (defScope (top 35)) := ⟨rfl, rfl, rfl, by decide +kernel, rfl, by decide +kernel, by decide +kernel⟩
theorem o13 : okSs I ⟨defScope (top 35), n13, fun _ => true⟩ f13.body (defBody (top 35)) = true := by decide +kernel
theorem s14 : FnScope n14 p14 (defScope (top 36)) := ⟨rfl, rfl, rfl, by decide +kernel, rfl, by decide +kernel, by decide +kernel⟩
theorem o14 : okSs I ⟨defScope (top 36), n14, fun _ => true⟩ f14.body (defBody (top 36)) = true := by decide +kernel
theorem s15 : FnScope n15 p15 (defScope (top 37)) := ⟨rfl, rfl, rfl, by decide +kernel, rfl, by decide +kernel, by decide +kernel⟩
theorem o15 : okSs I ⟨defScope (top 37), n15, fun _ => true⟩ f15.body (defBody (top 37)) = true := by decide +kernel
theorem s16 : FnScope n16 p16 (defScope (inCls 0 (top 38))) := ⟨rfl, rfl, rfl, by decide +kernel, rfl, by decide +kernel, by decide +kernel⟩
theorem o16 : okSs I ⟨defScope (inCls 0 (top 38)), n16, fun _ => true⟩ f16.body (defBody (inCls 0 (top 38))) = true := by decide +kernel
theorem s17 : FnScope n17 p17 (defScope (inCls 4 (top 38))) := ⟨rfl, rfl, rfl, by decide +kernel, rfl, by decide +kernel, by decide +kernel⟩
theorem o17 : okSs I ⟨defScope (inCls 4 (top 38)), n17, fun _ => true⟩ f17.body (defBody (inCls 4 (top 38))) = true := by decide +kernel
theorem s18 : FnScope n18 p18 (defScope (inCls 14 (top 38))) := ⟨rfl, rfl, rfl, by decide +kernel, rfl, by decide +kernel, by decide +kernel⟩
theorem o18 : okSs I ⟨defScope (inCls 14 (top 38)), n18, fun _ => true⟩ f18.body (defBody (inCls 14 (top 38))) = true := by decide +kernel
theorem s19 : FnScope n19 p19 (defScope (inCls 15 (top 38))) := ⟨rfl, rfl, rfl, by decide +kernel, rfl, by decide +kernel, by decide +kernel⟩
theorem o19 : okSs I ⟨defScope (inCls 15 (top 38)), n19, fun _ => true⟩ f19.body (defBody (inCls 15 (top 38))) = true := by decide +kernel
theorem s20 : FnScope n20 p20 (defScope (top 40)) := ⟨rfl, rfl, rfl, by decide +kernel, rfl, by decide +kernel, by decide +kernel⟩
theorem o20 : okSs I ⟨defScope (top 40), n20, fun _ => true⟩ f20.body (defBody (top 40)) = true := by decide +kernel
theorem s21 : FnScope n21 p21 (defScope (top 41)) := ⟨rfl, rfl, rfl, by decide +kernel, rfl, by decide +kernel, by decide +kernel⟩
theorem o21 : okSs I ⟨defScope (top 41), n21, fun _ => true⟩ f21.body (defBody (top 41)) = true := by decide +kernel
theorem s22 : FnScope n22 p22 (defScope (top 43)) := ⟨rfl, rfl, rfl, by decide +kernel, rfl, by decide +kernel, by decide +kernel⟩
theorem o22 : okSs I ⟨defScope (top 43), n22, fun _ => true⟩ f22.body (defBody (top 43)) = true := by decide +kernel
theorem s23 : FnScope n23 p23 (defScope (top 44)) := ⟨rfl, rfl, rfl, by decide +kernel, rfl, by decide +kernel, by decide +kernel⟩
theorem o23 : okSs I ⟨defScope (top 44), n23, fun _ => true⟩ f23.body (defBody (top 44)) = true := by decide +kernel
theorem s24 : FnScope n24 p24 (defScope (top 45)) := ⟨rfl, rfl, rfl, by decide +kernel, rfl, by decide +kernel, by decide +kernel⟩
theorem o24 : okSs I ⟨defScope (top 45), n24, fun _ => true⟩ f24.body (defBody (top 45)) = true := by decide +kernel
theorem s25 : FnScope n25 p25 (defScope (top 46)) := ⟨rfl, rfl, rfl, by decide +kernel, rfl, by decide +kernel, by decide +kernel⟩
theorem o25 : okSs I ⟨defScope (top 46), n25, fun _ => true⟩ f25.body (defBody (top 46)) = true := by decide +kernel
theorem s26 : FnScope n26 p26 (defScope (top 47)) := ⟨rfl, rfl, rfl, by decide +kernel, rfl, by decide +kernel, by decide +kernel⟩
theorem o26 : okSs I ⟨defScope (top 47), n26, fun _ => true⟩ f26.body (defBody (top 47)) = true := by decide +kernel
theorem s27 : FnScope n27 p27 (defScope (top 48)) := ⟨rfl, rfl, rfl, by decide +kernel, rfl, by decide +kernel, by decide +kernel⟩
theorem o27 : okSs I ⟨defScope (top 48), n27, fun _ => true⟩ f27.body (defBody (top 48)) = true := by decide +kernel
end Mi.Law
namespace Mi.Law
def depth : Nat := 10
end Mi.Law
set_option maxHeartbeats 4000000
namespace Mi.Law
open PySem L2 Mi
theorem N54 : MNum I.glb G 12 13 14 15 16 := ⟨rfl, rfl, rfl, rfl, rfl, rfl⟩
variable {k C : Nat} {a b m : Mk}
theorem turned54 (k : Nat) (h : m.Ok C) (hl : m.s.length ≤ 1000) : AtT (sem I.glb G (k + 5)) 19 [m.d 0] (m.T.t 0) := turned_at k N54 (tu := 11) rfl rfl h hl
theorem counted54 (k : Nat) (h : m.Ok C) (l : m.s.length ≤ 300) (hC : C ≤ 2 ^ 40) {n : Nat} (hn : n ≤ 70) : At (sem I.glb G (k + 1)) 23 [m.g, .int n] (dI (row m.c n)) := counted_atC rfl k h (by omega) (i := n) (by omega) (a := 9) (c := 40) ⟨by omega, hC, by have := Nat.mul_le_mul_left (2 * 9 + 40) hn; omega⟩
theorem eq54 (k : Nat) (m : Mk) : At (sem I.glb G (k + 1)) 17 [m.d 0, m.d 0] (.bl true) := by
  refine at_of rfl (vf_of rfl rfl ?_)
  refine vq ?_
  refine oc_eq_dI ?_
  rw [decide_eq_true rfl]
  refine vq ?_
  refine oc_eq_dMv ?_
  rw [decide_eq_true rfl]
  refine vq ?_
  refine oc_eq_dI ?_
  rw [decide_eq_true rfl]
  refine vq ?_
  exact ⟨rfl, rfl⟩
abbrev W (m : Mk) (n : Nat) (E : List Nat) : T := wk 1 0 m n E
theorem fits {n : Nat} (l : m.s.length ≤ 300) (hC : C ≤ 2 ^ 40) (hn : n ≤ 70) : Fits 9 40 n C m.s.length := ⟨by omega, hC, by have := Nat.mul_le_mul_left (2 * 9 + 40) hn; omega⟩
theorem mkW (k : Nat) (m : Mk) : mkGo (sem I.glb G (k + 1)) 1 0 [0, 1] [.inl (m.d 0)] = some (W m 0 []) := by
  obtain ⟨u, us, e1, rfl, rfl⟩ := winit_wf (g := I.glb) (F := sem I.glb G k) (cc := 1) (mc := 0) (m := m)
  have : sem I.glb G (k + 1) 0 [.ob 1 [] [], .cl (m.d 0)] = _ := sem_of rfl e1
  unfold mkGo
  show (if _ then match sem I.glb G (k + 1) 0 [.ob 1 [] [], .cl (m.d 0)] with | some (.cl .non, t :: ts) => if ts.length + 1 = _ then some t else none | _ => none else none) = _
  rw [if_pos (by decide), this]
  rfl
theorem wm_W {K : T → Prop} (k : Nat) (m : Mk) (q : K (W m 0 [])) : Wm (sem I.glb G (k + 1)) 1 0 [0, 1] [.inl (m.d 0)] K := ⟨_, mkW k m, q⟩
section
variable {np : Nat} {gl : List (Str × D)} {as : List A} {ps : List T} {Q : T → List A → List T → Prop} {i j n : Nat} {mm : Int} {t : T} {E : List Nat}
theorem vc_moves (k : Nat) (e : treeA as ps i = some (W m n E)) (q : Q (.cl (.int (n : Int))) (putA as ps i (W m n E)).1 (putA as ps i (W m n E)).2) : Vc ⟨sem I.glb G (k + 1), np, gl⟩ 1 [0] [.inr i] as ps Q := by
  obtain ⟨u, us, e2, rfl, rfl⟩ := wmoves_wf (g := I.glb) (F := sem I.glb G k) (cc := 1) (mc := 0) (m := m) (n := n) (E := E)
  have e3 : sem I.glb G (k + 1) 1 [W m n E] = some (.cl (.int (n : Int)), [W m n E]) := sem_of rfl e2
  generalize sem I.glb G (k + 1) = F at e3 ⊢
  exact vc_call (ys := [.inr i]) (ts := [W m n E]) (ts' := [W m n E]) rfl (by unfold treesA; rw [e]; rfl) (by simp [slotsOf]) e3 rfl q
theorem vc_runs (k : Nat) (e : treeA as ps i = some (W m n E)) (q : Q (.cl (dI (goN m.w m.s n))) (putA as ps i (W m n E)).1 (putA as ps i (W m n E)).2) : Vc ⟨sem I.glb G (k + 1), np, gl⟩ 2 [0] [.inr i] as ps Q := by
  obtain ⟨u, us, e2, rfl, rfl⟩ := wruns_wf (g := I.glb) (F := sem I.glb G k) (cc := 1) (mc := 0) (m := m) (n := n) (E := E)
  have e3 : sem I.glb G (k + 1) 2 [W m n E] = some (.cl (dI (goN m.w m.s n)), [W m n E]) := sem_of rfl e2
  generalize sem I.glb G (k + 1) = F at e3 ⊢
  exact vc_call (ys := [.inr i]) (ts := [W m n E]) (ts' := [W m n E]) rfl (by unfold treesA; rw [e]; rfl) (by simp [slotsOf]) e3 rfl q
theorem vc_acc (k : Nat) (h : m.Ok C) (l : m.s.length ≤ 300) (hC : C ≤ 2 ^ 40) (hn : n ≤ 70) (e : treeA as ps i = some (W m n E)) (q : Q (.cl (.int (m.c n))) (putA as ps i (W m n E)).1 (putA as ps i (W m n E)).2) : Vc ⟨sem I.glb G (k + 1), np, gl⟩ 3 [0] [.inr i] as ps Q := by
  obtain ⟨u, us, e2, rfl, rfl⟩ := wacc_wf (g := I.glb) (F := sem I.glb G k) (cc := 1) (mc := 0) (E := E) h (by omega) (fits l hC hn)
  have e3 : sem I.glb G (k + 1) 3 [W m n E] = some (.cl (.int (m.c n)), [W m n E]) := sem_of rfl e2
  generalize sem I.glb G (k + 1) = F at e3 ⊢
  exact vc_call (ys := [.inr i]) (ts := [W m n E]) (ts' := [W m n E]) rfl (by unfold treesA; rw [e]; rfl) (by simp [slotsOf]) e3 rfl q
theorem vc_wlen (k : Nat) (e : treeA as ps i = some (W m n E)) (q : Q (.cl (.int (E.length : Int))) (putA as ps i (W m n E)).1 (putA as ps i (W m n E)).2) : Vc ⟨sem I.glb G (k + 1), np, gl⟩ 4 [0] [.inr i] as ps Q := by
  obtain ⟨u, us, e2, rfl, rfl⟩ := wlen_wf (g := I.glb) (F := sem I.glb G k) (cc := 1) (mc := 0) (m := m) (n := n) (E := E)
  have e3 : sem I.glb G (k + 1) 4 [W m n E] = some (.cl (.int (E.length : Int)), [W m n E]) := sem_of rfl e2
  generalize sem I.glb G (k + 1) = F at e3 ⊢
  exact vc_call (ys := [.inr i]) (ts := [W m n E]) (ts' := [W m n E]) rfl (by unfold treesA; rw [e]; rfl) (by simp [slotsOf]) e3 rfl q
theorem vc_go (k : Nat) (h : m.Ok C) (l : m.s.length ≤ 300) (hC : C ≤ 2 ^ 40) (hn : n + j ≤ 70) (hE : E.length ≤ 1000) (e : treeA as ps i = some (W m n E)) (q : Q (.cl .non) (putA as ps i (W m (n + j) (E ++ [n]))).1 (putA as ps i (W m (n + j) (E ++ [n]))).2) : Vc ⟨sem I.glb G (k + 1), np, gl⟩ 5 [0, 1] [.inr i, .inl (.int (j : Int))] as ps Q := by
  obtain ⟨u, us, e2, rfl, rfl⟩ := wgo_wf (g := I.glb) (F := sem I.glb G k) (cc := 1) (mc := 0) (k := j) h (by omega) (fits l hC hn) (by omega) hE
  have e3 : sem I.glb G (k + 1) 5 [W m n E, .cl (.int (j : Int))] = some (.cl .non, [W m (n + j) (E ++ [n]), .cl (.int (j : Int))]) := sem_of rfl e2
  generalize sem I.glb G (k + 1) = F at e3 ⊢
  exact vc_call (ys := [.inr i, .inl (.int (j : Int))]) (ts := [W m n E, .cl (.int (j : Int))]) (ts' := [W m (n + j) (E ++ [n]), .cl (.int (j : Int))]) rfl (by unfold treesA; rw [e]; rfl) (by simp [slotsOf]) e3 rfl q
theorem vc_undo (k : Nat) (e : treeA as ps i = some (W m n (E ++ [j]))) (q : Q (.cl .non) (putA as ps i (W m j E)).1 (putA as ps i (W m j E)).2) : Vc ⟨sem I.glb G (k + 1), np, gl⟩ 6 [0] [.inr i] as ps Q := by
  obtain ⟨u, us, e2, rfl, rfl⟩ := wundo_wf (g := I.glb) (F := sem I.glb G k) (cc := 1) (mc := 0) (m := m) (n := n) (j := j) (E := E)
  have e3 : sem I.glb G (k + 1) 6 [W m n (E ++ [j])] = some (.cl .non, [W m j E]) := sem_of rfl e2
  generalize sem I.glb G (k + 1) = F at e3 ⊢
  exact vc_call (ys := [.inr i]) (ts := [W m n (E ++ [j])]) (ts' := [W m j E]) rfl (by unfold treesA; rw [e]; rfl) (by simp [slotsOf]) e3 rfl q
end
theorem meet {C : Nat} {m : Mk} (h : m.Ok C) (i j : Nat) : dot (goN m.w m.s i) (goN m.T.w m.T.s j) = m.c (i + j) := by
  have e : goN m.T.w m.T.s j = pullN m.w m.e j := by
    have h1 := Mk.pullN_tr (Mk.okT h) j m.e rfl
    have h2 : tr m.T.s.length m.T.w = m.w := by
      have := congrArg Mk.w (Mk.TT h)
      exact this
    rw [h2] at h1
    exact h1.symm
  show _ = dot (goN m.w m.s (i + j)) m.e
  rw [e, ← dot_goN h.inr, goN_add]
theorem met_wf (k : Nat) {n j : Nat} {E E' : List Nat} (h : m.Ok C) (l : m.s.length ≤ 300) (hC : C ≤ 2 ^ 40) (hn : n ≤ 70) (hj : j ≤ 70) : Wf I.glb (sem I.glb G (k + 1)) f24 [W m n E, W m.T j E'] fun u ts => u = .cl (.int (m.c (n + j))) ∧ ts = [W m n E, W m.T j E'] := by
  have hT := Mk.okT h
  have lT : m.T.s.length ≤ 300 := by rw [Mk.len_T h]; exact l
  have f1 := fits l hC hn
  have f2 := fits lT hC hj
  have b1 := h.bd f1.na f1.nc n
  have b2 := hT.bd f2.na f2.nc j
  have l1 : (goN m.w m.s n).length ≤ 300 := by rw [len_goN _ _ h.lw]; exact l
  have mt := meet h n j
  refine vf_of rfl rfl ?_
  refine vq ?_
  refine vc_runs k rfl ?_
  refine vq ?_
  refine vc_runs k rfl ?_
  refine vq ?_
  refine ⟨_, _, .inr ⟨rfl, rfl⟩, ?_⟩
  rw [zipD_map]
  rw [← mt]
  generalize goN m.w m.s n = x at b1 l1 ⊢
  generalize goN m.T.w m.T.s j = y at b2 ⊢
  apply vl_mapE (fun p : Int × Int => .tup [.int p.1, .int p.2]) (fun p => .int (p.1 * p.2)) (x.zip y) rfl (by rw [List.length_zip]; omega)
  · (repeat (first | exact nf_nil rfl | (apply nf_cons; · exact rfl)))
  · intro p hp
    have hz := List.of_mem_zip (a := p.1) (b := p.2) hp
    have : mulOk p.1 p.2 = true := by
      have h1 := b1 _ hz.1
      have h2 := b2 _ hz.2
      refine mulOk_bd h1 h2 ?_
      have := Nat.mul_le_mul_left (2 * 9 + 40) hn
      have := Nat.mul_le_mul_left (2 * 9 + 40) hj
      omega
    refine ⟨_, rfl, ?_⟩
    refine vq ?_
    refine ⟨rfl, ?_⟩
    refine vq ?_
    exact ⟨rfl, rfl, rfl⟩
  refine vq ?_
  rw [map_int (fun p : Int × Int => p.1 * p.2)]
  refine of_sum (intsOf_map _) ?_
  refine vq ?_
  exact ⟨rfl, rfl⟩
theorem gone_wf (k : Nat) {mm : Int} {t : T} {most : Nat} (h : m.Ok C) (l : m.s.length ≤ 300) (hC : C ≤ 2 ^ 40) (hn : most ≤ 60) (d : Dk mm t) (hm : mm < 2 ^ 19) : Wf I.glb (sem I.glb G (k + 1)) f25 [t, W m 0 [], .cl (.int (most : Int))] fun u ts => ∃ t' E, u = .cl (.int ((E.length : Nat) : Int)) ∧ ts = [t', W m most E, .cl (.int (most : Int))] ∧ Dk (mm + 60) t' ∧ (∀ x ∈ E, x ≤ most) ∧ E.length ≤ most := by
  refine vf_of rfl rfl ?_
  refine vq ?_
  refine vx_wh (fun N as ps => ∃ t n E, Dk (mm + (n : Nat)) t ∧ n ≤ most ∧ most - n ≤ N ∧ E.length ≤ n ∧ (∀ x ∈ E, x ≤ most) ∧ as = [.p, .p, .p, .v (.int ((E.length : Nat) : Int)), .v (.int (n : Int)), .any] ∧ ps = [t, W m n E, .cl (.int (most : Int))]) most (by omega) ⟨_, ?_, t, 0, [], d.mono (by omega), by omega, by omega, by simp, by simp, rfl, rfl⟩ ?_
  · (repeat (first | exact Les.nil | refine Les.any ?_ | refine Les.same ?_ | refine Les.v ?_ | refine Les.o rfl ?_ | refine Les.o (d_ls _) ?_ | refine Les.p rfl ?_))
  · rintro N as ps ⟨t, n, E, d1, hn1, hN, hE, hx, rfl, rfl⟩
    refine vq ?_
    refine ⟨fun hv => ?_, fun hv => ?_⟩
    · have hlt : n < most := by
        have := of_decide_eq_true hv
        omega
      refine ⟨N - 1, by omega, ?_⟩
      refine vq ?_
      refine vc_draw (dr := 21) rfl d1 (by omega) (by omega) (by omega) rfl fun r t' r0 r1 d2 _ => ?_
      obtain ⟨q, hq, q1, q2⟩ : ∃ q : Nat, (if 1 + r < (most : Int) - (n : Int) then 1 + r else (most : Int) - (n : Int)) = (q : Int) ∧ 1 ≤ q ∧ n + q ≤ most := by
        refine ⟨(if 1 + r < (most : Int) - (n : Int) then 1 + r else (most : Int) - (n : Int)).toNat, ?_, ?_, ?_⟩ <;> split <;> omega
      refine vq ?_
      rw [hq]
      refine vc_go k (j := q) h l hC (by omega) (by omega) rfl ?_
      refine vq ?_
      refine ⟨⟨_, rfl, ?_⟩⟩
      refine vq ?_
      have e1 : ((E.length : Nat) : Int) + 1 = (((E ++ [n]).length : Nat) : Int) := by rw [List.length_append]; rfl
      rw [e1]
      refine ⟨_, ?_, t', n + q, E ++ [n], d2.mono (by push_cast; omega), q2, by omega, by rw [List.length_append]; show _ + 1 ≤ _; omega, fun x mx => ?_, rfl, rfl⟩
      · (repeat (first | exact Les.nil | refine Les.any ?_ | refine Les.same ?_ | refine Les.v ?_ | refine Les.o rfl ?_ | refine Les.o (d_ls _) ?_ | refine Les.p rfl ?_))
      · rcases List.mem_append.mp mx with mx | mx
        · exact hx x mx
        · rw [List.mem_singleton.mp mx]
          exact hn1
    · have hge : n = most := by
        have := of_decide_eq_false hv
        omega
      subst hge
      refine vq ?_
      exact ⟨t, E, rfl, rfl, d1.mono (by omega), hx, hE⟩
theorem vc_gone (k : Nat) {np : Nat} {gl : List (Str × D)} {as : List A} {ps : List T} {Q : T → List A → List T → Prop} {i j : Nat} {mm : Int} {t : T} {most : Nat} (h : m.Ok C) (l : m.s.length ≤ 300) (hC : C ≤ 2 ^ 40) (hn : most ≤ 60) (d : Dk mm t) (hm : mm < 2 ^ 19) (e : treeA as ps i = some t) (e' : treeA as ps j = some (W m 0 [])) (hij : i ≠ j)
    (q : ∀ t' E, Dk (mm + 60) t' → (∀ x ∈ E, x ≤ most) → E.length ≤ most → Q (.cl (.int ((E.length : Nat) : Int))) (putA (putA as ps i t').1 (putA as ps i t').2 j (W m most E)).1 (putA (putA as ps i t').1 (putA as ps i t').2 j (W m most E)).2) :
    Vc ⟨sem I.glb G (k + 2), np, gl⟩ 25 [0, 1, 2] [.inr i, .inr j, .inl (.int (most : Int))] as ps Q := by
  obtain ⟨u, us, e2, t', E, rfl, rfl, d', hx, hE⟩ := gone_wf k h l hC hn d hm
  have e3 : sem I.glb G (k + 2) 25 [t, W m 0 [], .cl (.int (most : Int))] = some (.cl (.int ((E.length : Nat) : Int)), [t', W m most E, .cl (.int (most : Int))]) := sem_of rfl e2
  have q' := q t' E d' hx hE
  generalize sem I.glb G (k + 2) = F at e3 ⊢
  exact vc_call (ys := [.inr i, .inr j, .inl (.int (most : Int))]) (ts := [t, W m 0 [], .cl (.int (most : Int))]) (ts' := [t', W m most E, .cl (.int (most : Int))]) rfl (by unfold treesA; rw [e]; unfold treesA; rw [e']; rfl) (by simp [slotsOf, hij]) e3 rfl q'
theorem section54 (k : Nat) {C' : Nat} (h : m.Ok C) (h1 : 1 ≤ C) (hl : m.s.length ≤ 300) (hC : C ≤ 2 ^ 40) {j : Nat} (hj : j ≤ 60) (h' : (m.steps j 0).Ok C') : AtT (sem I.glb G (k + 5)) 18 [m.d 0, .int j, .int (0 : Nat)] ((m.steps j 0).t 0) := by
  have hu : ∀ x, OkMC C (unit m.s.length x) m.w m.e := fun x => ⟨by rw [unit_len]; exact h.lw, by rw [unit_len]; exact h.le, fun y r => by
    obtain ⟨i, -, rfl⟩ := List.mem_map.mp r
    split <;> omega, h.be, h.pw, by rw [unit_len]; exact h.rg⟩
  have A : At (sem I.glb G (k + 4)) 10 [m.d 0, .int j, .int (0 : Nat)] (m.steps j 0).g := by
    refine at_of rfl (steps_wf (sp := 9) (b := 8) (by omega) (fun x hx => ?_) (fun x hx => ?_) ?_)
    · exact by_atC (go := 7) rfl rfl (k + 1) (hu x) (by rw [unit_len]; omega) (by omega) (by rw [unit_len]; exact fits hl hC (by omega))
    · exact at_of rfl (sparse_wf (by rw [len_goN1 (Mk.ws h) (unit_len _ _)]; omega))
    · exact by_atC (go := 7) rfl rfl (k + 1) h (by omega) (by omega) (fits hl hC (by omega))
  have hlen : (m.steps j 0).s.length = m.s.length := len_goN1 (Mk.ws h) rfl 0
  refine atT_of rfl ?_
  generalize m.steps j 0 = B at A h' hlen ⊢
  refine vf_of rfl rfl ?_
  refine vq ?_
  refine vc_at A rfl ?_
  refine vq ?_
  refine ⟨rfl, ?_⟩
  refine N54.wm k 0 h' (by omega) ?_
  refine vq ?_
  exact ⟨rfl, rfl⟩
end Mi.Law
set_option maxHeartbeats 4000000
namespace Mi.Law
open PySem L2 Mi
variable {k C : Nat} {a b m : Mk}
theorem row_at {v : Nat → Int} {n i : Nat} (h : i < n) : atI ((row v n).map D.int) (i : Int) = some (.int (v i)) := by
  rw [atI_ofN (by rw [List.getElem?_map, row_get h]; rfl)]
theorem ne_ints {xs ys : List Int} {K : Bool → Prop} (e : xs = ys) (h : K false) : Oc .ne (.lst (xs.map .int)) (.lst (ys.map .int)) K := by
  refine oc_ne (eqD_ints xs ys) ?_
  rw [decide_eq_true e]
  exact h
theorem vc_met (k : Nat) {np : Nat} {gl : List (Str × D)} {as : List A} {ps : List T} {Q : T → List A → List T → Prop} {i j2 n j : Nat} {E E' : List Nat} (h : m.Ok C) (l : m.s.length ≤ 300) (hC : C ≤ 2 ^ 40) (hn : n ≤ 70) (hj : j ≤ 70) (e : treeA as ps i = some (W m n E)) (e' : treeA as ps j2 = some (W m.T j E'))
    (q : Q (.cl (.int (m.c (n + j)))) (putA (putA as ps i (W m n E)).1 (putA as ps i (W m n E)).2 j2 (W m.T j E')).1 (putA (putA as ps i (W m n E)).1 (putA as ps i (W m n E)).2 j2 (W m.T j E')).2) (hij : i ≠ j2 := by decide) :
    Vc ⟨sem I.glb G (k + 2), np, gl⟩ 24 [0, 1] [.inr i, .inr j2] as ps Q := by
  obtain ⟨u, us, e2, rfl, rfl⟩ := met_wf k (E := E) (E' := E') h l hC hn hj
  have e3 : sem I.glb G (k + 2) 24 [W m n E, W m.T j E'] = some (.cl (.int (m.c (n + j))), [W m n E, W m.T j E']) := sem_of rfl e2
  generalize sem I.glb G (k + 2) = F at e3 ⊢
  exact vc_call (ys := [.inr i, .inr j2]) (ts := [W m n E, W m.T j E']) (ts' := [W m n E, W m.T j E']) rfl (by unfold treesA; rw [e]; unfold treesA; rw [e']; rfl) (by simp [slotsOf, hij]) e3 rfl q
theorem sec_ok (h : m.Ok 8) (hl : m.s.length ≤ 5) {z : Nat} (hz : z ≤ 5) : (m.steps z 0).Ok (2 ^ 33) := by
  have := Mk.ok_steps (b := 3) (c := 6) (k := 5) (st := z) (rs := 0) h (by decide) (by have := Nat.mul_le_mul_right 8 hl; omega) hz (by omega)
  exact this
theorem right_wf (k : Nat) {mm : Int} {t : T} (h : m.Ok 8) (hl : m.s.length ≤ 5) (d : Dk mm t) (hm : mm < 2 ^ 18) : Wf I.glb (sem I.glb G (k + 6)) f26 [t, .cl m.g] fun u ts => ∃ t', u = .cl (.bl true) ∧ ts = [t', .cl m.g] ∧ Dk (mm + 200) t' := by
  have hT := Mk.okT h
  have lT : m.T.s.length ≤ 300 := by rw [Mk.len_T h]; omega
  have l3 : m.s.length ≤ 300 := by omega
  have h8 : (8 : Nat) ≤ 2 ^ 40 := by decide
  refine vf_of rfl rfl ?_
  refine vq ?_
  refine N54.wm (k + 2) 0 h (by omega) ?_
  refine vq ?_
  refine vc_at (counted54 (k + 5) h l3 h8 (n := 61) (by omega)) rfl ?_
  refine vq ?_
  refine wm_W (k + 5) m ?_
  refine vq ?_
  refine vc_atT (turned54 (k + 1) h (by omega)) rfl ?_
  refine vq ?_
  refine wm_W (k + 5) m.T ?_
  refine vq ?_
  refine vc_draw (dr := 21) rfl d (by omega) (by omega) (by omega) rfl fun r t1 r0 r1 d1 _ => ?_
  obtain ⟨x, rfl⟩ : ∃ i : Nat, r = i := ⟨r.toNat, by omega⟩
  refine vq ?_
  refine vc_draw (dr := 21) rfl d1 (by omega) (by omega) (by omega) rfl fun r t2 q0 q1 d2 _ => ?_
  obtain ⟨y, rfl⟩ : ∃ i : Nat, r = i := ⟨r.toNat, by omega⟩
  have hx : x ≤ 30 := by omega
  have hy : y ≤ 30 := by omega
  refine vq ?_
  refine vc_gone (k + 4) h l3 h8 (by omega) d2 (by omega) rfl rfl (by decide) fun t3 E d3 hE lE => ?_
  refine vq ?_
  refine vc_gone (k + 4) hT lT h8 (by omega) d3 (by omega) rfl rfl (by decide) fun t4 E' d4 hE' lE' => ?_
  refine vq ?_
  refine vc_wlen (k + 5) rfl ?_
  refine vq ?_
  refine ⟨⟨by omega, by omega⟩, ?_⟩
  refine vq ?_
  refine vc_wlen (k + 5) rfl ?_
  refine vq ?_
  refine ⟨⟨by omega, by omega⟩, ?_⟩
  refine vq ?_
  refine vc_moves (k + 5) rfl ?_
  refine vq ?_
  refine vc_moves (k + 5) rfl ?_
  refine vq ?_
  refine ne_ints (xs := [(E.length : Int), (E'.length : Int), (x : Int), (y : Int)]) (ys := [(E.length : Int), (E'.length : Int), (x : Int), (y : Int)]) rfl ?_
  refine vq ?_
  refine vc_met (k + 4) h l3 h8 (n := x) (j := y) (by omega) (by omega) rfl rfl ?_
  refine vq ?_
  refine ve_get (d := .int (m.c (x + y))) (by show (atI ((row m.c 61).map D.int) (((x + y : Nat) : Int))).map T.cl = _; rw [row_at (by omega)]; rfl) rfl ?_
  refine vq ?_
  refine vc_acc (k + 5) h l3 h8 (by omega) rfl ?_
  refine vq ?_
  refine vc_acc (k + 5) hT lT h8 (by omega) rfl ?_
  refine vq ?_
  refine ve_get (d := .int (m.c x)) (by show (atI ((row m.c 61).map D.int) (x : Int)).map T.cl = _; rw [row_at (by omega)]; rfl) rfl ?_
  refine vq ?_
  refine ve_get (d := .int (m.c y)) (by show (atI ((row m.c 61).map D.int) (y : Int)).map T.cl = _; rw [row_at (by omega)]; rfl) rfl ?_
  refine vq ?_
  refine ne_ints (xs := [m.c x, m.T.c y]) (ys := [m.c x, m.c y]) (by rw [Mk.cT h]) ?_
  refine vq ?_
  refine ⟨fun hv => ?_, fun hv => ?_⟩
  · obtain ⟨E2, j, rfl⟩ : ∃ ys y, E = ys ++ [y] := by
      rcases List.eq_nil_or_concat E with q | ⟨ys, y, rfl⟩
      · subst q
        cases hv
      · exact ⟨ys, y, by simp⟩
    have hj : j ≤ x := hE j (List.mem_append_right _ (List.mem_singleton.mpr rfl))
    refine vq ?_
    refine vc_undo (k + 5) rfl ?_
    refine vq ?_
    refine ⟨⟨_, rfl, ?_⟩⟩
    refine vq ?_
    refine vc_met (k + 4) h l3 h8 (n := j) (j := y) (by omega) (by omega) rfl rfl ?_
    refine vq ?_
    refine vc_moves (k + 5) rfl ?_
    refine vq ?_
    refine ⟨.int (m.c (j + y)), ?_, ?_⟩
    · show atI ((row m.c 61).map D.int) (((j + y : Nat) : Int)) = _
      exact row_at (by omega)
    refine vq ?_
    refine vc_acc (k + 5) h l3 h8 (n := j) (by omega) rfl ?_
    refine vq ?_
    refine vc_moves (k + 5) rfl ?_
    refine vq ?_
    refine ⟨.int (m.c j), ?_, ?_⟩
    · show atI ((row m.c 61).map D.int) (j : Int) = _
      exact row_at (by omega)
    refine vq ?_
    refine vc_draw (dr := 21) rfl d4 (by omega) (by omega) (by omega) rfl fun r t5 p0 p1 d5 _ => ?_
    obtain ⟨z, hz, z1, z5⟩ : ∃ i : Nat, 1 + r = (i : Int) ∧ 1 ≤ i ∧ i ≤ 5 := ⟨(1 + r).toNat, by omega, by omega, by omega⟩
    refine vq ?_
    rw [hz]
    refine vq ?_
    have hsc := sec_ok h hl z5
    refine vc_atT (section54 (k + 1) h (by decide) l3 h8 (j := z) (by omega) hsc) rfl ?_
    refine vq ?_
    refine wm_W (k + 5) (m.steps z 0) ?_
    refine vq ?_
    have ls : (m.steps z 0).s.length ≤ 300 := by rw [show (m.steps z 0).s.length = m.s.length from len_goN1 (Mk.ws h) rfl 0]; exact l3
    have cs : (m.steps z 0).c 6 = m.c (6 * z) := by rw [Mk.c_steps h, Nat.zero_add, Nat.mul_comm]
    refine vc_go (k + 5) (j := 6) (n := 0) (E := []) hsc ls (by decide) (by omega) (by simp) rfl ?_
    refine vq ?_
    refine vc_acc (k + 5) hsc ls (by decide) (n := 0 + 6) (by omega) rfl ?_
    refine vq ?_
    refine ⟨.int (m.c (6 * z)), ?_, ?_⟩
    · show atI ((row m.c 61).map D.int) (((6 * z : Nat) : Int)) = _
      exact row_at (by omega)
    rw [show (0 + 6 : Nat) = 6 from rfl, cs]
    refine vq ?_
    refine ⟨rfl, ?_⟩
    refine vc_at (eq54 (k + 5) m) rfl ?_
    refine vq ?_
    exact ⟨t5, rfl, rfl, d5.mono (by omega)⟩
  · refine vq ?_
    refine vc_met (k + 4) h l3 h8 (n := x) (j := y) (by omega) (by omega) rfl rfl ?_
    refine vq ?_
    refine vc_moves (k + 5) rfl ?_
    refine vq ?_
    refine ⟨.int (m.c (x + y)), ?_, ?_⟩
    · show atI ((row m.c 61).map D.int) (((x + y : Nat) : Int)) = _
      exact row_at (by omega)
    refine vq ?_
    refine vc_acc (k + 5) h l3 h8 (n := x) (by omega) rfl ?_
    refine vq ?_
    refine vc_moves (k + 5) rfl ?_
    refine vq ?_
    refine ⟨.int (m.c x), ?_, ?_⟩
    · show atI ((row m.c 61).map D.int) (x : Int) = _
      exact row_at (by omega)
    refine vq ?_
    refine vc_draw (dr := 21) rfl d4 (by omega) (by omega) (by omega) rfl fun r t5 p0 p1 d5 _ => ?_
    obtain ⟨z, hz, z1, z5⟩ : ∃ i : Nat, 1 + r = (i : Int) ∧ 1 ≤ i ∧ i ≤ 5 := ⟨(1 + r).toNat, by omega, by omega, by omega⟩
    refine vq ?_
    rw [hz]
    refine vq ?_
    have hsc := sec_ok h hl z5
    refine vc_atT (section54 (k + 1) h (by decide) l3 h8 (j := z) (by omega) hsc) rfl ?_
    refine vq ?_
    refine wm_W (k + 5) (m.steps z 0) ?_
    refine vq ?_
    have ls : (m.steps z 0).s.length ≤ 300 := by rw [show (m.steps z 0).s.length = m.s.length from len_goN1 (Mk.ws h) rfl 0]; exact l3
    have cs : (m.steps z 0).c 6 = m.c (6 * z) := by rw [Mk.c_steps h, Nat.zero_add, Nat.mul_comm]
    refine vc_go (k + 5) (j := 6) (n := 0) (E := []) hsc ls (by decide) (by omega) (by simp) rfl ?_
    refine vq ?_
    refine vc_acc (k + 5) hsc ls (by decide) (n := 0 + 6) (by omega) rfl ?_
    refine vq ?_
    refine ⟨.int (m.c (6 * z)), ?_, ?_⟩
    · show atI ((row m.c 61).map D.int) (((6 * z : Nat) : Int)) = _
      exact row_at (by omega)
    rw [show (0 + 6 : Nat) = 6 from rfl, cs]
    refine vq ?_
    refine ⟨rfl, ?_⟩
    refine vc_at (eq54 (k + 5) m) rfl ?_
    refine vq ?_
    exact ⟨t5, rfl, rfl, d5.mono (by omega)⟩
theorem vc_right (k : Nat) {np : Nat} {gl : List (Str × D)} {as : List A} {ps : List T} {Q : T → List A → List T → Prop} {i : Nat} {mm : Int} {t : T} (h : m.Ok 8) (hl : m.s.length ≤ 5) (d : Dk mm t) (hm : mm < 2 ^ 18) (e : treeA as ps i = some t)
    (q : ∀ t', Dk (mm + 200) t' → Q (.cl (.bl true)) (putA as ps i t').1 (putA as ps i t').2) : Vc ⟨sem I.glb G (k + 7), np, gl⟩ 26 [0, 1] [.inr i, .inl m.g] as ps Q := by
  obtain ⟨u, us, e2, t', rfl, rfl, d'⟩ := right_wf k h hl d hm
  have e3 : sem I.glb G (k + 7) 26 [t, .cl m.g] = some (.cl (.bl true), [t', .cl m.g]) := sem_of rfl e2
  have q' := q t' d'
  generalize sem I.glb G (k + 7) = F at e3 ⊢
  exact vc_call (ys := [.inr i, .inl m.g]) (ts := [t, .cl m.g]) (ts' := [t', .cl m.g]) rfl (by unfold treesA; rw [e]; rfl) (by simp [slotsOf]) e3 rfl q'
theorem law_wf (k : Nat) (ns : List Int) : Wf I.glb (sem I.glb G (k + 7)) f27 [.cl (.scr ns)] fun u ts => u = .cl (.bl true) := by
  refine vf_of rfl rfl ?_
  refine vq ?_
  refine vc_deck (dk := 20) (g := I.glb) (G := G) (k := k + 6) rfl fun t d0 hc => ?_
  rw [stA_of hc]
  refine vq ?_
  refine vg_ind (fun n as ps => ∃ t, Dk (10000 * n) t ∧ as = [.p, .o t, .any] ∧ ps = [.cl (.scr ns)]) _ ⟨_, ?_, t, d0.mono (by omega), rfl, rfl⟩ ?_ ?_
  · (repeat (first | exact Les.nil | refine Les.any ?_ | refine Les.same ?_ | refine Les.v ?_ | refine Les.o rfl ?_ | refine Les.o (d_ls _) ?_ | refine Les.p rfl ?_))
  · rintro n x as ps hx ⟨t, d, rfl, rfl⟩
    obtain ⟨hn, rfl⟩ := rng_get hx
    have hn : n < 6 := hn
    refine ⟨_, rfl, ?_⟩
    refine vq ?_
    refine vc_built (dr := 21) (C := 8) rfl rfl d (by omega) (by omega) (by omega) (by omega) (by omega) (by omega) rfl fun s w e t1 oa la d1 => ?_
    refine vq ?_
    refine vc_right k (m := ⟨s, w, e⟩) oa (by show s.length ≤ 5; omega) d1 (by omega) rfl fun t2 d2 => ?_
    refine vq ?_
    refine ⟨_, ?_, t2, d2.mono (by push_cast; omega), rfl, rfl⟩
    (repeat (first | exact Les.nil | refine Les.any ?_ | refine Les.same ?_ | refine Les.v ?_ | refine Les.o rfl ?_ | refine Les.o (d_ls _) ?_ | refine Les.p rfl ?_))
  · rintro as ps ⟨t, d, rfl, rfl⟩
    refine vq ?_
    rfl
theorem pure (ns : List Int) (hl : ns.length ≤ 63) : ∃ ts, sem I.glb G (depth + 1) 27 [.cl (.scr ns)] = some (.cl (.bl true), ts) := by
  obtain ⟨u, us, e, rfl⟩ := law_wf 3 ns
  exact ⟨us, sem_of rfl e⟩
end Mi.Law
namespace Mi.Law
open PySem L2
theorem mem_of {β : Type} {l lf : List (Nat × β)} {f : Nat} {x : β} (h : l.filter (fun p => p.1 == f) = lf) (m : (f, x) ∈ l) : (f, x) ∈ lf := h ▸ List.mem_filter.mpr ⟨m, by simp⟩
theorem glb_of {β : Type} {x : Str} {d : β} : {l : List (Str × β)} → l.lookup x = some d → (x, d) ∈ l
  | (y, c) :: l, h => by
    rw [List.lookup_cons] at h
    cases e : x == y
    · rw [e] at h
      exact List.mem_cons_of_mem _ (glb_of h)
    · rw [e] at h
      cases h
      cases eq_of_beq e
      exact List.mem_cons_self ..
theorem kit_self (K : PySem.W.Frag) (A : Addr) : PySem.W.kitOne K (.ref A) (.ref A) = some true := by
  unfold PySem.W.kitOne
  rw [if_pos (beq_self_eq_true _)]
theorem kit_two {K : PySem.W.Frag} {A B : Addr} (h1 : PySem.W.isClsIn K A = true) (h2 : PySem.W.typeIn K (.ref A) = some (.type "type")) (h3 : PySem.W.subIn K (.ref B) (.ref A) = some false) (h4 : PySem.W.subIn K (.ref A) (.ref A) = some true) : PySem.W.kitOne K (.ref B) (.ref A) = some false := by
  unfold PySem.W.kitOne PySem.W.kitCls
  rw [if_neg (by
    intro h
    have e : (Value.ref B) = .ref A := eq_of_beq h
    rw [e, h4] at h3
    cases h3)]
  have h1 : (PySem.W.clsIn K A).isSome = true := h1
  simp only [h1, h2]
  rw [if_pos (by rfl)]
  exact h3
theorem kit_own {K : PySem.W.Frag} {A : Addr} {T : String} (h1 : PySem.W.isClsIn K A = true) (h2 : PySem.W.typeIn K (.ref A) = some (.type "type")) (h3 : PySem.W.subIn K (.type T) (.ref A) = some false) : PySem.W.kitOne K (.type T) (.ref A) = some false := by
  unfold PySem.W.kitOne PySem.W.kitCls
  rw [if_neg (by intro h; cases h)]
  have h1 : (PySem.W.clsIn K A).isSome = true := h1
  simp only [h1, h2]
  rw [if_pos (by rfl)]
  exact h3
end Mi.Law
namespace Mi.Law
open PySem PySem.Spec PyProof.Rows L2
theorem pat_split {l lf : List (Nat × Nat × List Str × List Nat)} {f n : Nat} {ks : List Str} {pm : List Nat} (h : l.filter (fun p => p.1 == f) = lf) (m : (f, n, ks, pm) ∈ l) : (f, n, ks, pm) ∈ lf := h ▸ List.mem_filter.mpr ⟨m, by simp⟩
theorem pat0 {K : PySem.W.Frag} {kV0 dc0 pm0 cd0 ct0 : Value} {an0 : Option Addr} : ∀ n ks pm', (0, n, ks, pm') ∈ I.pat → PatOk K (PySem.W.fnOf "__init__" "Walk.__init__" (defArgs (inCls 0 (top 7))) (defBody (inCls 0 (top 7))) (defScope (inCls 0 (top 7))) .none kV0 dc0 pm0 an0 cd0 ct0) p0 n ks pm' := by
  intro n ks pm' m
  have m := pat_split (lf := [(0, 2, [], [0, 1]), (0, 1, ["machine"], [0, 1])]) rfl m
  rcases List.mem_cons.mp m with e | m
  · cases e
    exact fun s us ws _ h1 h2 => match us, ws, h1, h2 with | [_, _], [], _, _ => ⟨_, rfl, .of_eq rfl⟩
  rcases List.mem_cons.mp m with e | m
  · cases e
    exact fun s us ws _ h1 h2 => match us, ws, h1, h2 with | [_], [_], _, _ => ⟨_, rfl, .of_eq rfl⟩
  cases m
theorem str0 {kV0 dc0 pm0 cd0 ct0 : Value} {an0 : Option Addr} : ∀ n, (0, n) ∈ I.str → StarOk (PySem.W.fnOf "__init__" "Walk.__init__" (defArgs (inCls 0 (top 7))) (defBody (inCls 0 (top 7))) (defScope (inCls 0 (top 7))) .none kV0 dc0 pm0 an0 cd0 ct0) p0 n := by
  intro n m
  have m := mem_of (l := I.str) (lf := []) rfl m
  cases m
theorem pat1 {K : PySem.W.Frag} {kV1 dc1 pm1 cd1 ct1 : Value} {an1 : Option Addr} : ∀ n ks pm', (1, n, ks, pm') ∈ I.pat → PatOk K (PySem.W.fnOf "moves_made" "Walk.moves_made" (defArgs (inCls 1 (top 7))) (defBody (inCls 1 (top 7))) (defScope (inCls 1 (top 7))) .none kV1 dc1 pm1 an1 cd1 ct1) p1 n ks pm' := by
  intro n ks pm' m
  have m := pat_split (lf := [(1, 1, [], [0])]) rfl m
  rcases List.mem_cons.mp m with e | m
  · cases e
    exact fun s us ws _ h1 h2 => match us, ws, h1, h2 with | [_], [], _, _ => ⟨_, rfl, .of_eq rfl⟩
  cases m
theorem str1 {kV1 dc1 pm1 cd1 ct1 : Value} {an1 : Option Addr} : ∀ n, (1, n) ∈ I.str → StarOk (PySem.W.fnOf "moves_made" "Walk.moves_made" (defArgs (inCls 1 (top 7))) (defBody (inCls 1 (top 7))) (defScope (inCls 1 (top 7))) .none kV1 dc1 pm1 an1 cd1 ct1) p1 n := by
  intro n m
  have m := mem_of (l := I.str) (lf := []) rfl m
  cases m
theorem pat2 {K : PySem.W.Frag} {kV2 dc2 pm2 cd2 ct2 : Value} {an2 : Option Addr} : ∀ n ks pm', (2, n, ks, pm') ∈ I.pat → PatOk K (PySem.W.fnOf "runs" "Walk.runs" (defArgs (inCls 2 (top 7))) (defBody (inCls 2 (top 7))) (defScope (inCls 2 (top 7))) .none kV2 dc2 pm2 an2 cd2 ct2) p2 n ks pm' := by
  intro n ks pm' m
  have m := pat_split (lf := [(2, 1, [], [0])]) rfl m
  rcases List.mem_cons.mp m with e | m
  · cases e
    exact fun s us ws _ h1 h2 => match us, ws, h1, h2 with | [_], [], _, _ => ⟨_, rfl, .of_eq rfl⟩
  cases m
theorem str2 {kV2 dc2 pm2 cd2 ct2 : Value} {an2 : Option Addr} : ∀ n, (2, n) ∈ I.str → StarOk (PySem.W.fnOf "runs" "Walk.runs" (defArgs (inCls 2 (top 7))) (defBody (inCls 2 (top 7))) (defScope (inCls 2 (top 7))) .none kV2 dc2 pm2 an2 cd2 ct2) p2 n := by
  intro n m
  have m := mem_of (l := I.str) (lf := []) rfl m
  cases m
theorem pat3 {K : PySem.W.Frag} {kV3 dc3 pm3 cd3 ct3 : Value} {an3 : Option Addr} : ∀ n ks pm', (3, n, ks, pm') ∈ I.pat → PatOk K (PySem.W.fnOf "accepted" "Walk.accepted" (defArgs (inCls 3 (top 7))) (defBody (inCls 3 (top 7))) (defScope (inCls 3 (top 7))) .none kV3 dc3 pm3 an3 cd3 ct3) p3 n ks pm' := by
  intro n ks pm' m
  have m := pat_split (lf := [(3, 1, [], [0])]) rfl m
  rcases List.mem_cons.mp m with e | m
  · cases e
    exact fun s us ws _ h1 h2 => match us, ws, h1, h2 with | [_], [], _, _ => ⟨_, rfl, .of_eq rfl⟩
  cases m
theorem str3 {kV3 dc3 pm3 cd3 ct3 : Value} {an3 : Option Addr} : ∀ n, (3, n) ∈ I.str → StarOk (PySem.W.fnOf "accepted" "Walk.accepted" (defArgs (inCls 3 (top 7))) (defBody (inCls 3 (top 7))) (defScope (inCls 3 (top 7))) .none kV3 dc3 pm3 an3 cd3 ct3) p3 n := by
  intro n m
  have m := mem_of (l := I.str) (lf := []) rfl m
  cases m
theorem pat4 {K : PySem.W.Frag} {kV4 dc4 pm4 cd4 ct4 : Value} {an4 : Option Addr} : ∀ n ks pm', (4, n, ks, pm') ∈ I.pat → PatOk K (PySem.W.fnOf "__len__" "Walk.__len__" (defArgs (inCls 4 (top 7))) (defBody (inCls 4 (top 7))) (defScope (inCls 4 (top 7))) .none kV4 dc4 pm4 an4 cd4 ct4) p4 n ks pm' := by
  intro n ks pm' m
  have m := pat_split (lf := [(4, 1, [], [0])]) rfl m
  rcases List.mem_cons.mp m with e | m
  · cases e
    exact fun s us ws _ h1 h2 => match us, ws, h1, h2 with | [_], [], _, _ => ⟨_, rfl, .of_eq rfl⟩
  cases m
theorem str4 {kV4 dc4 pm4 cd4 ct4 : Value} {an4 : Option Addr} : ∀ n, (4, n) ∈ I.str → StarOk (PySem.W.fnOf "__len__" "Walk.__len__" (defArgs (inCls 4 (top 7))) (defBody (inCls 4 (top 7))) (defScope (inCls 4 (top 7))) .none kV4 dc4 pm4 an4 cd4 ct4) p4 n := by
  intro n m
  have m := mem_of (l := I.str) (lf := []) rfl m
  cases m
theorem pat5 {K : PySem.W.Frag} {kV5 dc5 pm5 cd5 ct5 : Value} {an5 : Option Addr} {T5 : Addr} : ∀ n ks pm', (5, n, ks, pm') ∈ I.pat → PatOk K (PySem.W.fnOf "go" "Walk.go" (defArgs (inCls 5 (top 7))) (defBody (inCls 5 (top 7))) (defScope (inCls 5 (top 7))) (.ref T5) kV5 dc5 pm5 an5 cd5 ct5) p5 n ks pm' := by
  intro n ks pm' m
  have m := pat_split (lf := []) rfl m
  cases m
theorem str5 {kV5 dc5 pm5 cd5 ct5 : Value} {an5 : Option Addr} {T5 : Addr} : ∀ n, (5, n) ∈ I.str → StarOk (PySem.W.fnOf "go" "Walk.go" (defArgs (inCls 5 (top 7))) (defBody (inCls 5 (top 7))) (defScope (inCls 5 (top 7))) (.ref T5) kV5 dc5 pm5 an5 cd5 ct5) p5 n := by
  intro n m
  have m := mem_of (l := I.str) (lf := []) rfl m
  cases m
theorem pat6 {K : PySem.W.Frag} {kV6 dc6 pm6 cd6 ct6 : Value} {an6 : Option Addr} : ∀ n ks pm', (6, n, ks, pm') ∈ I.pat → PatOk K (PySem.W.fnOf "undo" "Walk.undo" (defArgs (inCls 6 (top 7))) (defBody (inCls 6 (top 7))) (defScope (inCls 6 (top 7))) .none kV6 dc6 pm6 an6 cd6 ct6) p6 n ks pm' := by
  intro n ks pm' m
  have m := pat_split (lf := [(6, 1, [], [0])]) rfl m
  rcases List.mem_cons.mp m with e | m
  · cases e
    exact fun s us ws _ h1 h2 => match us, ws, h1, h2 with | [_], [], _, _ => ⟨_, rfl, .of_eq rfl⟩
  cases m
theorem str6 {kV6 dc6 pm6 cd6 ct6 : Value} {an6 : Option Addr} : ∀ n, (6, n) ∈ I.str → StarOk (PySem.W.fnOf "undo" "Walk.undo" (defArgs (inCls 6 (top 7))) (defBody (inCls 6 (top 7))) (defScope (inCls 6 (top 7))) .none kV6 dc6 pm6 an6 cd6 ct6) p6 n := by
  intro n m
  have m := mem_of (l := I.str) (lf := []) rfl m
  cases m
theorem pat7 {K : PySem.W.Frag} {kV7 dc7 pm7 cd7 ct7 : Value} {an7 : Option Addr} : ∀ n ks pm', (7, n, ks, pm') ∈ I.pat → PatOk K (PySem.W.fnOf "gone_on" "gone_on" (defArgs (top 9)) (defBody (top 9)) (defScope (top 9)) .none kV7 dc7 pm7 an7 cd7 ct7) p7 n ks pm' := by
  intro n ks pm' m
  have m := pat_split (lf := [(7, 2, [], [0, 1])]) rfl m
  rcases List.mem_cons.mp m with e | m
  · cases e
    exact fun s us ws _ h1 h2 => match us, ws, h1, h2 with | [_, _], [], _, _ => ⟨_, rfl, .of_eq rfl⟩
  cases m
theorem str7 {kV7 dc7 pm7 cd7 ct7 : Value} {an7 : Option Addr} : ∀ n, (7, n) ∈ I.str → StarOk (PySem.W.fnOf "gone_on" "gone_on" (defArgs (top 9)) (defBody (top 9)) (defScope (top 9)) .none kV7 dc7 pm7 an7 cd7 ct7) p7 n := by
  intro n m
  have m := mem_of (l := I.str) (lf := []) rfl m
  cases m
theorem pat8 {K : PySem.W.Frag} {kV8 dc8 pm8 cd8 ct8 : Value} {an8 : Option Addr} : ∀ n ks pm', (8, n, ks, pm') ∈ I.pat → PatOk K (PySem.W.fnOf "gone_on_by" "gone_on_by" (defArgs (top 10)) (defBody (top 10)) (defScope (top 10)) .none kV8 dc8 pm8 an8 cd8 ct8) p8 n ks pm' := by
  intro n ks pm' m
  have m := pat_split (lf := [(8, 3, [], [0, 1, 2])]) rfl m
  rcases List.mem_cons.mp m with e | m
  · cases e
    exact fun s us ws _ h1 h2 => match us, ws, h1, h2 with | [_, _, _], [], _, _ => ⟨_, rfl, .of_eq rfl⟩
  cases m
theorem str8 {kV8 dc8 pm8 cd8 ct8 : Value} {an8 : Option Addr} : ∀ n, (8, n) ∈ I.str → StarOk (PySem.W.fnOf "gone_on_by" "gone_on_by" (defArgs (top 10)) (defBody (top 10)) (defScope (top 10)) .none kV8 dc8 pm8 an8 cd8 ct8) p8 n := by
  intro n m
  have m := mem_of (l := I.str) (lf := []) rfl m
  cases m
theorem pat9 {K : PySem.W.Frag} {kV9 dc9 pm9 cd9 ct9 : Value} {an9 : Option Addr} : ∀ n ks pm', (9, n, ks, pm') ∈ I.pat → PatOk K (PySem.W.fnOf "sparse" "sparse" (defArgs (top 11)) (defBody (top 11)) (defScope (top 11)) .none kV9 dc9 pm9 an9 cd9 ct9) p9 n ks pm' := by
  intro n ks pm' m
  have m := pat_split (lf := [(9, 1, [], [0])]) rfl m
  rcases List.mem_cons.mp m with e | m
  · cases e
    exact fun s us ws _ h1 h2 => match us, ws, h1, h2 with | [_], [], _, _ => ⟨_, rfl, .of_eq rfl⟩
  cases m
theorem str9 {kV9 dc9 pm9 cd9 ct9 : Value} {an9 : Option Addr} : ∀ n, (9, n) ∈ I.str → StarOk (PySem.W.fnOf "sparse" "sparse" (defArgs (top 11)) (defBody (top 11)) (defScope (top 11)) .none kV9 dc9 pm9 an9 cd9 ct9) p9 n := by
  intro n m
  have m := mem_of (l := I.str) (lf := []) rfl m
  cases m
theorem pat10 {K : PySem.W.Frag} {kV10 dc10 pm10 cd10 ct10 : Value} {an10 : Option Addr} : ∀ n ks pm', (10, n, ks, pm') ∈ I.pat → PatOk K (PySem.W.fnOf "by_steps" "by_steps" (defArgs (top 18)) (defBody (top 18)) (defScope (top 18)) .none kV10 dc10 pm10 an10 cd10 ct10) p10 n ks pm' := by
  intro n ks pm' m
  have m := pat_split (lf := [(10, 3, [], [0, 1, 2])]) rfl m
  rcases List.mem_cons.mp m with e | m
  · cases e
    exact fun s us ws _ h1 h2 => match us, ws, h1, h2 with | [_, _, _], [], _, _ => ⟨_, rfl, .of_eq rfl⟩
  cases m
theorem str10 {kV10 dc10 pm10 cd10 ct10 : Value} {an10 : Option Addr} : ∀ n, (10, n) ∈ I.str → StarOk (PySem.W.fnOf "by_steps" "by_steps" (defArgs (top 18)) (defBody (top 18)) (defScope (top 18)) .none kV10 dc10 pm10 an10 cd10 ct10) p10 n := by
  intro n m
  have m := mem_of (l := I.str) (lf := []) rfl m
  cases m
theorem pat11 {K : PySem.W.Frag} {kV11 dc11 pm11 cd11 ct11 : Value} {an11 : Option Addr} : ∀ n ks pm', (11, n, ks, pm') ∈ I.pat → PatOk K (PySem.W.fnOf "turned_about" "turned_about" (defArgs (top 19)) (defBody (top 19)) (defScope (top 19)) .none kV11 dc11 pm11 an11 cd11 ct11) p11 n ks pm' := by
  intro n ks pm' m
  have m := pat_split (lf := [(11, 1, [], [0])]) rfl m
  rcases List.mem_cons.mp m with e | m
  · cases e
    exact fun s us ws _ h1 h2 => match us, ws, h1, h2 with | [_], [], _, _ => ⟨_, rfl, .of_eq rfl⟩
  cases m
theorem str11 {kV11 dc11 pm11 cd11 ct11 : Value} {an11 : Option Addr} : ∀ n, (11, n) ∈ I.str → StarOk (PySem.W.fnOf "turned_about" "turned_about" (defArgs (top 19)) (defBody (top 19)) (defScope (top 19)) .none kV11 dc11 pm11 an11 cd11 ct11) p11 n := by
  intro n m
  have m := mem_of (l := I.str) (lf := []) rfl m
  cases m
theorem pat12 {K : PySem.W.Frag} {kV12 dc12 pm12 cd12 ct12 : Value} {an12 : Option Addr} : ∀ n ks pm', (12, n, ks, pm') ∈ I.pat → PatOk K (PySem.W.fnOf "is_count" "is_count" (defArgs (top 34)) (defBody (top 34)) (defScope (top 34)) .none kV12 dc12 pm12 an12 cd12 ct12) p12 n ks pm' := by
  intro n ks pm' m
  have m := pat_split (lf := [(12, 2, [], [0, 1])]) rfl m
  rcases List.mem_cons.mp m with e | m
  · cases e
    exact fun s us ws _ h1 h2 => match us, ws, h1, h2 with | [_, _], [], _, _ => ⟨_, rfl, .of_eq rfl⟩
  cases m
theorem str12 {kV12 dc12 pm12 cd12 ct12 : Value} {an12 : Option Addr} : ∀ n, (12, n) ∈ I.str → StarOk (PySem.W.fnOf "is_count" "is_count" (defArgs (top 34)) (defBody (top 34)) (defScope (top 34)) .none kV12 dc12 pm12 an12 cd12 ct12) p12 n := by
  intro n m
  have m := mem_of (l := I.str) (lf := []) rfl m
  cases m
theorem pat13 {K : PySem.W.Frag} {kV13 dc13 pm13 cd13 ct13 : Value} {an13 : Option Addr} : ∀ n ks pm', (13, n, ks, pm') ∈ I.pat → PatOk K (PySem.W.fnOf "are_counts" "are_counts" (defArgs (top 35)) (defBody (top 35)) (defScope (top 35)) .none kV13 dc13 pm13 an13 cd13 ct13) p13 n ks pm' := by
  intro n ks pm' m
  have m := pat_split (lf := [(13, 1, [], [0])]) rfl m
  rcases List.mem_cons.mp m with e | m
  · cases e
    exact fun s us ws _ h1 h2 => match us, ws, h1, h2 with | [_], [], _, _ => ⟨_, rfl, .of_eq rfl⟩
  cases m
theorem str13 {kV13 dc13 pm13 cd13 ct13 : Value} {an13 : Option Addr} : ∀ n, (13, n) ∈ I.str → StarOk (PySem.W.fnOf "are_counts" "are_counts" (defArgs (top 35)) (defBody (top 35)) (defScope (top 35)) .none kV13 dc13 pm13 an13 cd13 ct13) p13 n := by
  intro n m
  have m := mem_of (l := I.str) (lf := []) rfl m
  cases m
theorem pat14 {K : PySem.W.Frag} {kV14 dc14 pm14 cd14 ct14 : Value} {an14 : Option Addr} : ∀ n ks pm', (14, n, ks, pm') ∈ I.pat → PatOk K (PySem.W.fnOf "is_move" "is_move" (defArgs (top 36)) (defBody (top 36)) (defScope (top 36)) .none kV14 dc14 pm14 an14 cd14 ct14) p14 n ks pm' := by
  intro n ks pm' m
  have m := pat_split (lf := [(14, 2, [], [0, 1])]) rfl m
  rcases List.mem_cons.mp m with e | m
  · cases e
    exact fun s us ws _ h1 h2 => match us, ws, h1, h2 with | [_, _], [], _, _ => ⟨_, rfl, .of_eq rfl⟩
  cases m
theorem str14 {kV14 dc14 pm14 cd14 ct14 : Value} {an14 : Option Addr} : ∀ n, (14, n) ∈ I.str → StarOk (PySem.W.fnOf "is_move" "is_move" (defArgs (top 36)) (defBody (top 36)) (defScope (top 36)) .none kV14 dc14 pm14 an14 cd14 ct14) p14 n := by
  intro n m
  have m := mem_of (l := I.str) (lf := []) rfl m
  cases m
theorem pat15 {K : PySem.W.Frag} {kV15 dc15 pm15 cd15 ct15 : Value} {an15 : Option Addr} : ∀ n ks pm', (15, n, ks, pm') ∈ I.pat → PatOk K (PySem.W.fnOf "is_row" "is_row" (defArgs (top 37)) (defBody (top 37)) (defScope (top 37)) .none kV15 dc15 pm15 an15 cd15 ct15) p15 n ks pm' := by
  intro n ks pm' m
  have m := pat_split (lf := [(15, 2, [], [0, 1])]) rfl m
  rcases List.mem_cons.mp m with e | m
  · cases e
    exact fun s us ws _ h1 h2 => match us, ws, h1, h2 with | [_, _], [], _, _ => ⟨_, rfl, .of_eq rfl⟩
  cases m
theorem str15 {kV15 dc15 pm15 cd15 ct15 : Value} {an15 : Option Addr} : ∀ n, (15, n) ∈ I.str → StarOk (PySem.W.fnOf "is_row" "is_row" (defArgs (top 37)) (defBody (top 37)) (defScope (top 37)) .none kV15 dc15 pm15 an15 cd15 ct15) p15 n := by
  intro n m
  have m := mem_of (l := I.str) (lf := []) rfl m
  cases m
theorem pat16 {K : PySem.W.Frag} {kV16 dc16 pm16 cd16 ct16 : Value} {an16 : Option Addr} : ∀ n ks pm', (16, n, ks, pm') ∈ I.pat → PatOk K (PySem.W.fnOf "__init__" "Machine.__init__" (defArgs (inCls 0 (top 38))) (defBody (inCls 0 (top 38))) (defScope (inCls 0 (top 38))) .none kV16 dc16 pm16 an16 cd16 ct16) p16 n ks pm' := by
  intro n ks pm' m
  have m := pat_split (lf := [(16, 4, [], [0, 1, 2, 3])]) rfl m
  rcases List.mem_cons.mp m with e | m
  · cases e
    exact fun s us ws _ h1 h2 => match us, ws, h1, h2 with | [_, _, _, _], [], _, _ => ⟨_, rfl, .of_eq rfl⟩
  cases m
theorem str16 {kV16 dc16 pm16 cd16 ct16 : Value} {an16 : Option Addr} : ∀ n, (16, n) ∈ I.str → StarOk (PySem.W.fnOf "__init__" "Machine.__init__" (defArgs (inCls 0 (top 38))) (defBody (inCls 0 (top 38))) (defScope (inCls 0 (top 38))) .none kV16 dc16 pm16 an16 cd16 ct16) p16 n := by
  intro n m
  have m := mem_of (l := I.str) (lf := []) rfl m
  cases m
theorem pat17 {K : PySem.W.Frag} {kV17 dc17 pm17 cd17 ct17 : Value} {an17 : Option Addr} : ∀ n ks pm', (17, n, ks, pm') ∈ I.pat → PatOk K (PySem.W.fnOf "__eq__" "Machine.__eq__" (defArgs (inCls 4 (top 38))) (defBody (inCls 4 (top 38))) (defScope (inCls 4 (top 38))) .none kV17 dc17 pm17 an17 cd17 ct17) p17 n ks pm' := by
  intro n ks pm' m
  have m := pat_split (lf := [(17, 2, [], [0, 1])]) rfl m
  rcases List.mem_cons.mp m with e | m
  · cases e
    exact fun s us ws _ h1 h2 => match us, ws, h1, h2 with | [_, _], [], _, _ => ⟨_, rfl, .of_eq rfl⟩
  cases m
theorem str17 {kV17 dc17 pm17 cd17 ct17 : Value} {an17 : Option Addr} : ∀ n, (17, n) ∈ I.str → StarOk (PySem.W.fnOf "__eq__" "Machine.__eq__" (defArgs (inCls 4 (top 38))) (defBody (inCls 4 (top 38))) (defScope (inCls 4 (top 38))) .none kV17 dc17 pm17 an17 cd17 ct17) p17 n := by
  intro n m
  have m := mem_of (l := I.str) (lf := []) rfl m
  cases m
theorem pat18 {K : PySem.W.Frag} {kV18 dc18 pm18 cd18 ct18 : Value} {an18 : Option Addr} : ∀ n ks pm', (18, n, ks, pm') ∈ I.pat → PatOk K (PySem.W.fnOf "section" "Machine.section" (defArgs (inCls 14 (top 38))) (defBody (inCls 14 (top 38))) (defScope (inCls 14 (top 38))) .none kV18 dc18 pm18 an18 cd18 ct18) p18 n ks pm' := by
  intro n ks pm' m
  have m := pat_split (lf := [(18, 3, [], [0, 1, 2])]) rfl m
  rcases List.mem_cons.mp m with e | m
  · cases e
    exact fun s us ws _ h1 h2 => match us, ws, h1, h2 with | [_, _, _], [], _, _ => ⟨_, rfl, .of_eq rfl⟩
  cases m
theorem str18 {kV18 dc18 pm18 cd18 ct18 : Value} {an18 : Option Addr} : ∀ n, (18, n) ∈ I.str → StarOk (PySem.W.fnOf "section" "Machine.section" (defArgs (inCls 14 (top 38))) (defBody (inCls 14 (top 38))) (defScope (inCls 14 (top 38))) .none kV18 dc18 pm18 an18 cd18 ct18) p18 n := by
  intro n m
  have m := mem_of (l := I.str) (lf := []) rfl m
  cases m
theorem pat19 {K : PySem.W.Frag} {kV19 dc19 pm19 cd19 ct19 : Value} {an19 : Option Addr} : ∀ n ks pm', (19, n, ks, pm') ∈ I.pat → PatOk K (PySem.W.fnOf "turned" "Machine.turned" (defArgs (inCls 15 (top 38))) (defBody (inCls 15 (top 38))) (defScope (inCls 15 (top 38))) .none kV19 dc19 pm19 an19 cd19 ct19) p19 n ks pm' := by
  intro n ks pm' m
  have m := pat_split (lf := [(19, 1, [], [0])]) rfl m
  rcases List.mem_cons.mp m with e | m
  · cases e
    exact fun s us ws _ h1 h2 => match us, ws, h1, h2 with | [_], [], _, _ => ⟨_, rfl, .of_eq rfl⟩
  cases m
theorem str19 {kV19 dc19 pm19 cd19 ct19 : Value} {an19 : Option Addr} : ∀ n, (19, n) ∈ I.str → StarOk (PySem.W.fnOf "turned" "Machine.turned" (defArgs (inCls 15 (top 38))) (defBody (inCls 15 (top 38))) (defScope (inCls 15 (top 38))) .none kV19 dc19 pm19 an19 cd19 ct19) p19 n := by
  intro n m
  have m := mem_of (l := I.str) (lf := []) rfl m
  cases m
theorem pat20 {K : PySem.W.Frag} {kV20 dc20 pm20 cd20 ct20 : Value} {an20 : Option Addr} : ∀ n ks pm', (20, n, ks, pm') ∈ I.pat → PatOk K (PySem.W.fnOf "_law_deck" "_law_deck" (defArgs (top 40)) (defBody (top 40)) (defScope (top 40)) .none kV20 dc20 pm20 an20 cd20 ct20) p20 n ks pm' := by
  intro n ks pm' m
  have m := pat_split (lf := [(20, 1, [], [0])]) rfl m
  rcases List.mem_cons.mp m with e | m
  · cases e
    exact fun s us ws _ h1 h2 => match us, ws, h1, h2 with | [_], [], _, _ => ⟨_, rfl, .of_eq rfl⟩
  cases m
theorem str20 {kV20 dc20 pm20 cd20 ct20 : Value} {an20 : Option Addr} : ∀ n, (20, n) ∈ I.str → StarOk (PySem.W.fnOf "_law_deck" "_law_deck" (defArgs (top 40)) (defBody (top 40)) (defScope (top 40)) .none kV20 dc20 pm20 an20 cd20 ct20) p20 n := by
  intro n m
  have m := mem_of (l := I.str) (lf := []) rfl m
  cases m
theorem pat21 {K : PySem.W.Frag} {kV21 dc21 pm21 cd21 ct21 : Value} {an21 : Option Addr} : ∀ n ks pm', (21, n, ks, pm') ∈ I.pat → PatOk K (PySem.W.fnOf "_law_draw" "_law_draw" (defArgs (top 41)) (defBody (top 41)) (defScope (top 41)) .none kV21 dc21 pm21 an21 cd21 ct21) p21 n ks pm' := by
  intro n ks pm' m
  have m := pat_split (lf := [(21, 2, [], [0, 1])]) rfl m
  rcases List.mem_cons.mp m with e | m
  · cases e
    exact fun s us ws _ h1 h2 => match us, ws, h1, h2 with | [_, _], [], _, _ => ⟨_, rfl, .of_eq rfl⟩
  cases m
theorem str21 {kV21 dc21 pm21 cd21 ct21 : Value} {an21 : Option Addr} : ∀ n, (21, n) ∈ I.str → StarOk (PySem.W.fnOf "_law_draw" "_law_draw" (defArgs (top 41)) (defBody (top 41)) (defScope (top 41)) .none kV21 dc21 pm21 an21 cd21 ct21) p21 n := by
  intro n m
  have m := mem_of (l := I.str) (lf := []) rfl m
  cases m
theorem pat22 {K : PySem.W.Frag} {kV22 dc22 pm22 cd22 ct22 : Value} {an22 : Option Addr} : ∀ n ks pm', (22, n, ks, pm') ∈ I.pat → PatOk K (PySem.W.fnOf "_law_built" "_law_built" (defArgs (top 43)) (defBody (top 43)) (defScope (top 43)) .none kV22 dc22 pm22 an22 cd22 ct22) p22 n ks pm' := by
  intro n ks pm' m
  have m := pat_split (lf := [(22, 3, [], [0, 1, 2])]) rfl m
  rcases List.mem_cons.mp m with e | m
  · cases e
    exact fun s us ws _ h1 h2 => match us, ws, h1, h2 with | [_, _, _], [], _, _ => ⟨_, rfl, .of_eq rfl⟩
  cases m
theorem str22 {kV22 dc22 pm22 cd22 ct22 : Value} {an22 : Option Addr} : ∀ n, (22, n) ∈ I.str → StarOk (PySem.W.fnOf "_law_built" "_law_built" (defArgs (top 43)) (defBody (top 43)) (defScope (top 43)) .none kV22 dc22 pm22 an22 cd22 ct22) p22 n := by
  intro n m
  have m := mem_of (l := I.str) (lf := []) rfl m
  cases m
theorem pat23 {K : PySem.W.Frag} {kV23 dc23 pm23 cd23 ct23 : Value} {an23 : Option Addr} : ∀ n ks pm', (23, n, ks, pm') ∈ I.pat → PatOk K (PySem.W.fnOf "_law_counted" "_law_counted" (defArgs (top 44)) (defBody (top 44)) (defScope (top 44)) .none kV23 dc23 pm23 an23 cd23 ct23) p23 n ks pm' := by
  intro n ks pm' m
  have m := pat_split (lf := [(23, 2, [], [0, 1])]) rfl m
  rcases List.mem_cons.mp m with e | m
  · cases e
    exact fun s us ws _ h1 h2 => match us, ws, h1, h2 with | [_, _], [], _, _ => ⟨_, rfl, .of_eq rfl⟩
  cases m
theorem str23 {kV23 dc23 pm23 cd23 ct23 : Value} {an23 : Option Addr} : ∀ n, (23, n) ∈ I.str → StarOk (PySem.W.fnOf "_law_counted" "_law_counted" (defArgs (top 44)) (defBody (top 44)) (defScope (top 44)) .none kV23 dc23 pm23 an23 cd23 ct23) p23 n := by
  intro n m
  have m := mem_of (l := I.str) (lf := []) rfl m
  cases m
theorem pat24 {K : PySem.W.Frag} {kV24 dc24 pm24 cd24 ct24 : Value} {an24 : Option Addr} : ∀ n ks pm', (24, n, ks, pm') ∈ I.pat → PatOk K (PySem.W.fnOf "_law_met" "_law_met" (defArgs (top 45)) (defBody (top 45)) (defScope (top 45)) .none kV24 dc24 pm24 an24 cd24 ct24) p24 n ks pm' := by
  intro n ks pm' m
  have m := pat_split (lf := [(24, 2, [], [0, 1])]) rfl m
  rcases List.mem_cons.mp m with e | m
  · cases e
    exact fun s us ws _ h1 h2 => match us, ws, h1, h2 with | [_, _], [], _, _ => ⟨_, rfl, .of_eq rfl⟩
  cases m
theorem str24 {kV24 dc24 pm24 cd24 ct24 : Value} {an24 : Option Addr} : ∀ n, (24, n) ∈ I.str → StarOk (PySem.W.fnOf "_law_met" "_law_met" (defArgs (top 45)) (defBody (top 45)) (defScope (top 45)) .none kV24 dc24 pm24 an24 cd24 ct24) p24 n := by
  intro n m
  have m := mem_of (l := I.str) (lf := []) rfl m
  cases m
theorem pat25 {K : PySem.W.Frag} {kV25 dc25 pm25 cd25 ct25 : Value} {an25 : Option Addr} : ∀ n ks pm', (25, n, ks, pm') ∈ I.pat → PatOk K (PySem.W.fnOf "_law_gone" "_law_gone" (defArgs (top 46)) (defBody (top 46)) (defScope (top 46)) .none kV25 dc25 pm25 an25 cd25 ct25) p25 n ks pm' := by
  intro n ks pm' m
  have m := pat_split (lf := [(25, 3, [], [0, 1, 2])]) rfl m
  rcases List.mem_cons.mp m with e | m
  · cases e
    exact fun s us ws _ h1 h2 => match us, ws, h1, h2 with | [_, _, _], [], _, _ => ⟨_, rfl, .of_eq rfl⟩
  cases m
theorem str25 {kV25 dc25 pm25 cd25 ct25 : Value} {an25 : Option Addr} : ∀ n, (25, n) ∈ I.str → StarOk (PySem.W.fnOf "_law_gone" "_law_gone" (defArgs (top 46)) (defBody (top 46)) (defScope (top 46)) .none kV25 dc25 pm25 an25 cd25 ct25) p25 n := by
  intro n m
  have m := mem_of (l := I.str) (lf := []) rfl m
  cases m
theorem pat26 {K : PySem.W.Frag} {kV26 dc26 pm26 cd26 ct26 : Value} {an26 : Option Addr} : ∀ n ks pm', (26, n, ks, pm') ∈ I.pat → PatOk K (PySem.W.fnOf "_law_right" "_law_right" (defArgs (top 47)) (defBody (top 47)) (defScope (top 47)) .none kV26 dc26 pm26 an26 cd26 ct26) p26 n ks pm' := by
  intro n ks pm' m
  have m := pat_split (lf := [(26, 2, [], [0, 1])]) rfl m
  rcases List.mem_cons.mp m with e | m
  · cases e
    exact fun s us ws _ h1 h2 => match us, ws, h1, h2 with | [_, _], [], _, _ => ⟨_, rfl, .of_eq rfl⟩
  cases m
theorem str26 {kV26 dc26 pm26 cd26 ct26 : Value} {an26 : Option Addr} : ∀ n, (26, n) ∈ I.str → StarOk (PySem.W.fnOf "_law_right" "_law_right" (defArgs (top 47)) (defBody (top 47)) (defScope (top 47)) .none kV26 dc26 pm26 an26 cd26 ct26) p26 n := by
  intro n m
  have m := mem_of (l := I.str) (lf := []) rfl m
  cases m
theorem pat27 {K : PySem.W.Frag} {kV27 dc27 pm27 cd27 ct27 : Value} {an27 : Option Addr} : ∀ n ks pm', (27, n, ks, pm') ∈ I.pat → PatOk K (PySem.W.fnOf "law" "law" (defArgs (top 48)) (defBody (top 48)) (defScope (top 48)) .none kV27 dc27 pm27 an27 cd27 ct27) p27 n ks pm' := by
  intro n ks pm' m
  have m := pat_split (lf := []) rfl m
  cases m
theorem str27 {kV27 dc27 pm27 cd27 ct27 : Value} {an27 : Option Addr} : ∀ n, (27, n) ∈ I.str → StarOk (PySem.W.fnOf "law" "law" (defArgs (top 48)) (defBody (top 48)) (defScope (top 48)) .none kV27 dc27 pm27 an27 cd27 ct27) p27 n := by
  intro n m
  have m := mem_of (l := I.str) (lf := []) rfl m
  cases m
theorem all_mk {l : PySem.W.OpenLaw} {w : World} {K : PySem.W.Frag} {h : Heap} {mg : Str → Option Value} {fa : Addr} (X : K.In h) (Gr : h.Ns mainGlobals mg) (hfa : mg "law" = some (.ref fa))
    {a0 a1 a2 a3 a4 a5 a6 a7 a8 a9 a10 a11 a12 a13 a14 a15 a16 a17 a18 a19 a20 a21 a22 a23 a24 a25 a26 a27 : Addr} {od0 an0 od1 an1 od2 an2 od3 an3 od4 an4 od5 an5 od6 an6 od7 an7 od8 an8 od9 an9 od10 an10 od11 an11 od12 an12 od13 an13 od14 an14 od15 an15 od16 an16 od17 an17 od18 an18 od19 an19 od20 an20 od21 an21 od22 an22 od23 an23 od24 an24 od25 an25 od26 an26 od27 an27 : Option Addr} {sl0 sl1 sl2 sl3 sl4 sl5 sl6 sl7 sl8 sl9 sl10 sl11 sl12 sl13 sl14 sl15 sl16 sl17 sl18 sl19 sl20 sl21 sl22 sl23 sl24 sl25 sl26 sl27 : Array (Option Value)} {oc0 kV0 dc0 pm0 cd0 ct0 oc1 kV1 dc1 pm1 cd1 ct1 oc2 kV2 dc2 pm2 cd2 ct2 oc3 kV3 dc3 pm3 cd3 ct3 oc4 kV4 dc4 pm4 cd4 ct4 oc5 kV5 dc5 pm5 cd5 ct5 oc6 kV6 dc6 pm6 cd6 ct6 oc7 kV7 dc7 pm7 cd7 ct7 oc8 kV8 dc8 pm8 cd8 ct8 oc9 kV9 dc9 pm9 cd9 ct9 oc10 kV10 dc10 pm10 cd10 ct10 oc11 kV11 dc11 pm11 cd11 ct11 oc12 kV12 dc12 pm12 cd12 ct12 oc13 kV13 dc13 pm13 cd13 ct13 oc14 kV14 dc14 pm14 cd14 ct14 oc15 kV15 dc15 pm15 cd15 ct15 oc16 kV16 dc16 pm16 cd16 ct16 oc17 kV17 dc17 pm17 cd17 ct17 oc18 kV18 dc18 pm18 cd18 ct18 oc19 kV19 dc19 pm19 cd19 ct19 oc20 kV20 dc20 pm20 cd20 ct20 oc21 kV21 dc21 pm21 cd21 ct21 oc22 kV22 dc22 pm22 cd22 ct22 oc23 kV23 dc23 pm23 cd23 ct23 oc24 kV24 dc24 pm24 cd24 ct24 oc25 kV25 dc25 pm25 cd25 ct25 oc26 kV26 dc26 pm26 cd26 ct26 oc27 kV27 dc27 pm27 cd27 ct27 : Value}
    {A0 A1 : Addr}
    {T5 : Addr} {tc5 : Value} {td5 : Option Addr} {tn5 : Nat} {ts5 : Array (Option Value)}
    {tt5_0 : Tok}
    {pp1 pp2 pp3 : Addr} {pr1 pr2 pr3 : List Value}
    {gt0 : Tok}
    (x0 : PySem.W.nsIn K mainGlobals "Machine" = some (some (.ref A0)))
    (x1 : PySem.W.nsIn K mainGlobals "Walk" = some (some (.ref A1)))
    (e0 : PySem.W.findIn K (.ref A1) "__init__" = some (some (.ref a0)))
    (l0 : K.lookup a0 = some ⟨oc0, od0, .func (PySem.W.fnOf "__init__" "Walk.__init__" (defArgs (inCls 0 (top 7))) (defBody (inCls 0 (top 7))) (defScope (inCls 0 (top 7))) .none kV0 dc0 pm0 an0 cd0 ct0), sl0⟩)
    (c0 : PySem.W.codeIn K cd0 "Walk.__init__" = true)
    (k0 : PySem.W.keepIn K (.ref a0) = true)
    (i0 : PySem.W.isFn K (.ref a0) = true)
    (e1 : PySem.W.findIn K (.ref A1) "moves_made" = some (some (.ref pp1)))
    (r1 : PySem.W.recIn K pp1 "property" = some (.ref a1 :: pr1))
    (rg1 : PySem.W.specialIn K (.ref pp1) "__get__" = some (some (.builtin "property.__get__")))
    (rt1 : PySem.W.takesIn K (.ref pp1) = some true)
    (l1 : K.lookup a1 = some ⟨oc1, od1, .func (PySem.W.fnOf "moves_made" "Walk.moves_made" (defArgs (inCls 1 (top 7))) (defBody (inCls 1 (top 7))) (defScope (inCls 1 (top 7))) .none kV1 dc1 pm1 an1 cd1 ct1), sl1⟩)
    (c1 : PySem.W.codeIn K cd1 "Walk.moves_made" = true)
    (k1 : PySem.W.keepIn K (.ref a1) = true)
    (i1 : PySem.W.isFn K (.ref a1) = true)
    (e2 : PySem.W.findIn K (.ref A1) "runs" = some (some (.ref pp2)))
    (r2 : PySem.W.recIn K pp2 "property" = some (.ref a2 :: pr2))
    (rg2 : PySem.W.specialIn K (.ref pp2) "__get__" = some (some (.builtin "property.__get__")))
    (rt2 : PySem.W.takesIn K (.ref pp2) = some true)
    (l2 : K.lookup a2 = some ⟨oc2, od2, .func (PySem.W.fnOf "runs" "Walk.runs" (defArgs (inCls 2 (top 7))) (defBody (inCls 2 (top 7))) (defScope (inCls 2 (top 7))) .none kV2 dc2 pm2 an2 cd2 ct2), sl2⟩)
    (c2 : PySem.W.codeIn K cd2 "Walk.runs" = true)
    (k2 : PySem.W.keepIn K (.ref a2) = true)
    (i2 : PySem.W.isFn K (.ref a2) = true)
    (e3 : PySem.W.findIn K (.ref A1) "accepted" = some (some (.ref pp3)))
    (r3 : PySem.W.recIn K pp3 "property" = some (.ref a3 :: pr3))
    (rg3 : PySem.W.specialIn K (.ref pp3) "__get__" = some (some (.builtin "property.__get__")))
    (rt3 : PySem.W.takesIn K (.ref pp3) = some true)
    (l3 : K.lookup a3 = some ⟨oc3, od3, .func (PySem.W.fnOf "accepted" "Walk.accepted" (defArgs (inCls 3 (top 7))) (defBody (inCls 3 (top 7))) (defScope (inCls 3 (top 7))) .none kV3 dc3 pm3 an3 cd3 ct3), sl3⟩)
    (c3 : PySem.W.codeIn K cd3 "Walk.accepted" = true)
    (k3 : PySem.W.keepIn K (.ref a3) = true)
    (i3 : PySem.W.isFn K (.ref a3) = true)
    (e4 : PySem.W.findIn K (.ref A1) "__len__" = some (some (.ref a4)))
    (l4 : K.lookup a4 = some ⟨oc4, od4, .func (PySem.W.fnOf "__len__" "Walk.__len__" (defArgs (inCls 4 (top 7))) (defBody (inCls 4 (top 7))) (defScope (inCls 4 (top 7))) .none kV4 dc4 pm4 an4 cd4 ct4), sl4⟩)
    (c4 : PySem.W.codeIn K cd4 "Walk.__len__" = true)
    (k4 : PySem.W.keepIn K (.ref a4) = true)
    (i4 : PySem.W.isFn K (.ref a4) = true)
    (e5 : PySem.W.findIn K (.ref A1) "go" = some (some (.ref a5)))
    (l5 : K.lookup a5 = some ⟨oc5, od5, .func (PySem.W.fnOf "go" "Walk.go" (defArgs (inCls 5 (top 7))) (defBody (inCls 5 (top 7))) (defScope (inCls 5 (top 7))) (.ref T5) kV5 dc5 pm5 an5 cd5 ct5), sl5⟩)
    (c5 : PySem.W.codeIn K cd5 "Walk.go" = true)
    (dl5 : K.lookup T5 = some ⟨tc5, td5, .seq #[.int 1 tt5_0] tn5, ts5⟩)
    (k5 : PySem.W.keepIn K (.ref a5) = true)
    (i5 : PySem.W.isFn K (.ref a5) = true)
    (e6 : PySem.W.findIn K (.ref A1) "undo" = some (some (.ref a6)))
    (l6 : K.lookup a6 = some ⟨oc6, od6, .func (PySem.W.fnOf "undo" "Walk.undo" (defArgs (inCls 6 (top 7))) (defBody (inCls 6 (top 7))) (defScope (inCls 6 (top 7))) .none kV6 dc6 pm6 an6 cd6 ct6), sl6⟩)
    (c6 : PySem.W.codeIn K cd6 "Walk.undo" = true)
    (k6 : PySem.W.keepIn K (.ref a6) = true)
    (i6 : PySem.W.isFn K (.ref a6) = true)
    (e7 : PySem.W.nsIn K mainGlobals "gone_on" = some (some (.ref a7)))
    (l7 : K.lookup a7 = some ⟨oc7, od7, .func (PySem.W.fnOf "gone_on" "gone_on" (defArgs (top 9)) (defBody (top 9)) (defScope (top 9)) .none kV7 dc7 pm7 an7 cd7 ct7), sl7⟩)
    (c7 : PySem.W.codeIn K cd7 "gone_on" = true)
    (k7 : PySem.W.keepIn K (.ref a7) = true)
    (e8 : PySem.W.nsIn K mainGlobals "gone_on_by" = some (some (.ref a8)))
    (l8 : K.lookup a8 = some ⟨oc8, od8, .func (PySem.W.fnOf "gone_on_by" "gone_on_by" (defArgs (top 10)) (defBody (top 10)) (defScope (top 10)) .none kV8 dc8 pm8 an8 cd8 ct8), sl8⟩)
    (c8 : PySem.W.codeIn K cd8 "gone_on_by" = true)
    (k8 : PySem.W.keepIn K (.ref a8) = true)
    (e9 : PySem.W.nsIn K mainGlobals "sparse" = some (some (.ref a9)))
    (l9 : K.lookup a9 = some ⟨oc9, od9, .func (PySem.W.fnOf "sparse" "sparse" (defArgs (top 11)) (defBody (top 11)) (defScope (top 11)) .none kV9 dc9 pm9 an9 cd9 ct9), sl9⟩)
    (c9 : PySem.W.codeIn K cd9 "sparse" = true)
    (k9 : PySem.W.keepIn K (.ref a9) = true)
    (e10 : PySem.W.nsIn K mainGlobals "by_steps" = some (some (.ref a10)))
    (l10 : K.lookup a10 = some ⟨oc10, od10, .func (PySem.W.fnOf "by_steps" "by_steps" (defArgs (top 18)) (defBody (top 18)) (defScope (top 18)) .none kV10 dc10 pm10 an10 cd10 ct10), sl10⟩)
    (c10 : PySem.W.codeIn K cd10 "by_steps" = true)
    (k10 : PySem.W.keepIn K (.ref a10) = true)
    (e11 : PySem.W.nsIn K mainGlobals "turned_about" = some (some (.ref a11)))
    (l11 : K.lookup a11 = some ⟨oc11, od11, .func (PySem.W.fnOf "turned_about" "turned_about" (defArgs (top 19)) (defBody (top 19)) (defScope (top 19)) .none kV11 dc11 pm11 an11 cd11 ct11), sl11⟩)
    (c11 : PySem.W.codeIn K cd11 "turned_about" = true)
    (k11 : PySem.W.keepIn K (.ref a11) = true)
    (e12 : PySem.W.nsIn K mainGlobals "is_count" = some (some (.ref a12)))
    (l12 : K.lookup a12 = some ⟨oc12, od12, .func (PySem.W.fnOf "is_count" "is_count" (defArgs (top 34)) (defBody (top 34)) (defScope (top 34)) .none kV12 dc12 pm12 an12 cd12 ct12), sl12⟩)
    (c12 : PySem.W.codeIn K cd12 "is_count" = true)
    (k12 : PySem.W.keepIn K (.ref a12) = true)
    (e13 : PySem.W.nsIn K mainGlobals "are_counts" = some (some (.ref a13)))
    (l13 : K.lookup a13 = some ⟨oc13, od13, .func (PySem.W.fnOf "are_counts" "are_counts" (defArgs (top 35)) (defBody (top 35)) (defScope (top 35)) .none kV13 dc13 pm13 an13 cd13 ct13), sl13⟩)
    (c13 : PySem.W.codeIn K cd13 "are_counts" = true)
    (k13 : PySem.W.keepIn K (.ref a13) = true)
    (e14 : PySem.W.nsIn K mainGlobals "is_move" = some (some (.ref a14)))
    (l14 : K.lookup a14 = some ⟨oc14, od14, .func (PySem.W.fnOf "is_move" "is_move" (defArgs (top 36)) (defBody (top 36)) (defScope (top 36)) .none kV14 dc14 pm14 an14 cd14 ct14), sl14⟩)
    (c14 : PySem.W.codeIn K cd14 "is_move" = true)
    (k14 : PySem.W.keepIn K (.ref a14) = true)
    (e15 : PySem.W.nsIn K mainGlobals "is_row" = some (some (.ref a15)))
    (l15 : K.lookup a15 = some ⟨oc15, od15, .func (PySem.W.fnOf "is_row" "is_row" (defArgs (top 37)) (defBody (top 37)) (defScope (top 37)) .none kV15 dc15 pm15 an15 cd15 ct15), sl15⟩)
    (c15 : PySem.W.codeIn K cd15 "is_row" = true)
    (k15 : PySem.W.keepIn K (.ref a15) = true)
    (e16 : PySem.W.findIn K (.ref A0) "__init__" = some (some (.ref a16)))
    (l16 : K.lookup a16 = some ⟨oc16, od16, .func (PySem.W.fnOf "__init__" "Machine.__init__" (defArgs (inCls 0 (top 38))) (defBody (inCls 0 (top 38))) (defScope (inCls 0 (top 38))) .none kV16 dc16 pm16 an16 cd16 ct16), sl16⟩)
    (c16 : PySem.W.codeIn K cd16 "Machine.__init__" = true)
    (k16 : PySem.W.keepIn K (.ref a16) = true)
    (i16 : PySem.W.isFn K (.ref a16) = true)
    (e17 : PySem.W.findIn K (.ref A0) "__eq__" = some (some (.ref a17)))
    (l17 : K.lookup a17 = some ⟨oc17, od17, .func (PySem.W.fnOf "__eq__" "Machine.__eq__" (defArgs (inCls 4 (top 38))) (defBody (inCls 4 (top 38))) (defScope (inCls 4 (top 38))) .none kV17 dc17 pm17 an17 cd17 ct17), sl17⟩)
    (c17 : PySem.W.codeIn K cd17 "Machine.__eq__" = true)
    (k17 : PySem.W.keepIn K (.ref a17) = true)
    (i17 : PySem.W.isFn K (.ref a17) = true)
    (e18 : PySem.W.findIn K (.ref A0) "section" = some (some (.ref a18)))
    (l18 : K.lookup a18 = some ⟨oc18, od18, .func (PySem.W.fnOf "section" "Machine.section" (defArgs (inCls 14 (top 38))) (defBody (inCls 14 (top 38))) (defScope (inCls 14 (top 38))) .none kV18 dc18 pm18 an18 cd18 ct18), sl18⟩)
    (c18 : PySem.W.codeIn K cd18 "Machine.section" = true)
    (k18 : PySem.W.keepIn K (.ref a18) = true)
    (i18 : PySem.W.isFn K (.ref a18) = true)
    (e19 : PySem.W.findIn K (.ref A0) "turned" = some (some (.ref a19)))
    (l19 : K.lookup a19 = some ⟨oc19, od19, .func (PySem.W.fnOf "turned" "Machine.turned" (defArgs (inCls 15 (top 38))) (defBody (inCls 15 (top 38))) (defScope (inCls 15 (top 38))) .none kV19 dc19 pm19 an19 cd19 ct19), sl19⟩)
    (c19 : PySem.W.codeIn K cd19 "Machine.turned" = true)
    (k19 : PySem.W.keepIn K (.ref a19) = true)
    (i19 : PySem.W.isFn K (.ref a19) = true)
    (e20 : PySem.W.nsIn K mainGlobals "_law_deck" = some (some (.ref a20)))
    (l20 : K.lookup a20 = some ⟨oc20, od20, .func (PySem.W.fnOf "_law_deck" "_law_deck" (defArgs (top 40)) (defBody (top 40)) (defScope (top 40)) .none kV20 dc20 pm20 an20 cd20 ct20), sl20⟩)
    (c20 : PySem.W.codeIn K cd20 "_law_deck" = true)
    (k20 : PySem.W.keepIn K (.ref a20) = true)
    (e21 : PySem.W.nsIn K mainGlobals "_law_draw" = some (some (.ref a21)))
    (l21 : K.lookup a21 = some ⟨oc21, od21, .func (PySem.W.fnOf "_law_draw" "_law_draw" (defArgs (top 41)) (defBody (top 41)) (defScope (top 41)) .none kV21 dc21 pm21 an21 cd21 ct21), sl21⟩)
    (c21 : PySem.W.codeIn K cd21 "_law_draw" = true)
    (k21 : PySem.W.keepIn K (.ref a21) = true)
    (e22 : PySem.W.nsIn K mainGlobals "_law_built" = some (some (.ref a22)))
    (l22 : K.lookup a22 = some ⟨oc22, od22, .func (PySem.W.fnOf "_law_built" "_law_built" (defArgs (top 43)) (defBody (top 43)) (defScope (top 43)) .none kV22 dc22 pm22 an22 cd22 ct22), sl22⟩)
    (c22 : PySem.W.codeIn K cd22 "_law_built" = true)
    (k22 : PySem.W.keepIn K (.ref a22) = true)
    (e23 : PySem.W.nsIn K mainGlobals "_law_counted" = some (some (.ref a23)))
    (l23 : K.lookup a23 = some ⟨oc23, od23, .func (PySem.W.fnOf "_law_counted" "_law_counted" (defArgs (top 44)) (defBody (top 44)) (defScope (top 44)) .none kV23 dc23 pm23 an23 cd23 ct23), sl23⟩)
    (c23 : PySem.W.codeIn K cd23 "_law_counted" = true)
    (k23 : PySem.W.keepIn K (.ref a23) = true)
    (e24 : PySem.W.nsIn K mainGlobals "_law_met" = some (some (.ref a24)))
    (l24 : K.lookup a24 = some ⟨oc24, od24, .func (PySem.W.fnOf "_law_met" "_law_met" (defArgs (top 45)) (defBody (top 45)) (defScope (top 45)) .none kV24 dc24 pm24 an24 cd24 ct24), sl24⟩)
    (c24 : PySem.W.codeIn K cd24 "_law_met" = true)
    (k24 : PySem.W.keepIn K (.ref a24) = true)
    (e25 : PySem.W.nsIn K mainGlobals "_law_gone" = some (some (.ref a25)))
    (l25 : K.lookup a25 = some ⟨oc25, od25, .func (PySem.W.fnOf "_law_gone" "_law_gone" (defArgs (top 46)) (defBody (top 46)) (defScope (top 46)) .none kV25 dc25 pm25 an25 cd25 ct25), sl25⟩)
    (c25 : PySem.W.codeIn K cd25 "_law_gone" = true)
    (k25 : PySem.W.keepIn K (.ref a25) = true)
    (e26 : PySem.W.nsIn K mainGlobals "_law_right" = some (some (.ref a26)))
    (l26 : K.lookup a26 = some ⟨oc26, od26, .func (PySem.W.fnOf "_law_right" "_law_right" (defArgs (top 47)) (defBody (top 47)) (defScope (top 47)) .none kV26 dc26 pm26 an26 cd26 ct26), sl26⟩)
    (c26 : PySem.W.codeIn K cd26 "_law_right" = true)
    (k26 : PySem.W.keepIn K (.ref a26) = true)
    (e27 : PySem.W.nsIn K mainGlobals "law" = some (some (.ref a27)))
    (l27 : K.lookup a27 = some ⟨oc27, od27, .func (PySem.W.fnOf "law" "law" (defArgs (top 48)) (defBody (top 48)) (defScope (top 48)) .none kV27 dc27 pm27 an27 cd27 ct27), sl27⟩)
    (c27 : PySem.W.codeIn K cd27 "law" = true)
    (k27 : PySem.W.keepIn K (.ref a27) = true)
    (xa0 : PySem.W.plainGet K A0 Str.empty = true)
    (xb0 : PySem.W.hasDictIn K A0 = true)
    (xc0 : PySem.W.plainOver K A0 = true)
    (xd0 : PySem.W.findIn K (.ref A0) "__setattr__" = some (some (.builtin "object.__setattr__")))
    (xf0_0 : PySem.W.findIn K (.ref A0) "earlier" = some none)
    (xf0_1 : PySem.W.findIn K (.ref A0) "runs_told" = some none)
    (xf0_2 : PySem.W.findIn K (.ref A0) "starts" = some none)
    (xf0_3 : PySem.W.findIn K (.ref A0) "moves_told" = some none)
    (xf0_4 : PySem.W.findIn K (.ref A0) "machine" = some none)
    (xf0_5 : PySem.W.findIn K (.ref A0) "ends" = some none)
    (xf0_6 : PySem.W.findIn K (.ref A0) "moves" = some none)
    (xm0 : PySem.W.makesIn K A0 = true)
    (xk0 : PySem.W.keepIn K (.ref A0) = true)
    (yh0 : PySem.W.findIn K (.ref A0) "__class__" = some (some (.builtin "object.__class__")))
    (ym0 : PySem.W.mroIn K A0 (.type "object") = some true)
    (yt0_0 : PySem.W.subIn K (.type "NoneType") (.ref A0) = some false)
    (yt0_1 : PySem.W.subIn K (.type "bool") (.ref A0) = some false)
    (yt0_2 : PySem.W.subIn K (.type "int") (.ref A0) = some false)
    (yt0_3 : PySem.W.subIn K (.type "str") (.ref A0) = some false)
    (yt0_4 : PySem.W.subIn K (.type "tuple") (.ref A0) = some false)
    (yt0_5 : PySem.W.subIn K (.type "list") (.ref A0) = some false)
    (yt0_6 : PySem.W.subIn K (.type "dict") (.ref A0) = some false)
    (yi0 : PySem.W.isClsIn K A0 = true)
    (yo0 : PySem.W.typeIn K (.ref A0) = some (.type "type"))
    (yc0_1 : PySem.W.subIn K (.ref A1) (.ref A0) = some false)
    (yr0 : PySem.W.subIn K (.ref A0) (.ref A0) = some true)
    (xa1 : PySem.W.plainGet K A1 Str.empty = true)
    (xb1 : PySem.W.hasDictIn K A1 = true)
    (xc1 : PySem.W.plainOver K A1 = true)
    (xd1 : PySem.W.findIn K (.ref A1) "__setattr__" = some (some (.builtin "object.__setattr__")))
    (xf1_0 : PySem.W.findIn K (.ref A1) "earlier" = some none)
    (xf1_1 : PySem.W.findIn K (.ref A1) "runs_told" = some none)
    (xf1_2 : PySem.W.findIn K (.ref A1) "starts" = some none)
    (xf1_3 : PySem.W.findIn K (.ref A1) "moves_told" = some none)
    (xf1_4 : PySem.W.findIn K (.ref A1) "machine" = some none)
    (xf1_5 : PySem.W.findIn K (.ref A1) "ends" = some none)
    (xf1_6 : PySem.W.findIn K (.ref A1) "moves" = some none)
    (xm1 : PySem.W.makesIn K A1 = true)
    (xk1 : PySem.W.keepIn K (.ref A1) = true)
    (yh1 : PySem.W.findIn K (.ref A1) "__class__" = some (some (.builtin "object.__class__")))
    (ym1 : PySem.W.mroIn K A1 (.type "object") = some true)
    (yt1_0 : PySem.W.subIn K (.type "NoneType") (.ref A1) = some false)
    (yt1_1 : PySem.W.subIn K (.type "bool") (.ref A1) = some false)
    (yt1_2 : PySem.W.subIn K (.type "int") (.ref A1) = some false)
    (yt1_3 : PySem.W.subIn K (.type "str") (.ref A1) = some false)
    (yt1_4 : PySem.W.subIn K (.type "tuple") (.ref A1) = some false)
    (yt1_5 : PySem.W.subIn K (.type "list") (.ref A1) = some false)
    (yt1_6 : PySem.W.subIn K (.type "dict") (.ref A1) = some false)
    (yi1 : PySem.W.isClsIn K A1 = true)
    (yo1 : PySem.W.typeIn K (.ref A1) = some (.type "type"))
    (yc1_0 : PySem.W.subIn K (.ref A0) (.ref A1) = some false)
    (yr1 : PySem.W.subIn K (.ref A1) (.ref A1) = some true)
    (ys : PySem.W.specialIn K (.builtin "object.__class__") "__get__" = some (some (.builtin "getset_descriptor.__get__")))
    (yk : PySem.W.takesIn K (.builtin "object.__class__") = some true)
    (glv0 : PySem.W.nsIn K mainGlobals "PAIR_machines" = some (some (.int 2 gt0)))
    (z0 : PySem.W.nsIn K mainGlobals "len" = some none)
    (z1 : PySem.W.nsIn K mainGlobals "int" = some none)
    (z2 : PySem.W.nsIn K mainGlobals "str" = some none)
    (z3 : PySem.W.nsIn K mainGlobals "repr" = some none)
    (z4 : PySem.W.nsIn K mainGlobals "tuple" = some none)
    (z5 : PySem.W.nsIn K mainGlobals "list" = some none)
    (z6 : PySem.W.nsIn K mainGlobals "sum" = some none)
    (z7 : PySem.W.nsIn K mainGlobals "max" = some none)
    (z8 : PySem.W.nsIn K mainGlobals "min" = some none)
    (z9 : PySem.W.nsIn K mainGlobals "abs" = some none)
    (z10 : PySem.W.nsIn K mainGlobals "all" = some none)
    (z11 : PySem.W.nsIn K mainGlobals "any" = some none)
    (z12 : PySem.W.nsIn K mainGlobals "range" = some none)
    (z13 : PySem.W.nsIn K mainGlobals "enumerate" = some none)
    (z14 : PySem.W.nsIn K mainGlobals "zip" = some none)
    (z15 : PySem.W.nsIn K mainGlobals "isinstance" = some none)
    (z16 : PySem.W.nsIn K mainGlobals "sorted" = some none)
    (z17 : PySem.W.nsIn K mainGlobals "dict" = some none)
    (z18 : PySem.W.nsIn K mainGlobals "reversed" = some none)
    (z19 : PySem.W.nsIn K mainGlobals "bool" = some none)
    : ∃ (C : Nat → Addr) (fd : FuncData), (∀ (s : Shared) (u : Value), BindsTo s fd ⟨[u], []⟩ [("_law_script", u)]) ∧ ∀ base : Heap, K.In base → base.Ns mainGlobals mg → FOk l.prog w K mg base (2 * depth + 2) fa fd ["_law_script"] (spF K C (sem I.glb G (depth + 1)) 27) := by
  have blt : ∀ x, x ∈ bltNames → mg x = none := fun x m => by
    rcases (by simpa [bltNames] using m : x = "len" ∨ x = "int" ∨ x = "str" ∨ x = "repr" ∨ x = "tuple" ∨ x = "list" ∨ x = "sum" ∨ x = "max" ∨ x = "min" ∨ x = "abs" ∨ x = "all" ∨ x = "any" ∨ x = "range" ∨ x = "enumerate" ∨ x = "zip" ∨ x = "isinstance" ∨ x = "sorted" ∨ x = "dict" ∨ x = "reversed" ∨ x = "bool") with rfl | rfl | rfl | rfl | rfl | rfl | rfl | rfl | rfl | rfl | rfl | rfl | rfl | rfl | rfl | rfl | rfl | rfl | rfl | rfl
    · exact PySem.W.mg_none_of X Gr z0
    · exact PySem.W.mg_none_of X Gr z1
    · exact PySem.W.mg_none_of X Gr z2
    · exact PySem.W.mg_none_of X Gr z3
    · exact PySem.W.mg_none_of X Gr z4
    · exact PySem.W.mg_none_of X Gr z5
    · exact PySem.W.mg_none_of X Gr z6
    · exact PySem.W.mg_none_of X Gr z7
    · exact PySem.W.mg_none_of X Gr z8
    · exact PySem.W.mg_none_of X Gr z9
    · exact PySem.W.mg_none_of X Gr z10
    · exact PySem.W.mg_none_of X Gr z11
    · exact PySem.W.mg_none_of X Gr z12
    · exact PySem.W.mg_none_of X Gr z13
    · exact PySem.W.mg_none_of X Gr z14
    · exact PySem.W.mg_none_of X Gr z15
    · exact PySem.W.mg_none_of X Gr z16
    · exact PySem.W.mg_none_of X Gr z17
    · exact PySem.W.mg_none_of X Gr z18
    · exact PySem.W.mg_none_of X Gr z19
  have e := hfa.symm.trans (PySem.W.mg_of X Gr e27)
  cases e
  let CC : Nat → Addr := fun k => if k = 1 then A1 else A0
  have byC : ∀ (Q : Addr → Prop), Q A0 → Q A1 → ∀ k, Q (CC k) := fun Q q0 q1 k => by
    show Q (if k = 1 then A1 else A0)
    repeat (first | assumption | split)
  have cls0 : Cls K A0 := ⟨xa0, xb0, xc0, xd0⟩
  have cls1 : Cls K A1 := ⟨xa1, xb1, xc1, xd1⟩
  have hcls : ∀ k, Cls K (CC k) := byC (Cls K) cls0 cls1
  have C0 : Card l.prog w K mg I CC 0 f0 a0 (PySem.W.fnOf "__init__" "Walk.__init__" (defArgs (inCls 0 (top 7))) (defBody (inCls 0 (top 7))) (defScope (inCls 0 (top 7))) .none kV0 dc0 pm0 an0 cd0 ct0) p0 := by
    refine ⟨fun x e n => ?_, ?_, ?_, ?_, pat0, str0, ?_, ?_, _, _, _, _, _, _, _, _, _, _, _, _, _, _, _, _, rfl, l0, c0, s0, rfl, rfl, o0⟩
    · cases (show some ("" : Str) = some x from e)
      exact absurd rfl n
    · intro c n m
      have m := mem_of (l := I.mth) (lf := []) rfl m
      cases m
    · intro c n m
      have m := mem_of (l := I.prp) (lf := []) rfl m
      cases m
    · intro c m
      have m := mem_of (l := I.ini) (lf := [(0, 1)]) rfl m
      rcases List.mem_cons.mp m with e | m
      · cases e
        exact ⟨xm1, e0, i0, xk1⟩
      cases m
    · intro c op m
      have m := mem_of (l := I.opr) (lf := []) rfl m
      cases m
    · intro n ks dv pm' m
      have m := mem_of (l := I.pad) (lf := []) rfl m
      cases m
  have C1 : Card l.prog w K mg I CC 1 f1 a1 (PySem.W.fnOf "moves_made" "Walk.moves_made" (defArgs (inCls 1 (top 7))) (defBody (inCls 1 (top 7))) (defScope (inCls 1 (top 7))) .none kV1 dc1 pm1 an1 cd1 ct1) p1 := by
    refine ⟨fun x e n => ?_, ?_, ?_, ?_, pat1, str1, ?_, ?_, _, _, _, _, _, _, _, _, _, _, _, _, _, _, _, _, rfl, l1, c1, s1, rfl, rfl, o1⟩
    · cases (show some ("" : Str) = some x from e)
      exact absurd rfl n
    · intro c n m
      have m := mem_of (l := I.mth) (lf := []) rfl m
      cases m
    · intro c n m
      have m := mem_of (l := I.prp) (lf := [(1, 1, "moves_made")]) rfl m
      rcases List.mem_cons.mp m with e | m
      · cases e
        exact ⟨pp1, e1, rg1, rt1, pr1, r1⟩
      cases m
    · intro c m
      have m := mem_of (l := I.ini) (lf := []) rfl m
      cases m
    · intro c op m
      have m := mem_of (l := I.opr) (lf := []) rfl m
      cases m
    · intro n ks dv pm' m
      have m := mem_of (l := I.pad) (lf := []) rfl m
      cases m
  have C2 : Card l.prog w K mg I CC 2 f2 a2 (PySem.W.fnOf "runs" "Walk.runs" (defArgs (inCls 2 (top 7))) (defBody (inCls 2 (top 7))) (defScope (inCls 2 (top 7))) .none kV2 dc2 pm2 an2 cd2 ct2) p2 := by
    refine ⟨fun x e n => ?_, ?_, ?_, ?_, pat2, str2, ?_, ?_, _, _, _, _, _, _, _, _, _, _, _, _, _, _, _, _, rfl, l2, c2, s2, rfl, rfl, o2⟩
    · cases (show some ("" : Str) = some x from e)
      exact absurd rfl n
    · intro c n m
      have m := mem_of (l := I.mth) (lf := []) rfl m
      cases m
    · intro c n m
      have m := mem_of (l := I.prp) (lf := [(2, 1, "runs")]) rfl m
      rcases List.mem_cons.mp m with e | m
      · cases e
        exact ⟨pp2, e2, rg2, rt2, pr2, r2⟩
      cases m
    · intro c m
      have m := mem_of (l := I.ini) (lf := []) rfl m
      cases m
    · intro c op m
      have m := mem_of (l := I.opr) (lf := []) rfl m
      cases m
    · intro n ks dv pm' m
      have m := mem_of (l := I.pad) (lf := []) rfl m
      cases m
  have C3 : Card l.prog w K mg I CC 3 f3 a3 (PySem.W.fnOf "accepted" "Walk.accepted" (defArgs (inCls 3 (top 7))) (defBody (inCls 3 (top 7))) (defScope (inCls 3 (top 7))) .none kV3 dc3 pm3 an3 cd3 ct3) p3 := by
    refine ⟨fun x e n => ?_, ?_, ?_, ?_, pat3, str3, ?_, ?_, _, _, _, _, _, _, _, _, _, _, _, _, _, _, _, _, rfl, l3, c3, s3, rfl, rfl, o3⟩
    · cases (show some ("" : Str) = some x from e)
      exact absurd rfl n
    · intro c n m
      have m := mem_of (l := I.mth) (lf := []) rfl m
      cases m
    · intro c n m
      have m := mem_of (l := I.prp) (lf := [(3, 1, "accepted")]) rfl m
      rcases List.mem_cons.mp m with e | m
      · cases e
        exact ⟨pp3, e3, rg3, rt3, pr3, r3⟩
      cases m
    · intro c m
      have m := mem_of (l := I.ini) (lf := []) rfl m
      cases m
    · intro c op m
      have m := mem_of (l := I.opr) (lf := []) rfl m
      cases m
    · intro n ks dv pm' m
      have m := mem_of (l := I.pad) (lf := []) rfl m
      cases m
  have C4 : Card l.prog w K mg I CC 4 f4 a4 (PySem.W.fnOf "__len__" "Walk.__len__" (defArgs (inCls 4 (top 7))) (defBody (inCls 4 (top 7))) (defScope (inCls 4 (top 7))) .none kV4 dc4 pm4 an4 cd4 ct4) p4 := by
    refine ⟨fun x e n => ?_, ?_, ?_, ?_, pat4, str4, ?_, ?_, _, _, _, _, _, _, _, _, _, _, _, _, _, _, _, _, rfl, l4, c4, s4, rfl, rfl, o4⟩
    · cases (show some ("" : Str) = some x from e)
      exact absurd rfl n
    · intro c n m
      have m := mem_of (l := I.mth) (lf := [(4, 1, "__len__")]) rfl m
      rcases List.mem_cons.mp m with e | m
      · cases e
        exact ⟨e4, i4, k4⟩
      cases m
    · intro c n m
      have m := mem_of (l := I.prp) (lf := []) rfl m
      cases m
    · intro c m
      have m := mem_of (l := I.ini) (lf := []) rfl m
      cases m
    · intro c op m
      have m := mem_of (l := I.opr) (lf := []) rfl m
      cases m
    · intro n ks dv pm' m
      have m := mem_of (l := I.pad) (lf := []) rfl m
      cases m
  have C5 : Card l.prog w K mg I CC 5 f5 a5 (PySem.W.fnOf "go" "Walk.go" (defArgs (inCls 5 (top 7))) (defBody (inCls 5 (top 7))) (defScope (inCls 5 (top 7))) (.ref T5) kV5 dc5 pm5 an5 cd5 ct5) p5 := by
    refine ⟨fun x e n => ?_, ?_, ?_, ?_, pat5, str5, ?_, ?_, _, _, _, _, _, _, _, _, _, _, _, _, _, _, _, _, rfl, l5, c5, s5, rfl, rfl, o5⟩
    · cases (show some ("" : Str) = some x from e)
      exact absurd rfl n
    · intro c n m
      have m := mem_of (l := I.mth) (lf := [(5, 1, "go")]) rfl m
      rcases List.mem_cons.mp m with e | m
      · cases e
        exact ⟨e5, i5, k5⟩
      cases m
    · intro c n m
      have m := mem_of (l := I.prp) (lf := []) rfl m
      cases m
    · intro c m
      have m := mem_of (l := I.ini) (lf := []) rfl m
      cases m
    · intro c op m
      have m := mem_of (l := I.opr) (lf := []) rfl m
      cases m
    · intro n ks dv pm' m
      have m := mem_of (l := I.pad) (lf := [(5, 2, [], [], [0, 1])]) rfl m
      rcases List.mem_cons.mp m with e | m
      · cases e
        refine ⟨[], [], fun s us ws X h1 h2 => match us, ws, h1, h2 with | [_, _], [], _, _ => ⟨_, rfl, binds_dfl X dl5 rfl ⟨_, rfl, rfl⟩⟩, ?_, fun h => ?_⟩
        · exact .nil
        · exact .nil
      cases m
  have C6 : Card l.prog w K mg I CC 6 f6 a6 (PySem.W.fnOf "undo" "Walk.undo" (defArgs (inCls 6 (top 7))) (defBody (inCls 6 (top 7))) (defScope (inCls 6 (top 7))) .none kV6 dc6 pm6 an6 cd6 ct6) p6 := by
    refine ⟨fun x e n => ?_, ?_, ?_, ?_, pat6, str6, ?_, ?_, _, _, _, _, _, _, _, _, _, _, _, _, _, _, _, _, rfl, l6, c6, s6, rfl, rfl, o6⟩
    · cases (show some ("" : Str) = some x from e)
      exact absurd rfl n
    · intro c n m
      have m := mem_of (l := I.mth) (lf := [(6, 1, "undo")]) rfl m
      rcases List.mem_cons.mp m with e | m
      · cases e
        exact ⟨e6, i6, k6⟩
      cases m
    · intro c n m
      have m := mem_of (l := I.prp) (lf := []) rfl m
      cases m
    · intro c m
      have m := mem_of (l := I.ini) (lf := []) rfl m
      cases m
    · intro c op m
      have m := mem_of (l := I.opr) (lf := []) rfl m
      cases m
    · intro n ks dv pm' m
      have m := mem_of (l := I.pad) (lf := []) rfl m
      cases m
  have C7 : Card l.prog w K mg I CC 7 f7 a7 (PySem.W.fnOf "gone_on" "gone_on" (defArgs (top 9)) (defBody (top 9)) (defScope (top 9)) .none kV7 dc7 pm7 an7 cd7 ct7) p7 := by
    refine ⟨fun x e _ => ?_, ?_, ?_, ?_, pat7, str7, ?_, ?_, _, _, _, _, _, _, _, _, _, _, _, _, _, _, _, _, rfl, l7, c7, s7, rfl, rfl, o7⟩
    · cases (show some ("gone_on" : Str) = some x from e)
      exact ⟨PySem.W.mg_of X Gr e7, k7⟩
    · intro c n m
      have m := mem_of (l := I.mth) (lf := []) rfl m
      cases m
    · intro c n m
      have m := mem_of (l := I.prp) (lf := []) rfl m
      cases m
    · intro c m
      have m := mem_of (l := I.ini) (lf := []) rfl m
      cases m
    · intro c op m
      have m := mem_of (l := I.opr) (lf := []) rfl m
      cases m
    · intro n ks dv pm' m
      have m := mem_of (l := I.pad) (lf := []) rfl m
      cases m
  have C8 : Card l.prog w K mg I CC 8 f8 a8 (PySem.W.fnOf "gone_on_by" "gone_on_by" (defArgs (top 10)) (defBody (top 10)) (defScope (top 10)) .none kV8 dc8 pm8 an8 cd8 ct8) p8 := by
    refine ⟨fun x e _ => ?_, ?_, ?_, ?_, pat8, str8, ?_, ?_, _, _, _, _, _, _, _, _, _, _, _, _, _, _, _, _, rfl, l8, c8, s8, rfl, rfl, o8⟩
    · cases (show some ("gone_on_by" : Str) = some x from e)
      exact ⟨PySem.W.mg_of X Gr e8, k8⟩
    · intro c n m
      have m := mem_of (l := I.mth) (lf := []) rfl m
      cases m
    · intro c n m
      have m := mem_of (l := I.prp) (lf := []) rfl m
      cases m
    · intro c m
      have m := mem_of (l := I.ini) (lf := []) rfl m
      cases m
    · intro c op m
      have m := mem_of (l := I.opr) (lf := []) rfl m
      cases m
    · intro n ks dv pm' m
      have m := mem_of (l := I.pad) (lf := []) rfl m
      cases m
  have C9 : Card l.prog w K mg I CC 9 f9 a9 (PySem.W.fnOf "sparse" "sparse" (defArgs (top 11)) (defBody (top 11)) (defScope (top 11)) .none kV9 dc9 pm9 an9 cd9 ct9) p9 := by
    refine ⟨fun x e _ => ?_, ?_, ?_, ?_, pat9, str9, ?_, ?_, _, _, _, _, _, _, _, _, _, _, _, _, _, _, _, _, rfl, l9, c9, s9, rfl, rfl, o9⟩
    · cases (show some ("sparse" : Str) = some x from e)
      exact ⟨PySem.W.mg_of X Gr e9, k9⟩
    · intro c n m
      have m := mem_of (l := I.mth) (lf := []) rfl m
      cases m
    · intro c n m
      have m := mem_of (l := I.prp) (lf := []) rfl m
      cases m
    · intro c m
      have m := mem_of (l := I.ini) (lf := []) rfl m
      cases m
    · intro c op m
      have m := mem_of (l := I.opr) (lf := []) rfl m
      cases m
    · intro n ks dv pm' m
      have m := mem_of (l := I.pad) (lf := []) rfl m
      cases m
  have C10 : Card l.prog w K mg I CC 10 f10 a10 (PySem.W.fnOf "by_steps" "by_steps" (defArgs (top 18)) (defBody (top 18)) (defScope (top 18)) .none kV10 dc10 pm10 an10 cd10 ct10) p10 := by
    refine ⟨fun x e _ => ?_, ?_, ?_, ?_, pat10, str10, ?_, ?_, _, _, _, _, _, _, _, _, _, _, _, _, _, _, _, _, rfl, l10, c10, s10, rfl, rfl, o10⟩
    · cases (show some ("by_steps" : Str) = some x from e)
      exact ⟨PySem.W.mg_of X Gr e10, k10⟩
    · intro c n m
      have m := mem_of (l := I.mth) (lf := []) rfl m
      cases m
    · intro c n m
      have m := mem_of (l := I.prp) (lf := []) rfl m
      cases m
    · intro c m
      have m := mem_of (l := I.ini) (lf := []) rfl m
      cases m
    · intro c op m
      have m := mem_of (l := I.opr) (lf := []) rfl m
      cases m
    · intro n ks dv pm' m
      have m := mem_of (l := I.pad) (lf := []) rfl m
      cases m
  have C11 : Card l.prog w K mg I CC 11 f11 a11 (PySem.W.fnOf "turned_about" "turned_about" (defArgs (top 19)) (defBody (top 19)) (defScope (top 19)) .none kV11 dc11 pm11 an11 cd11 ct11) p11 := by
    refine ⟨fun x e _ => ?_, ?_, ?_, ?_, pat11, str11, ?_, ?_, _, _, _, _, _, _, _, _, _, _, _, _, _, _, _, _, rfl, l11, c11, s11, rfl, rfl, o11⟩
    · cases (show some ("turned_about" : Str) = some x from e)
      exact ⟨PySem.W.mg_of X Gr e11, k11⟩
    · intro c n m
      have m := mem_of (l := I.mth) (lf := []) rfl m
      cases m
    · intro c n m
      have m := mem_of (l := I.prp) (lf := []) rfl m
      cases m
    · intro c m
      have m := mem_of (l := I.ini) (lf := []) rfl m
      cases m
    · intro c op m
      have m := mem_of (l := I.opr) (lf := []) rfl m
      cases m
    · intro n ks dv pm' m
      have m := mem_of (l := I.pad) (lf := []) rfl m
      cases m
  have C12 : Card l.prog w K mg I CC 12 f12 a12 (PySem.W.fnOf "is_count" "is_count" (defArgs (top 34)) (defBody (top 34)) (defScope (top 34)) .none kV12 dc12 pm12 an12 cd12 ct12) p12 := by
    refine ⟨fun x e _ => ?_, ?_, ?_, ?_, pat12, str12, ?_, ?_, _, _, _, _, _, _, _, _, _, _, _, _, _, _, _, _, rfl, l12, c12, s12, rfl, rfl, o12⟩
    · cases (show some ("is_count" : Str) = some x from e)
      exact ⟨PySem.W.mg_of X Gr e12, k12⟩
    · intro c n m
      have m := mem_of (l := I.mth) (lf := []) rfl m
      cases m
    · intro c n m
      have m := mem_of (l := I.prp) (lf := []) rfl m
      cases m
    · intro c m
      have m := mem_of (l := I.ini) (lf := []) rfl m
      cases m
    · intro c op m
      have m := mem_of (l := I.opr) (lf := []) rfl m
      cases m
    · intro n ks dv pm' m
      have m := mem_of (l := I.pad) (lf := []) rfl m
      cases m
  have C13 : Card l.prog w K mg I CC 13 f13 a13 (PySem.W.fnOf "are_counts" "are_counts" (defArgs (top 35)) (defBody (top 35)) (defScope (top 35)) .none kV13 dc13 pm13 an13 cd13 ct13) p13 := by
    refine ⟨fun x e _ => ?_, ?_, ?_, ?_, pat13, str13, ?_, ?_, _, _, _, _, _, _, _, _, _, _, _, _, _, _, _, _, rfl, l13, c13, s13, rfl, rfl, o13⟩
    · cases (show some ("are_counts" : Str) = some x from e)
      exact ⟨PySem.W.mg_of X Gr e13, k13⟩
    · intro c n m
      have m := mem_of (l := I.mth) (lf := []) rfl m
      cases m
    · intro c n m
      have m := mem_of (l := I.prp) (lf := []) rfl m
      cases m
    · intro c m
      have m := mem_of (l := I.ini) (lf := []) rfl m
      cases m
    · intro c op m
      have m := mem_of (l := I.opr) (lf := []) rfl m
      cases m
    · intro n ks dv pm' m
      have m := mem_of (l := I.pad) (lf := []) rfl m
      cases m
  have C14 : Card l.prog w K mg I CC 14 f14 a14 (PySem.W.fnOf "is_move" "is_move" (defArgs (top 36)) (defBody (top 36)) (defScope (top 36)) .none kV14 dc14 pm14 an14 cd14 ct14) p14 := by
    refine ⟨fun x e _ => ?_, ?_, ?_, ?_, pat14, str14, ?_, ?_, _, _, _, _, _, _, _, _, _, _, _, _, _, _, _, _, rfl, l14, c14, s14, rfl, rfl, o14⟩
    · cases (show some ("is_move" : Str) = some x from e)
      exact ⟨PySem.W.mg_of X Gr e14, k14⟩
    · intro c n m
      have m := mem_of (l := I.mth) (lf := []) rfl m
      cases m
    · intro c n m
      have m := mem_of (l := I.prp) (lf := []) rfl m
      cases m
    · intro c m
      have m := mem_of (l := I.ini) (lf := []) rfl m
      cases m
    · intro c op m
      have m := mem_of (l := I.opr) (lf := []) rfl m
      cases m
    · intro n ks dv pm' m
      have m := mem_of (l := I.pad) (lf := []) rfl m
      cases m
  have C15 : Card l.prog w K mg I CC 15 f15 a15 (PySem.W.fnOf "is_row" "is_row" (defArgs (top 37)) (defBody (top 37)) (defScope (top 37)) .none kV15 dc15 pm15 an15 cd15 ct15) p15 := by
    refine ⟨fun x e _ => ?_, ?_, ?_, ?_, pat15, str15, ?_, ?_, _, _, _, _, _, _, _, _, _, _, _, _, _, _, _, _, rfl, l15, c15, s15, rfl, rfl, o15⟩
    · cases (show some ("is_row" : Str) = some x from e)
      exact ⟨PySem.W.mg_of X Gr e15, k15⟩
    · intro c n m
      have m := mem_of (l := I.mth) (lf := []) rfl m
      cases m
    · intro c n m
      have m := mem_of (l := I.prp) (lf := []) rfl m
      cases m
    · intro c m
      have m := mem_of (l := I.ini) (lf := []) rfl m
      cases m
    · intro c op m
      have m := mem_of (l := I.opr) (lf := []) rfl m
      cases m
    · intro n ks dv pm' m
      have m := mem_of (l := I.pad) (lf := []) rfl m
      cases m
  have C16 : Card l.prog w K mg I CC 16 f16 a16 (PySem.W.fnOf "__init__" "Machine.__init__" (defArgs (inCls 0 (top 38))) (defBody (inCls 0 (top 38))) (defScope (inCls 0 (top 38))) .none kV16 dc16 pm16 an16 cd16 ct16) p16 := by
    refine ⟨fun x e n => ?_, ?_, ?_, ?_, pat16, str16, ?_, ?_, _, _, _, _, _, _, _, _, _, _, _, _, _, _, _, _, rfl, l16, c16, s16, rfl, rfl, o16⟩
    · cases (show some ("" : Str) = some x from e)
      exact absurd rfl n
    · intro c n m
      have m := mem_of (l := I.mth) (lf := []) rfl m
      cases m
    · intro c n m
      have m := mem_of (l := I.prp) (lf := []) rfl m
      cases m
    · intro c m
      have m := mem_of (l := I.ini) (lf := [(16, 0)]) rfl m
      rcases List.mem_cons.mp m with e | m
      · cases e
        exact ⟨xm0, e16, i16, xk0⟩
      cases m
    · intro c op m
      have m := mem_of (l := I.opr) (lf := []) rfl m
      cases m
    · intro n ks dv pm' m
      have m := mem_of (l := I.pad) (lf := []) rfl m
      cases m
  have C17 : Card l.prog w K mg I CC 17 f17 a17 (PySem.W.fnOf "__eq__" "Machine.__eq__" (defArgs (inCls 4 (top 38))) (defBody (inCls 4 (top 38))) (defScope (inCls 4 (top 38))) .none kV17 dc17 pm17 an17 cd17 ct17) p17 := by
    refine ⟨fun x e n => ?_, ?_, ?_, ?_, pat17, str17, ?_, ?_, _, _, _, _, _, _, _, _, _, _, _, _, _, _, _, _, rfl, l17, c17, s17, rfl, rfl, o17⟩
    · cases (show some ("" : Str) = some x from e)
      exact absurd rfl n
    · intro c n m
      have m := mem_of (l := I.mth) (lf := [(17, 0, "__eq__")]) rfl m
      rcases List.mem_cons.mp m with e | m
      · cases e
        exact ⟨e17, i17, k17⟩
      cases m
    · intro c n m
      have m := mem_of (l := I.prp) (lf := []) rfl m
      cases m
    · intro c m
      have m := mem_of (l := I.ini) (lf := []) rfl m
      cases m
    · intro c op m
      have m := mem_of (l := I.opr) (lf := []) rfl m
      cases m
    · intro n ks dv pm' m
      have m := mem_of (l := I.pad) (lf := []) rfl m
      cases m
  have C18 : Card l.prog w K mg I CC 18 f18 a18 (PySem.W.fnOf "section" "Machine.section" (defArgs (inCls 14 (top 38))) (defBody (inCls 14 (top 38))) (defScope (inCls 14 (top 38))) .none kV18 dc18 pm18 an18 cd18 ct18) p18 := by
    refine ⟨fun x e n => ?_, ?_, ?_, ?_, pat18, str18, ?_, ?_, _, _, _, _, _, _, _, _, _, _, _, _, _, _, _, _, rfl, l18, c18, s18, rfl, rfl, o18⟩
    · cases (show some ("" : Str) = some x from e)
      exact absurd rfl n
    · intro c n m
      have m := mem_of (l := I.mth) (lf := [(18, 0, "section")]) rfl m
      rcases List.mem_cons.mp m with e | m
      · cases e
        exact ⟨e18, i18, k18⟩
      cases m
    · intro c n m
      have m := mem_of (l := I.prp) (lf := []) rfl m
      cases m
    · intro c m
      have m := mem_of (l := I.ini) (lf := []) rfl m
      cases m
    · intro c op m
      have m := mem_of (l := I.opr) (lf := []) rfl m
      cases m
    · intro n ks dv pm' m
      have m := mem_of (l := I.pad) (lf := []) rfl m
      cases m
  have C19 : Card l.prog w K mg I CC 19 f19 a19 (PySem.W.fnOf "turned" "Machine.turned" (defArgs (inCls 15 (top 38))) (defBody (inCls 15 (top 38))) (defScope (inCls 15 (top 38))) .none kV19 dc19 pm19 an19 cd19 ct19) p19 := by
    refine ⟨fun x e n => ?_, ?_, ?_, ?_, pat19, str19, ?_, ?_, _, _, _, _, _, _, _, _, _, _, _, _, _, _, _, _, rfl, l19, c19, s19, rfl, rfl, o19⟩
    · cases (show some ("" : Str) = some x from e)
      exact absurd rfl n
    · intro c n m
      have m := mem_of (l := I.mth) (lf := [(19, 0, "turned")]) rfl m
      rcases List.mem_cons.mp m with e | m
      · cases e
        exact ⟨e19, i19, k19⟩
      cases m
    · intro c n m
      have m := mem_of (l := I.prp) (lf := []) rfl m
      cases m
    · intro c m
      have m := mem_of (l := I.ini) (lf := []) rfl m
      cases m
    · intro c op m
      have m := mem_of (l := I.opr) (lf := []) rfl m
      cases m
    · intro n ks dv pm' m
      have m := mem_of (l := I.pad) (lf := []) rfl m
      cases m
  have C20 : Card l.prog w K mg I CC 20 f20 a20 (PySem.W.fnOf "_law_deck" "_law_deck" (defArgs (top 40)) (defBody (top 40)) (defScope (top 40)) .none kV20 dc20 pm20 an20 cd20 ct20) p20 := by
    refine ⟨fun x e _ => ?_, ?_, ?_, ?_, pat20, str20, ?_, ?_, _, _, _, _, _, _, _, _, _, _, _, _, _, _, _, _, rfl, l20, c20, s20, rfl, rfl, o20⟩
    · cases (show some ("_law_deck" : Str) = some x from e)
      exact ⟨PySem.W.mg_of X Gr e20, k20⟩
    · intro c n m
      have m := mem_of (l := I.mth) (lf := []) rfl m
      cases m
    · intro c n m
      have m := mem_of (l := I.prp) (lf := []) rfl m
      cases m
    · intro c m
      have m := mem_of (l := I.ini) (lf := []) rfl m
      cases m
    · intro c op m
      have m := mem_of (l := I.opr) (lf := []) rfl m
      cases m
    · intro n ks dv pm' m
      have m := mem_of (l := I.pad) (lf := []) rfl m
      cases m
  have C21 : Card l.prog w K mg I CC 21 f21 a21 (PySem.W.fnOf "_law_draw" "_law_draw" (defArgs (top 41)) (defBody (top 41)) (defScope (top 41)) .none kV21 dc21 pm21 an21 cd21 ct21) p21 := by
    refine ⟨fun x e _ => ?_, ?_, ?_, ?_, pat21, str21, ?_, ?_, _, _, _, _, _, _, _, _, _, _, _, _, _, _, _, _, rfl, l21, c21, s21, rfl, rfl, o21⟩
    · cases (show some ("_law_draw" : Str) = some x from e)
      exact ⟨PySem.W.mg_of X Gr e21, k21⟩
    · intro c n m
      have m := mem_of (l := I.mth) (lf := []) rfl m
      cases m
    · intro c n m
      have m := mem_of (l := I.prp) (lf := []) rfl m
      cases m
    · intro c m
      have m := mem_of (l := I.ini) (lf := []) rfl m
      cases m
    · intro c op m
      have m := mem_of (l := I.opr) (lf := []) rfl m
      cases m
    · intro n ks dv pm' m
      have m := mem_of (l := I.pad) (lf := []) rfl m
      cases m
  have C22 : Card l.prog w K mg I CC 22 f22 a22 (PySem.W.fnOf "_law_built" "_law_built" (defArgs (top 43)) (defBody (top 43)) (defScope (top 43)) .none kV22 dc22 pm22 an22 cd22 ct22) p22 := by
    refine ⟨fun x e _ => ?_, ?_, ?_, ?_, pat22, str22, ?_, ?_, _, _, _, _, _, _, _, _, _, _, _, _, _, _, _, _, rfl, l22, c22, s22, rfl, rfl, o22⟩
    · cases (show some ("_law_built" : Str) = some x from e)
      exact ⟨PySem.W.mg_of X Gr e22, k22⟩
    · intro c n m
      have m := mem_of (l := I.mth) (lf := []) rfl m
      cases m
    · intro c n m
      have m := mem_of (l := I.prp) (lf := []) rfl m
      cases m
    · intro c m
      have m := mem_of (l := I.ini) (lf := []) rfl m
      cases m
    · intro c op m
      have m := mem_of (l := I.opr) (lf := []) rfl m
      cases m
    · intro n ks dv pm' m
      have m := mem_of (l := I.pad) (lf := []) rfl m
      cases m
  have C23 : Card l.prog w K mg I CC 23 f23 a23 (PySem.W.fnOf "_law_counted" "_law_counted" (defArgs (top 44)) (defBody (top 44)) (defScope (top 44)) .none kV23 dc23 pm23 an23 cd23 ct23) p23 := by
    refine ⟨fun x e _ => ?_, ?_, ?_, ?_, pat23, str23, ?_, ?_, _, _, _, _, _, _, _, _, _, _, _, _, _, _, _, _, rfl, l23, c23, s23, rfl, rfl, o23⟩
    · cases (show some ("_law_counted" : Str) = some x from e)
      exact ⟨PySem.W.mg_of X Gr e23, k23⟩
    · intro c n m
      have m := mem_of (l := I.mth) (lf := []) rfl m
      cases m
    · intro c n m
      have m := mem_of (l := I.prp) (lf := []) rfl m
      cases m
    · intro c m
      have m := mem_of (l := I.ini) (lf := []) rfl m
      cases m
    · intro c op m
      have m := mem_of (l := I.opr) (lf := []) rfl m
      cases m
    · intro n ks dv pm' m
      have m := mem_of (l := I.pad) (lf := []) rfl m
      cases m
  have C24 : Card l.prog w K mg I CC 24 f24 a24 (PySem.W.fnOf "_law_met" "_law_met" (defArgs (top 45)) (defBody (top 45)) (defScope (top 45)) .none kV24 dc24 pm24 an24 cd24 ct24) p24 := by
    refine ⟨fun x e _ => ?_, ?_, ?_, ?_, pat24, str24, ?_, ?_, _, _, _, _, _, _, _, _, _, _, _, _, _, _, _, _, rfl, l24, c24, s24, rfl, rfl, o24⟩
    · cases (show some ("_law_met" : Str) = some x from e)
      exact ⟨PySem.W.mg_of X Gr e24, k24⟩
    · intro c n m
      have m := mem_of (l := I.mth) (lf := []) rfl m
      cases m
    · intro c n m
      have m := mem_of (l := I.prp) (lf := []) rfl m
      cases m
    · intro c m
      have m := mem_of (l := I.ini) (lf := []) rfl m
      cases m
    · intro c op m
      have m := mem_of (l := I.opr) (lf := []) rfl m
      cases m
    · intro n ks dv pm' m
      have m := mem_of (l := I.pad) (lf := []) rfl m
      cases m
  have C25 : Card l.prog w K mg I CC 25 f25 a25 (PySem.W.fnOf "_law_gone" "_law_gone" (defArgs (top 46)) (defBody (top 46)) (defScope (top 46)) .none kV25 dc25 pm25 an25 cd25 ct25) p25 := by
    refine ⟨fun x e _ => ?_, ?_, ?_, ?_, pat25, str25, ?_, ?_, _, _, _, _, _, _, _, _, _, _, _, _, _, _, _, _, rfl, l25, c25, s25, rfl, rfl, o25⟩
    · cases (show some ("_law_gone" : Str) = some x from e)
      exact ⟨PySem.W.mg_of X Gr e25, k25⟩
    · intro c n m
      have m := mem_of (l := I.mth) (lf := []) rfl m
      cases m
    · intro c n m
      have m := mem_of (l := I.prp) (lf := []) rfl m
      cases m
    · intro c m
      have m := mem_of (l := I.ini) (lf := []) rfl m
      cases m
    · intro c op m
      have m := mem_of (l := I.opr) (lf := []) rfl m
      cases m
    · intro n ks dv pm' m
      have m := mem_of (l := I.pad) (lf := []) rfl m
      cases m
  have C26 : Card l.prog w K mg I CC 26 f26 a26 (PySem.W.fnOf "_law_right" "_law_right" (defArgs (top 47)) (defBody (top 47)) (defScope (top 47)) .none kV26 dc26 pm26 an26 cd26 ct26) p26 := by
    refine ⟨fun x e _ => ?_, ?_, ?_, ?_, pat26, str26, ?_, ?_, _, _, _, _, _, _, _, _, _, _, _, _, _, _, _, _, rfl, l26, c26, s26, rfl, rfl, o26⟩
    · cases (show some ("_law_right" : Str) = some x from e)
      exact ⟨PySem.W.mg_of X Gr e26, k26⟩
    · intro c n m
      have m := mem_of (l := I.mth) (lf := []) rfl m
      cases m
    · intro c n m
      have m := mem_of (l := I.prp) (lf := []) rfl m
      cases m
    · intro c m
      have m := mem_of (l := I.ini) (lf := []) rfl m
      cases m
    · intro c op m
      have m := mem_of (l := I.opr) (lf := []) rfl m
      cases m
    · intro n ks dv pm' m
      have m := mem_of (l := I.pad) (lf := []) rfl m
      cases m
  have C27 : Card l.prog w K mg I CC 27 f27 fa (PySem.W.fnOf "law" "law" (defArgs (top 48)) (defBody (top 48)) (defScope (top 48)) .none kV27 dc27 pm27 an27 cd27 ct27) p27 := by
    refine ⟨fun x e _ => ?_, ?_, ?_, ?_, pat27, str27, ?_, ?_, _, _, _, _, _, _, _, _, _, _, _, _, _, _, _, _, rfl, l27, c27, s27, rfl, rfl, o27⟩
    · cases (show some ("law" : Str) = some x from e)
      exact ⟨PySem.W.mg_of X Gr e27, k27⟩
    · intro c n m
      have m := mem_of (l := I.mth) (lf := []) rfl m
      cases m
    · intro c n m
      have m := mem_of (l := I.prp) (lf := []) rfl m
      cases m
    · intro c m
      have m := mem_of (l := I.ini) (lf := []) rfl m
      cases m
    · intro c op m
      have m := mem_of (l := I.opr) (lf := []) rfl m
      cases m
    · intro n ks dv pm' m
      have m := mem_of (l := I.pad) (lf := []) rfl m
      cases m
  have cards : ∀ f, f < I.fnm.length → ∃ fn a fd ps, G[f]? = some fn ∧ Card l.prog w K mg I CC f fn a fd ps := fun f h => by
    match f, h with
    | 0, _ => exact ⟨_, _, _, _, rfl, C0⟩
    | 1, _ => exact ⟨_, _, _, _, rfl, C1⟩
    | 2, _ => exact ⟨_, _, _, _, rfl, C2⟩
    | 3, _ => exact ⟨_, _, _, _, rfl, C3⟩
    | 4, _ => exact ⟨_, _, _, _, rfl, C4⟩
    | 5, _ => exact ⟨_, _, _, _, rfl, C5⟩
    | 6, _ => exact ⟨_, _, _, _, rfl, C6⟩
    | 7, _ => exact ⟨_, _, _, _, rfl, C7⟩
    | 8, _ => exact ⟨_, _, _, _, rfl, C8⟩
    | 9, _ => exact ⟨_, _, _, _, rfl, C9⟩
    | 10, _ => exact ⟨_, _, _, _, rfl, C10⟩
    | 11, _ => exact ⟨_, _, _, _, rfl, C11⟩
    | 12, _ => exact ⟨_, _, _, _, rfl, C12⟩
    | 13, _ => exact ⟨_, _, _, _, rfl, C13⟩
    | 14, _ => exact ⟨_, _, _, _, rfl, C14⟩
    | 15, _ => exact ⟨_, _, _, _, rfl, C15⟩
    | 16, _ => exact ⟨_, _, _, _, rfl, C16⟩
    | 17, _ => exact ⟨_, _, _, _, rfl, C17⟩
    | 18, _ => exact ⟨_, _, _, _, rfl, C18⟩
    | 19, _ => exact ⟨_, _, _, _, rfl, C19⟩
    | 20, _ => exact ⟨_, _, _, _, rfl, C20⟩
    | 21, _ => exact ⟨_, _, _, _, rfl, C21⟩
    | 22, _ => exact ⟨_, _, _, _, rfl, C22⟩
    | 23, _ => exact ⟨_, _, _, _, rfl, C23⟩
    | 24, _ => exact ⟨_, _, _, _, rfl, C24⟩
    | 25, _ => exact ⟨_, _, _, _, rfl, C25⟩
    | 26, _ => exact ⟨_, _, _, _, rfl, C26⟩
    | 27, _ => exact ⟨_, _, _, _, rfl, C27⟩
    | n + 28, h => exact absurd h (by simp [I])
  have glb : ∀ x d, I.glb.lookup x = some d → ∃ v u, mg x = some u ∧ RelV v u ∧ ∀ h, Rep K CC h v d := fun x d e => by
    have e := glb_of e
    rcases List.mem_cons.mp e with e | e
    · cases e
      exact ⟨.int 2, _, PySem.W.mg_of X Gr glv0, ⟨_, rfl⟩, fun _ => .int _⟩
    cases e
  have fld : ∀ c f, f ∈ I.fld → Cls K (CC c) ∧ NoAttr K (CC c) f := fun c f m => by
    rcases List.mem_cons.mp m with e | m
    · rw [e]; exact ⟨hcls c, byC (fun A => NoAttr K A "earlier") xf0_0 xf1_0 c⟩
    rcases List.mem_cons.mp m with e | m
    · rw [e]; exact ⟨hcls c, byC (fun A => NoAttr K A "runs_told") xf0_1 xf1_1 c⟩
    rcases List.mem_cons.mp m with e | m
    · rw [e]; exact ⟨hcls c, byC (fun A => NoAttr K A "starts") xf0_2 xf1_2 c⟩
    rcases List.mem_cons.mp m with e | m
    · rw [e]; exact ⟨hcls c, byC (fun A => NoAttr K A "moves_told") xf0_3 xf1_3 c⟩
    rcases List.mem_cons.mp m with e | m
    · rw [e]; exact ⟨hcls c, byC (fun A => NoAttr K A "machine") xf0_4 xf1_4 c⟩
    rcases List.mem_cons.mp m with e | m
    · rw [e]; exact ⟨hcls c, byC (fun A => NoAttr K A "ends") xf0_5 xf1_5 c⟩
    rcases List.mem_cons.mp m with e | m
    · rw [e]; exact ⟨hcls c, byC (fun A => NoAttr K A "moves") xf0_6 xf1_6 c⟩
    cases m
  have cnm : ∀ c x, I.cls[c]? = some x → mg x = some (.ref (CC c)) := fun c x e => by
    match c, e with
    | 0, e => cases e; exact PySem.W.mg_of X Gr x0
    | 1, e => cases e; exact PySem.W.mg_of X Gr x1
    | n + 2, e => cases e
  have isi : I.isc = true → (∀ c, IsiC K (CC c)) ∧ ∀ c c', c < I.cls.length → c' < I.cls.length → PySem.W.kitOne K (.ref (CC c')) (.ref (CC c)) = some (c' == c) := fun _ => by
    have is0 : IsiC K A0 := ⟨yh0, ys, yk, ym0, kit_own yi0 yo0 yt0_0, kit_own yi0 yo0 yt0_1, kit_own yi0 yo0 yt0_2, kit_own yi0 yo0 yt0_3, kit_own yi0 yo0 yt0_4, kit_own yi0 yo0 yt0_5, kit_own yi0 yo0 yt0_6⟩
    have is1 : IsiC K A1 := ⟨yh1, ys, yk, ym1, kit_own yi1 yo1 yt1_0, kit_own yi1 yo1 yt1_1, kit_own yi1 yo1 yt1_2, kit_own yi1 yo1 yt1_3, kit_own yi1 yo1 yt1_4, kit_own yi1 yo1 yt1_5, kit_own yi1 yo1 yt1_6⟩
    refine ⟨byC (IsiC K) is0 is1, fun c d h1 h2 => ?_⟩
    match c, d, h1, h2 with
    | 0, 0, _, _ => exact kit_self K A0
    | 0, 1, _, _ => exact kit_two yi0 yo0 yc0_1 yr0
    | 1, 0, _, _ => exact kit_two yi1 yo1 yc1_0 yr1
    | 1, 1, _, _ => exact kit_self K A1
    | n + 2, _, h, _ => exact absurd h (by simp [I])
    | _, n + 2, _, h => exact absurd h (by simp [I])
  exact ⟨CC, _, fun s u => .of_eq rfl, fun base _ _ => card_fok (tower blt glb fld (fun _ => hcls) cnm isi cards depth) rfl C27⟩
end Mi.Law
open PySem PySem.W PyProof.Rows
set_option maxRecDepth 100000 in
set_option maxHeartbeats 0 in
theorem PySem.Challenge.cw_runcounts_k54_whole_walks_from_both_ends_holds : PySem.Challenge.rw_runcounts_k54_whole_walks_from_both_ends.Holds := by
  w_on; o_law; k_head; (case hw => w_witness2)
  k_fill
  refine Mi.walk_mi (l := PySem.Challenge.rw_runcounts_k54_whole_walks_from_both_ends) (k := 2 * Mi.Law.depth + 2) (kd := Mi.Law.depth + 1) (n := 63) (x := "_law_script") (I := Mi.Law.I) (G := Mi.Law.G) (fl := 27) rfl (by decide) rfl ⟨rfl, by decide, by decide⟩ (fun w h Y => PySem.W.kIn_of Y) ?F Mi.Law.pure
  case F =>
    intro w mg fa h KX G hmg
    refine' Mi.Law.all_mk KX G hmg ?x0 ?x1 ?e0 ?l0 ?c0 ?k0 ?i0 ?e1 ?r1 ?rg1 ?rt1 ?l1 ?c1 ?k1 ?i1 ?e2 ?r2 ?rg2 ?rt2 ?l2 ?c2 ?k2 ?i2 ?e3 ?r3 ?rg3 ?rt3 ?l3 ?c3 ?k3 ?i3 ?e4 ?l4 ?c4 ?k4 ?i4 ?e5 ?l5 ?c5 ?dl5 ?k5 ?i5 ?e6 ?l6 ?c6 ?k6 ?i6 ?e7 ?l7 ?c7 ?k7 ?e8 ?l8 ?c8 ?k8 ?e9 ?l9 ?c9 ?k9 ?e10 ?l10 ?c10 ?k10 ?e11 ?l11 ?c11 ?k11 ?e12 ?l12 ?c12 ?k12 ?e13 ?l13 ?c13 ?k13 ?e14 ?l14 ?c14 ?k14 ?e15 ?l15 ?c15 ?k15 ?e16 ?l16 ?c16 ?k16 ?i16 ?e17 ?l17 ?c17 ?k17 ?i17 ?e18 ?l18 ?c18 ?k18 ?i18 ?e19 ?l19 ?c19 ?k19 ?i19 ?e20 ?l20 ?c20 ?k20 ?e21 ?l21 ?c21 ?k21 ?e22 ?l22 ?c22 ?k22 ?e23 ?l23 ?c23 ?k23 ?e24 ?l24 ?c24 ?k24 ?e25 ?l25 ?c25 ?k25 ?e26 ?l26 ?c26 ?k26 ?e27 ?l27 ?c27 ?k27 ?xa0 ?xb0 ?xc0 ?xd0 ?xf0_0 ?xf0_1 ?xf0_2 ?xf0_3 ?xf0_4 ?xf0_5 ?xf0_6 ?xm0 ?xk0 ?yh0 ?ym0 ?yt0_0 ?yt0_1 ?yt0_2 ?yt0_3 ?yt0_4 ?yt0_5 ?yt0_6 ?yi0 ?yo0 ?yc0_1 ?yr0 ?xa1 ?xb1 ?xc1 ?xd1 ?xf1_0 ?xf1_1 ?xf1_2 ?xf1_3 ?xf1_4 ?xf1_5 ?xf1_6 ?xm1 ?xk1 ?yh1 ?ym1 ?yt1_0 ?yt1_1 ?yt1_2 ?yt1_3 ?yt1_4 ?yt1_5 ?yt1_6 ?yi1 ?yo1 ?yc1_0 ?yr1 ?ys ?yk ?glv0 ?z0 ?z1 ?z2 ?z3 ?z4 ?z5 ?z6 ?z7 ?z8 ?z9 ?z10 ?z11 ?z12 ?z13 ?z14 ?z15 ?z16 ?z17 ?z18 ?z19
    (case x0 => k_is)
    (case x1 => k_is)
    (case e0 => k_is)
    (case l0 => k_is)
    (case c0 => k_is)
    (case k0 => k_is)
    (case i0 => k_is)
    (case e1 => k_is)
    (case r1 => k_is)
    (case rg1 => k_is)
    (case rt1 => k_is)
    (case l1 => k_is)
    (case c1 => k_is)
    (case k1 => k_is)
    (case i1 => k_is)
    (case e2 => k_is)
    (case r2 => k_is)
    (case rg2 => k_is)
    (case rt2 => k_is)
    (case l2 => k_is)
    (case c2 => k_is)
    (case k2 => k_is)
    (case i2 => k_is)
    (case e3 => k_is)
    (case r3 => k_is)
    (case rg3 => k_is)
    (case rt3 => k_is)
    (case l3 => k_is)
    (case c3 => k_is)
    (case k3 => k_is)
    (case i3 => k_is)
    (case e4 => k_is)
    (case l4 => k_is)
    (case c4 => k_is)
    (case k4 => k_is)
    (case i4 => k_is)
    (case e5 => k_is)
    (case l5 => k_is)
    (case c5 => k_is)
    (case dl5 => k_is)
    (case k5 => k_is)
    (case i5 => k_is)
    (case e6 => k_is)
    (case l6 => k_is)
    (case c6 => k_is)
    (case k6 => k_is)
    (case i6 => k_is)
    (case e7 => k_is)
    (case l7 => k_is)
    (case c7 => k_is)
    (case k7 => k_is)
    (case e8 => k_is)
    (case l8 => k_is)
    (case c8 => k_is)
    (case k8 => k_is)
    (case e9 => k_is)
    (case l9 => k_is)
    (case c9 => k_is)
    (case k9 => k_is)
    (case e10 => k_is)
    (case l10 => k_is)
    (case c10 => k_is)
    (case k10 => k_is)
    (case e11 => k_is)
    (case l11 => k_is)
    (case c11 => k_is)
    (case k11 => k_is)
    (case e12 => k_is)
    (case l12 => k_is)
    (case c12 => k_is)
    (case k12 => k_is)
    (case e13 => k_is)
    (case l13 => k_is)
    (case c13 => k_is)
    (case k13 => k_is)
    (case e14 => k_is)
    (case l14 => k_is)
    (case c14 => k_is)
    (case k14 => k_is)
    (case e15 => k_is)
    (case l15 => k_is)
    (case c15 => k_is)
    (case k15 => k_is)
    (case e16 => k_is)
    (case l16 => k_is)
    (case c16 => k_is)
    (case k16 => k_is)
    (case i16 => k_is)
    (case e17 => k_is)
    (case l17 => k_is)
    (case c17 => k_is)
    (case k17 => k_is)
    (case i17 => k_is)
    (case e18 => k_is)
    (case l18 => k_is)
    (case c18 => k_is)
    (case k18 => k_is)
    (case i18 => k_is)
    (case e19 => k_is)
    (case l19 => k_is)
    (case c19 => k_is)
    (case k19 => k_is)
    (case i19 => k_is)
    (case e20 => k_is)
    (case l20 => k_is)
    (case c20 => k_is)
    (case k20 => k_is)
    (case e21 => k_is)
    (case l21 => k_is)
    (case c21 => k_is)
    (case k21 => k_is)
    (case e22 => k_is)
    (case l22 => k_is)
    (case c22 => k_is)
    (case k22 => k_is)
    (case e23 => k_is)
    (case l23 => k_is)
    (case c23 => k_is)
    (case k23 => k_is)
    (case e24 => k_is)
    (case l24 => k_is)
    (case c24 => k_is)
    (case k24 => k_is)
    (case e25 => k_is)
    (case l25 => k_is)
    (case c25 => k_is)
    (case k25 => k_is)
    (case e26 => k_is)
    (case l26 => k_is)
    (case c26 => k_is)
    (case k26 => k_is)
    (case e27 => k_is)
    (case l27 => k_is)
    (case c27 => k_is)
    (case k27 => k_is)
    (case xa0 => k_is)
    (case xb0 => k_is)
    (case xc0 => k_is)
    (case xd0 => k_is)
    (case xf0_0 => k_is)
    (case xf0_1 => k_is)
    (case xf0_2 => k_is)
    (case xf0_3 => k_is)
    (case xf0_4 => k_is)
    (case xf0_5 => k_is)
    (case xf0_6 => k_is)
    (case xm0 => k_is)
    (case xk0 => k_is)
    (case yh0 => k_is)
    (case ym0 => k_is)
    (case yt0_0 => k_is)
    (case yt0_1 => k_is)
    (case yt0_2 => k_is)
    (case yt0_3 => k_is)
    (case yt0_4 => k_is)
    (case yt0_5 => k_is)
    (case yt0_6 => k_is)
    (case yi0 => k_is)
    (case yo0 => k_is)
    (case yc0_1 => k_is)
    (case yr0 => k_is)
    (case xa1 => k_is)
    (case xb1 => k_is)
    (case xc1 => k_is)
    (case xd1 => k_is)
    (case xf1_0 => k_is)
    (case xf1_1 => k_is)
    (case xf1_2 => k_is)
    (case xf1_3 => k_is)
    (case xf1_4 => k_is)
    (case xf1_5 => k_is)
    (case xf1_6 => k_is)
    (case xm1 => k_is)
    (case xk1 => k_is)
    (case yh1 => k_is)
    (case ym1 => k_is)
    (case yt1_0 => k_is)
    (case yt1_1 => k_is)
    (case yt1_2 => k_is)
    (case yt1_3 => k_is)
    (case yt1_4 => k_is)
    (case yt1_5 => k_is)
    (case yt1_6 => k_is)
    (case yi1 => k_is)
    (case yo1 => k_is)
    (case yc1_0 => k_is)
    (case yr1 => k_is)
    (case ys => k_is)
    (case yk => k_is)
    (case glv0 => k_is)
    (case z0 => k_is)
    (case z1 => k_is)
    (case z2 => k_is)
    (case z3 => k_is)
    (case z4 => k_is)
    (case z5 => k_is)
    (case z6 => k_is)
    (case z7 => k_is)
    (case z8 => k_is)
    (case z9 => k_is)
    (case z10 => k_is)
    (case z11 => k_is)
    (case z12 => k_is)
    (case z13 => k_is)
    (case z14 => k_is)
    (case z15 => k_is)
    (case z16 => k_is)
    (case z17 => k_is)
    (case z18 => k_is)
    (case z19 => k_is)

