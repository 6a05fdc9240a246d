import PyProof.Rows.All
import Wide.All
import OpenK.AllK
import Wide.FinOn
import HandS.ForMost
import HandS.ForExc
import HandS.TupAny
import HandS.TupMul
import HandS.IsInst
import HandS.Style
import HandS.Conv
import KE.KDictDisplayH
import KE.KDictWalk
import HandS.Lambda
import HandS.EndTab
import HandS.DictTup
import KE.DataMinMax
import HandS.CallSlots
import HandS.ExcIs
import HandS.OwnEq
import KE.KCallOwn
import HandS.FStr
import HandS.RaiseMore
import HandS.ReplaceLit
import HandS.ReplaceDef
import HandS.ReplaceList
import KE.KUnpackStar
import PySem.Challenge.RW_stockrules_k52_whole_texts
set_option Elab.async false
set_option linter.all false
set_option maxRecDepth 100000
set_option maxHeartbeats 4000000
/-! Plain facts: bounds and the demands that fit them. -/
namespace SR
structure Bd where
  low : Int
  high : Int
  days : Int
  most : Int
structure Bd.ok (b : Bd) : Prop where
  l0 : 0 ≤ b.low
  lh : b.low ≤ b.high
  h4 : b.high ≤ 4
  d1 : 1 ≤ b.days
  d3 : b.days ≤ 3
  dl : b.days * b.low ≤ b.most
  m12 : b.most ≤ 12
/-- the demands with further low ones behind them -/
def wholeB (b : Bd) (ms : List Int) : List Int := ms ++ List.replicate (b.days - 1).toNat b.low
def fitB (b : Bd) (ms : List Int) : Bool := (ms.all fun m => decide (b.low ≤ m) && decide (m ≤ b.high)) && (List.range ms.length).all fun k => decide ((((wholeB b ms).drop k).take b.days.toNat).sum ≤ b.most)
def sumTo (f : Nat → Int) : Nat → Int
  | 0 => 0
  | n + 1 => sumTo f n + f n
theorem sumTo_congr {f g : Nat → Int} : ∀ {n : Nat}, (∀ j, j < n → f j = g j) → sumTo f n = sumTo g n
  | 0, _ => rfl
  | n + 1, h => by rw [sumTo, sumTo, sumTo_congr fun j hj => h j (by omega), h n (by omega)]
theorem sumTo_le {f g : Nat → Int} : ∀ {n : Nat}, (∀ j, j < n → f j ≤ g j) → sumTo f n ≤ sumTo g n
  | 0, _ => Int.le_refl _
  | n + 1, h => by
    have h1 := sumTo_le fun j hj => h j (Nat.lt_succ_of_lt hj)
    have h2 := h n (Nat.lt_succ_self n)
    rw [sumTo, sumTo]; omega
theorem sumTo_const (c : Int) : ∀ n : Nat, sumTo (fun _ => c) n = n * c
  | 0 => by simp [sumTo]
  | n + 1 => by rw [sumTo, sumTo_const c n, Int.natCast_add, Int.add_mul]; simp
/-- one place is raised -/
theorem sumTo_upd {f g : Nat → Int} {i : Nat} : ∀ {n : Nat}, (∀ j, j < n → j ≠ i → f j = g j) → sumTo f n = sumTo g n + if i < n then f i - g i else 0
  | 0, _ => by simp [sumTo]
  | n + 1, h => by
    rw [sumTo, sumTo, sumTo_upd (f := f) (g := g) (i := i) (n := n) fun j hj => h j (by omega)]
    by_cases hn : n = i
    · subst hn
      rw [if_neg (by omega), if_pos (by omega)]; omega
    · rw [h n (by omega) hn]
      by_cases hi : i < n
      · rw [if_pos hi, if_pos (by omega)]; omega
      · rw [if_neg hi, if_neg (by omega)]; omega
theorem take_sum : ∀ (l : List Int) (k d : Nat), k + d ≤ l.length → ((l.drop k).take d).sum = sumTo (fun j => l.getD (k + j) 0) d
  | l, k, 0, _ => by simp [sumTo]
  | l, k, d + 1, h => by
    rw [sumTo, ← take_sum l k d (by omega), List.take_add_one, List.sum_append, List.getElem?_drop]
    have e : l[k + d]? = some (l.getD (k + d) 0) := by
      rw [List.getElem?_eq_getElem (by omega), List.getD_eq_getElem?_getD, List.getElem?_eq_getElem (by omega)]
      rfl
    rw [e]
    simp
/-- the sum of a window, with low ones beyond the end -/
def winS (b : Bd) (ms : List Int) (k : Nat) : Int := sumTo (fun j => ms.getD (k + j) b.low) b.days.toNat
theorem whole_get (b : Bd) (ms : List Int) (i : Nat) (h : i < ms.length + (b.days - 1).toNat) : (wholeB b ms).getD i 0 = ms.getD i b.low := by
  unfold wholeB
  rw [List.getD_eq_getElem?_getD, List.getD_eq_getElem?_getD]
  by_cases hi : i < ms.length
  · rw [List.getElem?_append_left hi, List.getElem?_eq_getElem hi]
    rfl
  · rw [List.getElem?_append_right (by omega), List.getElem?_replicate_of_lt (by omega), List.getElem?_eq_none (by omega)]
    rfl
theorem whole_win {b : Bd} (h1 : 1 ≤ b.days) (ms : List Int) (k : Nat) (hk : k < ms.length) : (((wholeB b ms).drop k).take b.days.toNat).sum = winS b ms k := by
  rw [take_sum _ _ _ (by unfold wholeB; rw [List.length_append, List.length_replicate]; omega)]
  exact sumTo_congr fun j hj => whole_get b ms _ (by omega)
theorem fitB_iff {b : Bd} (h1 : 1 ≤ b.days) (ms : List Int) : fitB b ms = true ↔ (∀ m ∈ ms, b.low ≤ m ∧ m ≤ b.high) ∧ ∀ k, k < ms.length → winS b ms k ≤ b.most := by
  unfold fitB
  rw [Bool.and_eq_true, List.all_eq_true, List.all_eq_true]
  constructor
  · rintro ⟨a, c⟩
    refine ⟨fun m hm => by simpa using a m hm, fun k hk => ?_⟩
    have := c k (List.mem_range.mpr hk)
    rw [whole_win h1 ms k hk] at this
    simpa using this
  · rintro ⟨a, c⟩
    refine ⟨fun m hm => by simpa using a m hm, fun k hk => ?_⟩
    have hk' := List.mem_range.mp hk
    rw [whole_win h1 ms k hk']
    simpa using c k hk'
theorem fit_nil (b : Bd) : fitB b [] = true := rfl
theorem getD_low {b : Bd} {ms : List Int} (h : ∀ m ∈ ms, b.low ≤ m ∧ m ≤ b.high) (i : Nat) : b.low ≤ ms.getD i b.low := by
  rw [List.getD_eq_getElem?_getD]
  cases e : ms[i]? with
  | none => exact Int.le_refl _
  | some m => exact (h m (List.mem_of_getElem? e)).1
/-- a beginning fits -/
theorem fit_take {b : Bd} (hb : b.ok) {ms : List Int} (h : fitB b ms = true) (n : Nat) : fitB b (ms.take n) = true := by
  rw [fitB_iff hb.d1] at h ⊢
  obtain ⟨ha, hw⟩ := h
  refine ⟨fun m hm => ha m (List.mem_of_mem_take hm), fun k hk => ?_⟩
  have hk2 : k < ms.length := by rw [List.length_take] at hk; omega
  refine Int.le_trans (sumTo_le fun j _ => ?_) (hw k hk2)
  rw [List.getD_eq_getElem?_getD, List.getElem?_take]
  split
  · rw [← List.getD_eq_getElem?_getD]; exact Int.le_refl _
  · exact getD_low ha _
/-- one demand more -/
theorem fit_snoc {b : Bd} (hb : b.ok) {ms : List Int} (h : fitB b ms = true) (d : Int) :
    fitB b (ms ++ [d]) = true ↔ (b.low ≤ d ∧ d ≤ b.high) ∧ ∀ k, k ≤ ms.length → ms.length < k + b.days.toNat → winS b ms k + (d - b.low) ≤ b.most := by
  have h' := (fitB_iff hb.d1 ms).mp h
  have win : ∀ k, k ≤ ms.length → winS b (ms ++ [d]) k = winS b ms k + if ms.length < k + b.days.toNat then d - b.low else 0 := by
    intro k hk
    unfold winS
    rw [sumTo_upd (g := fun j => ms.getD (k + j) b.low) (i := ms.length - k) fun j hj hne => ?_]
    · congr 1
      by_cases hc : ms.length < k + b.days.toNat
      · rw [if_pos hc, if_pos (by omega), show k + (ms.length - k) = ms.length by omega]
        rw [List.getD_eq_getElem?_getD, List.getD_eq_getElem?_getD, List.getElem?_append_right (Nat.le_refl _), Nat.sub_self, List.getElem?_eq_none (Nat.le_refl _)]
        rfl
      · rw [if_neg hc, if_neg (by omega)]
    · rw [List.getD_eq_getElem?_getD, List.getD_eq_getElem?_getD]
      by_cases hl : k + j < ms.length
      · rw [List.getElem?_append_left hl]
      · rw [List.getElem?_append_right (by omega), List.getElem?_eq_none (by simp; omega), List.getElem?_eq_none (by omega)]
  rw [fitB_iff hb.d1]
  constructor
  · rintro ⟨ha, hw⟩
    refine ⟨ha d (by simp), fun k hk hd => ?_⟩
    have := hw k (by simp; omega)
    rw [win k hk, if_pos hd] at this
    exact this
  · rintro ⟨hd, hw⟩
    refine ⟨fun m hm => ?_, fun k hk => ?_⟩
    · rcases List.mem_append.mp hm with e | e
      · exact h'.1 m e
      · simp at e; subst e; exact hd
    · have hk : k ≤ ms.length := by simp at hk; omega
      rw [win k hk]
      by_cases hc : ms.length < k + b.days.toNat
      · rw [if_pos hc]; exact hw k hk hc
      · rw [if_neg hc]
        have := h'.2 k (by have := hb.d1; omega)
        omega
theorem win_end (b : Bd) (ms : List Int) : winS b ms ms.length = b.days.toNat * b.low := by
  unfold winS
  rw [← sumTo_const]
  refine sumTo_congr fun j _ => ?_
  rw [List.getD_eq_getElem?_getD, List.getElem?_eq_none (by omega)]
  rfl
/-- a low demand always fits behind -/
theorem fit_low {b : Bd} (hb : b.ok) {ms : List Int} (h : fitB b ms = true) : fitB b (ms ++ [b.low]) = true := by
  rw [fit_snoc hb h]
  refine ⟨⟨Int.le_refl _, hb.lh⟩, fun k hk _ => ?_⟩
  by_cases e : k = ms.length
  · subst e
    have := hb.d1; have := hb.dl
    rw [win_end, show ((b.days.toNat : Nat) : Int) = b.days by omega]; omega
  · have := ((fitB_iff hb.d1 ms).mp h).2 k (by omega)
    omega
theorem fit_less {b : Bd} (hb : b.ok) {ms : List Int} (h : fitB b ms = true) {d e : Int} (hd : fitB b (ms ++ [d]) = true) (h1 : b.low ≤ e) (h2 : e ≤ d) : fitB b (ms ++ [e]) = true := by
  rw [fit_snoc hb h] at hd ⊢
  exact ⟨⟨h1, by omega⟩, fun k hk hl => by have := hd.2 k hk hl; omega⟩
theorem fit_range {b : Bd} (hb : b.ok) {ms : List Int} (h : fitB b (ms) = true) {d : Int} (hd : fitB b (ms ++ [d]) = true) : b.low ≤ d ∧ d ≤ b.high := ((fit_snoc hb h d).mp hd).1
theorem fit_init {b : Bd} (hb : b.ok) {ms : List Int} {d : Int} (h : fitB b (ms ++ [d]) = true) : fitB b ms = true := by
  have := fit_take hb h ms.length
  rw [List.take_left] at this
  exact this
theorem sum_eq_sumTo (l : List Int) (z : Int) : l.sum = sumTo (fun j => l.getD j z) l.length := by
  have h := take_sum l 0 l.length (by omega)
  rw [List.drop_zero, List.take_length] at h
  rw [h]
  refine sumTo_congr fun j hj => ?_
  rw [List.getD_eq_getElem?_getD, List.getD_eq_getElem?_getD, Nat.zero_add, List.getElem?_eq_getElem hj]
  rfl
theorem sumTo_add (f : Nat → Int) (m : Nat) : ∀ n : Nat, sumTo f (m + n) = sumTo f m + sumTo (fun j => f (m + j)) n
  | 0 => by simp [sumTo]
  | n + 1 => by rw [← Nat.add_assoc, sumTo, sumTo, sumTo_add f m n]; omega
theorem most_nn {b : Bd} (hb : b.ok) : 0 ≤ b.most := by
  have h1 : 0 ≤ b.days * b.low := Int.mul_nonneg (by have := hb.d1; omega) hb.l0
  have := hb.dl
  omega
/-- the last demands are not too many -/
theorem fit_tail {b : Bd} (hb : b.ok) {ms : List Int} (h : fitB b ms = true) : (ms.drop (ms.length - b.days.toNat)).sum ≤ b.most := by
  have hd := hb.d1
  have h' := ((fitB_iff hb.d1 ms).mp h).2
  by_cases h0 : ms.length = 0
  · have : ms = [] := List.eq_nil_of_length_eq_zero h0
    subst this
    simpa using most_nn hb
  by_cases hc : b.days.toNat ≤ ms.length
  · have hw := h' (ms.length - b.days.toNat) (by omega)
    have e := take_sum ms (ms.length - b.days.toNat) b.days.toNat (by omega)
    rw [List.take_of_length_le (by rw [List.length_drop]; omega)] at e
    rw [e]
    refine Int.le_trans (Int.le_of_eq (sumTo_congr fun j hj => ?_)) hw
    rw [List.getD_eq_getElem?_getD, List.getD_eq_getElem?_getD, List.getElem?_eq_getElem (by omega)]
    rfl
  · rw [show ms.length - b.days.toNat = 0 by omega, List.drop_zero]
    have hw := h' 0 (by omega)
    unfold winS at hw
    rw [show b.days.toNat = ms.length + (b.days.toNat - ms.length) by omega, sumTo_add] at hw
    have e : sumTo (fun j => ms.getD (0 + j) b.low) ms.length = ms.sum := by
      rw [sum_eq_sumTo ms b.low]
      exact sumTo_congr fun j _ => by rw [Nat.zero_add]
    rw [e] at hw
    have h2 : 0 ≤ sumTo (fun j => ms.getD (0 + (ms.length + j)) b.low) (b.days.toNat - ms.length) := by
      have := sumTo_le (f := fun _ => 0) (g := fun j => ms.getD (0 + (ms.length + j)) b.low) (n := b.days.toNat - ms.length) fun j _ => ?_
      · rw [sumTo_const] at this; omega
      · exact Int.le_trans hb.l0 (getD_low ((fitB_iff hb.d1 ms).mp h).1 _)
    omega
/-! ### lists of ints -/
def irange (lo hi : Int) : List Int := (List.range (hi + 1 - lo).toNat).map fun i => lo + ((i : Nat) : Int)
theorem mem_irange {lo hi d : Int} : d ∈ irange lo hi ↔ lo ≤ d ∧ d ≤ hi := by
  unfold irange
  simp only [List.mem_map, List.mem_range]
  constructor
  · rintro ⟨i, h, rfl⟩; omega
  · intro h
    exact ⟨(d - lo).toNat, by omega, by omega⟩
/-- which demands of 0 .. 9 fit behind ms: an interval -/
theorem fit_interval {b : Bd} (hb : b.ok) {ms : List Int} (h : fitB b ms = true) : ∃ c : Nat, 0 < c ∧ b.low + c ≤ 10 ∧ ((List.range 10).map fun i => ((i : Nat) : Int)).filter (fun d => fitB b (ms ++ [d])) = (List.range c).map fun i => b.low + ((i : Nat) : Int) := by
  have hl := hb.l0; have hh := hb.lh; have h4 := hb.h4
  have key : ∀ n : Nat, (∀ j : Nat, j < n → fitB b (ms ++ [b.low + j]) = true) ∨ ∃ c : Nat, c < n ∧ (∀ j : Nat, j < c → fitB b (ms ++ [b.low + j]) = true) ∧ fitB b (ms ++ [b.low + c]) = false := by
    intro n
    induction n with
    | zero => exact .inl fun j hj => by omega
    | succ n ih =>
      rcases ih with ih | ⟨c, hc, h1, h2⟩
      · cases e : fitB b (ms ++ [b.low + n]) with
        | true => exact .inl fun j hj => by by_cases q : j = n; · subst q; exact e
                                            · exact ih j (by omega)
        | false => exact .inr ⟨n, by omega, ih, e⟩
      · exact .inr ⟨c, by omega, h1, h2⟩
  obtain ⟨c, hc, h1, h2⟩ : ∃ c : Nat, c ≤ 5 ∧ (∀ j : Nat, j < c → fitB b (ms ++ [b.low + j]) = true) ∧ fitB b (ms ++ [b.low + c]) = false := by
    rcases key 6 with k | ⟨c, hc, h1, h2⟩
    · have := fit_range hb h (k 5 (by omega))
      omega
    · exact ⟨c, by omega, h1, h2⟩
  have hc0 : 0 < c := by
    rcases Nat.eq_zero_or_pos c with e | e
    · subst e
      have := fit_low hb h
      rw [show b.low + ((0 : Nat) : Int) = b.low by omega, this] at h2
      cases h2
    · exact e
  have pd : ∀ d : Int, fitB b (ms ++ [d]) = (decide (b.low ≤ d) && decide (d < b.low + c)) := by
    intro d
    cases e : fitB b (ms ++ [d]) with
    | true =>
      have hr := fit_range hb h e
      have : d < b.low + c := by
        rcases Int.lt_or_le d (b.low + c) with q | q
        · exact q
        · have := fit_less hb h e (show b.low ≤ b.low + (c : Int) by omega) q
          rw [this] at h2; cases h2
      simp [hr.1, this]
    | false =>
      by_cases q : b.low ≤ d ∧ d < b.low + c
      · have := h1 (d - b.low).toNat (by omega)
        rw [show b.low + (((d - b.low).toNat : Nat) : Int) = d by omega, e] at this
        cases this
      · symm
        rw [Bool.and_eq_false_iff]
        rcases Int.lt_or_le d b.low with z | z
        · exact .inl (decide_eq_false (by omega))
        · exact .inr (decide_eq_false (by omega))
  refine ⟨c, hc0, by omega, ?_⟩
  have fin : ∀ l : Fin 5, ∀ c : Fin 6, ((List.range 10).map fun i => ((i : Nat) : Int)).filter (fun d => decide (((l.val : Nat) : Int) ≤ d) && decide (d < ((l.val : Nat) : Int) + ((c.val : Nat) : Int))) = (List.range c.val).map fun i => ((l.val : Nat) : Int) + ((i : Nat) : Int) := by decide
  have := fin ⟨b.low.toNat, by omega⟩ ⟨c, by omega⟩
  rw [show (fun d => fitB b (ms ++ [d])) = fun d => decide (b.low ≤ d) && decide (d < b.low + c) from funext pd]
  simp only [show ((b.low.toNat : Nat) : Int) = b.low by omega] at this
  exact this
/-! ### all demands of so many days that fit -/
def extB (b : Bd) (row : List Int) : List (List Int) := ((irange b.low b.high).map fun d => row ++ [d]).filter (fitB b)
def lv (b : Bd) : Nat → List (List Int)
  | 0 => [[]]
  | i + 1 => (lv b i).flatMap (extB b)
def allB (b : Bd) : Nat → List (List Int)
  | 0 => [[]]
  | i + 1 => allB b i ++ lv b (i + 1)
theorem extB_len (b : Bd) (hb : b.ok) (row : List Int) : (extB b row).length ≤ 5 := by
  unfold extB
  refine Nat.le_trans (List.length_filter_le _ _) ?_
  unfold irange
  rw [List.length_map, List.length_map, List.length_range]
  have := hb.l0; have := hb.h4
  omega
theorem flatMap_len {α β : Type} (f : α → List β) (k : Nat) (h : ∀ x, (f x).length ≤ k) : ∀ l : List α, (l.flatMap f).length ≤ k * l.length
  | [] => by simp
  | a :: r => by
    rw [List.flatMap_cons, List.length_append, List.length_cons]
    have h1 := flatMap_len f k h r
    have h2 := h a
    rw [Nat.mul_add]; omega
theorem lv_len {b : Bd} (hb : b.ok) : ∀ i, (lv b i).length ≤ 5 ^ i
  | 0 => by simp [lv]
  | i + 1 => by
    have h1 := flatMap_len (extB b) 5 (extB_len b hb) (lv b i)
    have h2 := lv_len hb i
    show ((lv b i).flatMap (extB b)).length ≤ 5 ^ (i + 1)
    rw [Nat.pow_succ]; omega
theorem allB_len {b : Bd} (hb : b.ok) : ∀ i, (allB b i).length ≤ 5 ^ (i + 1)
  | 0 => by simp [allB]
  | i + 1 => by
    have h1 := allB_len hb i
    have h2 := lv_len hb (i + 1)
    show (allB b i ++ lv b (i + 1)).length ≤ 5 ^ (i + 1 + 1)
    rw [List.length_append, Nat.pow_succ]; omega
theorem lv_fit {b : Bd} : ∀ i ms, ms ∈ lv b i → fitB b ms = true ∧ ms.length = i
  | 0, ms, h => by simp [lv] at h; subst h; exact ⟨rfl, rfl⟩
  | i + 1, ms, h => by
    obtain ⟨row, h1, h2⟩ := List.mem_flatMap.mp h
    obtain ⟨h3, h4⟩ := List.mem_filter.mp h2
    obtain ⟨d, _, rfl⟩ := List.mem_map.mp h3
    refine ⟨h4, ?_⟩
    rw [List.length_append, (lv_fit i row h1).2]
    rfl
theorem allB_fit {b : Bd} : ∀ i ms, ms ∈ allB b i → fitB b ms = true ∧ ms.length ≤ i
  | 0, ms, h => by simp [allB] at h; subst h; exact ⟨rfl, Nat.le_refl _⟩
  | i + 1, ms, h => by
    rcases List.mem_append.mp h with h | h
    · obtain ⟨h1, h2⟩ := allB_fit i ms h
      exact ⟨h1, by omega⟩
    · obtain ⟨h1, h2⟩ := lv_fit (i + 1) ms h
      exact ⟨h1, by omega⟩
theorem allB_ne (b : Bd) : ∀ i, 0 < (allB b i).length
  | 0 => by simp [allB]
  | i + 1 => by show 0 < (allB b i ++ lv b (i + 1)).length; rw [List.length_append]; have := allB_ne b i; omega
end SR
/-! The data layer: tuples are values, what may change stands in a plain map. -/
namespace SR
open PySem PySem.Spec PyProof.Rows L2
abbrev St := L2.St

/-- data: tuples are values; p: a thing at an address -/
inductive D where
  | non | bl (b : Bool) | int (i : Int) | str (x : Str) | ty (n : String) | tup (xs : List D) | scr (a : Addr) (ns : List Int) | p (a : Addr) | exc (a C : Addr)

/-- a list that never changes -/
def Fz (K : PySem.W.Frag) (H : Hp) (a : Addr) (xs : List V) : Prop := (∃ o, H a = some (.frz o (.lst xs))) ∨ SqL K (fun _ => none) a xs
theorem Fz.sq {K : PySem.W.Frag} {H : Hp} {a : Addr} {xs : List V} (h : Fz K H a xs) : SqL K H a xs := by
  rcases h with ⟨o, h⟩ | ((h | ⟨_, h⟩) | h)
  · exact .inl (.inr ⟨o, h⟩)
  · cases h
  · cases h
  · exact .inr h
theorem Fz.of {K : PySem.W.Frag} {H : Hp} {a : Addr} {xs : List V} (o : Only H) (h : SqL K H a xs) : Fz K H a xs := by
  rcases h with (h | ⟨ob, h⟩) | h
  · rcases o a with e | ⟨ob, ys, e⟩
    · rw [h] at e; cases e
    · rw [h] at e; cases e
  · exact .inl ⟨ob, h⟩
  · exact .inr (.inr h)

structure Kp (H H' : Hp) : Prop where
  t : ∀ b xs, H b = some (.tup xs) → H' b = some (.tup xs)
  f : ∀ b o u, H b = some (.frz o u) → H' b = some (.frz o u)
theorem Kp.refl (H : Hp) : Kp H H := ⟨fun _ _ h => h, fun _ _ _ h => h⟩
theorem Kp.trans {H H1 H2 : Hp} (a : Kp H H1) (b : Kp H1 H2) : Kp H H2 := ⟨fun c xs h => b.t c xs (a.t c xs h), fun c o u h => b.f c o u (a.f c o u h)⟩
theorem Kp.new {H : Hp} {p : Addr} {o : HO} (h : H p = none) : Kp H (upd H p o) :=
  ⟨fun b xs e => by rw [upd_ne (ne_of_none e h)]; exact e, fun b ob u e => by rw [upd_ne (ne_of_none e h)]; exact e⟩
theorem Kp.at {H : Hp} {p : Addr} {o ob : HO} (h : H p = some ob) (h1 : ∀ xs, ob ≠ .tup xs) (h2 : ∀ c u, ob ≠ .frz c u) : Kp H (upd H p o) :=
  ⟨fun b xs e => by rw [upd_ne (ne_of e h (fun z => h1 xs z.symm))]; exact e, fun b c u e => by rw [upd_ne (ne_of e h (fun z => h2 c u z.symm))]; exact e⟩
theorem Fz.kp {K : PySem.W.Frag} {H H' : Hp} {a : Addr} {xs : List V} (k : Kp H H') (h : Fz K H a xs) : Fz K H' a xs := by
  rcases h with ⟨o, h⟩ | h
  · exact .inl ⟨o, k.f _ _ _ h⟩
  · exact .inr h

mutual
inductive Rp (K : PySem.W.Frag) (H : Hp) : V → D → Prop
  | non : Rp K H .non .non
  | bl (b : Bool) : Rp K H (.bl b) (.bl b)
  | int (i : Int) : Rp K H (.int i) (.int i)
  | str (x : Str) : Rp K H (.str x) (.str x)
  | ty (n : String) : Rp K H (.ty n) (.ty n)
  | p (a : Addr) : Rp K H (.ref a) (.p a)
  | scr {a : Addr} {ns : List Int} : Fz K H a (ns.map V.int) → Rp K H (.ref a) (.scr a ns)
  | tup {a : Addr} {xs : List V} {ds : List D} : H a = some (.tup xs) → RpAll K H xs ds → Rp K H (.ref a) (.tup ds)
  | exc {a C : Addr} {oe : Obj} {u : HO} : H a = some (.frz oe u) → oe.cls = .ref C → oe.dict = none → (∃ vs, oe.data = .fields vs) → Rp K H (.ref a) (.exc a C)
inductive RpAll (K : PySem.W.Frag) (H : Hp) : List V → List D → Prop
  | nil : RpAll K H [] []
  | cons {v : V} {vs : List V} {d : D} {ds : List D} : Rp K H v d → RpAll K H vs ds → RpAll K H (v :: vs) (d :: ds)
end
mutual
theorem Rp.kp {K : PySem.W.Frag} {H H' : Hp} (k : Kp H H') : ∀ {v : V} {d : D}, Rp K H v d → Rp K H' v d
  | _, _, .non => .non
  | _, _, .bl b => .bl b
  | _, _, .int i => .int i
  | _, _, .str x => .str x
  | _, _, .ty n => .ty n
  | _, _, .p a => .p a
  | _, _, .scr h => .scr (h.kp k)
  | _, _, .tup h r => .tup (k.t _ _ h) (RpAll.kp k r)
  | _, _, .exc h c d v => .exc (k.f _ _ _ h) c d v
theorem RpAll.kp {K : PySem.W.Frag} {H H' : Hp} (k : Kp H H') : ∀ {vs : List V} {ds : List D}, RpAll K H vs ds → RpAll K H' vs ds
  | _, _, .nil => .nil
  | _, _, .cons h r => .cons (Rp.kp k h) (RpAll.kp k r)
end
section
variable {K : PySem.W.Frag} {H H' : Hp}
theorem RpAll.length : ∀ {vs : List V} {ds : List D}, RpAll K H vs ds → vs.length = ds.length
  | _, _, .nil => rfl
  | _, _, .cons _ r => by rw [List.length_cons, List.length_cons, RpAll.length r]
theorem RpAll.get : ∀ {vs : List V} {ds : List D} {i : Nat} {d : D}, RpAll K H vs ds → ds[i]? = some d → ∃ v, vs[i]? = some v ∧ Rp K H v d
  | _, _, _, _, .nil, e => by simp at e
  | _, _, 0, _, .cons h _, e => by simp at e; subst e; exact ⟨_, rfl, h⟩
  | _, _, i + 1, d, .cons _ r, e => by
    obtain ⟨v, h1, h2⟩ := RpAll.get (i := i) (d := d) r (by simpa using e)
    exact ⟨v, by simpa using h1, h2⟩
theorem RpAll.get' : ∀ {vs : List V} {ds : List D} {i : Nat} {v : V}, RpAll K H vs ds → vs[i]? = some v → ∃ d, ds[i]? = some d ∧ Rp K H v d
  | _, _, _, _, .nil, e => by simp at e
  | _, _, 0, _, .cons h _, e => by simp at e; subst e; exact ⟨_, rfl, h⟩
  | _, _, i + 1, v, .cons _ r, e => by
    obtain ⟨d, h1, h2⟩ := RpAll.get' (i := i) (v := v) r (by simpa using e)
    exact ⟨d, by simpa using h1, h2⟩
theorem RpAll.append : ∀ {vs ws : List V} {ds es : List D}, RpAll K H vs ds → RpAll K H ws es → RpAll K H (vs ++ ws) (ds ++ es)
  | _, _, _, _, .nil, s => s
  | _, _, _, _, .cons h r, s => .cons h (RpAll.append r s)
theorem RpAll.drop : ∀ {vs : List V} {ds : List D} (n : Nat), RpAll K H vs ds → RpAll K H (vs.drop n) (ds.drop n)
  | _, _, 0, r => r
  | _, _, _ + 1, .nil => .nil
  | _, _, n + 1, .cons _ r => RpAll.drop n r
theorem RpAll.take : ∀ {vs : List V} {ds : List D} (n : Nat), RpAll K H vs ds → RpAll K H (vs.take n) (ds.take n)
  | _, _, 0, _ => .nil
  | _, _, _ + 1, .nil => .nil
  | _, _, n + 1, .cons h r => .cons h (RpAll.take n r)
theorem RpAll.set {v : V} {d : D} (h : Rp K H v d) : ∀ {vs : List V} {ds : List D} (i : Nat), RpAll K H vs ds → RpAll K H (vs.set i v) (ds.set i d)
  | _, _, _, .nil => .nil
  | _, _, 0, .cons _ r => .cons h r
  | _, _, i + 1, .cons q r => .cons q (RpAll.set h i r)
theorem RpAll.dropLast : ∀ {vs : List V} {ds : List D}, RpAll K H vs ds → RpAll K H vs.dropLast ds.dropLast
  | _, _, .nil => .nil
  | _, _, .cons _ .nil => .nil
  | _, _, .cons h (.cons h2 r) => .cons h (RpAll.dropLast (.cons h2 r))
theorem RpAll.ints : ∀ {vs : List V} {ns : List Int}, RpAll K H vs (ns.map D.int) → vs = ns.map V.int
  | _, [], .nil => rfl
  | _, n :: ns, .cons h r => by
    cases h
    rw [List.map_cons, RpAll.ints r]
theorem RpAll.ofInts : ∀ (ns : List Int), RpAll K H (ns.map V.int) (ns.map D.int)
  | [] => .nil
  | n :: ns => .cons (.int n) (RpAll.ofInts ns)
theorem RpAll.bls : ∀ {vs : List V} {bs : List Bool}, RpAll K H vs (bs.map D.bl) → vs = bs.map V.bl
  | _, [], .nil => rfl
  | _, n :: ns, .cons h r => by
    cases h
    rw [List.map_cons, RpAll.bls r]
theorem RpAll.strs : ∀ {vs : List V} {bs : List Str}, RpAll K H vs (bs.map D.str) → vs = bs.map V.str
  | _, [], .nil => rfl
  | _, n :: ns, .cons h r => by
    cases h
    rw [List.map_cons, RpAll.strs r]
theorem RpAll.ofStrs : ∀ (ns : List Str), RpAll K H (ns.map V.str) (ns.map D.str)
  | [] => .nil
  | n :: ns => .cons (.str n) (RpAll.ofStrs ns)
theorem RpAll.rep {vs : List V} {ds : List D} (h : RpAll K H vs ds) : ∀ k : Nat, RpAll K H (List.replicate k vs).flatten (List.replicate k ds).flatten
  | 0 => .nil
  | k + 1 => by
    rw [List.replicate_succ, List.replicate_succ, List.flatten_cons, List.flatten_cons]
    exact h.append (RpAll.rep h k)
end

/-- what stands at an address; dic: a dict whose keys are nested tuples, fdic: such a one that never changes any more -/
inductive Ob where
  | lst (ds : List D)
  | ins (C dx : Addr) (fs : List (Str × D))
  | own (x : Addr)
  | dic (w : World) (kvs : List (NestedKey × D))
  | fdic (w : World) (kvs : List (NestedKey × D))
  | fn (q : Str) (pr : Arguments) (bd : Expr) (sc : Scope)
  | tab (q : Str)
  | set (n : Nat)
mutual
/-- the datum of a key -/
def kD : NestedKey → D
  | .none => .non
  | .num i => .int i
  | .text x => .str x
  | .tup ks => .tup (kDs ks)
def kDs : List NestedKey → List D
  | [] => []
  | k :: ks => kD k :: kDs ks
end
/-- the object of a dict with the entries xs -/
def DIs (w : World) (a : Addr) (xs : List (NestedKey × Addr × Value)) (h : Heap) : Prop :=
  xs.length ≤ sizeLine ∧ (a == sysModules) = false ∧ ∃ o es ep, h.get? a = some o ∧ o.ExactDict ∧ o.data = .dict es ep ∧ es.toList = xs.map (fun x => (⟨x.1.hash w, .ref x.2.1, x.2.2⟩ : DictEntry)) ∧ (xs.map (·.1)).Nodup
theorem DIs.stay {w : World} {a : Addr} {xs : List (NestedKey × Addr × Value)} {h h' : Heap} (x : DIs w a xs h) (k : ∀ o, h.get? a = some o → h'.get? a = some o) : DIs w a xs h' := by
  obtain ⟨h1, h2, o, es, ep, h3, h4⟩ := x
  exact ⟨h1, h2, o, es, ep, k o h3, h4⟩
def KTn (K : PySem.W.Frag) (H : Hp) : List (NestedKey × D) → List (NestedKey × Addr × Value) → Prop :=
  Paired fun p q => p.1 = q.1 ∧ p.1.depth ≤ 8 ∧ Rp K H (.ref q.2.1) (kD p.1) ∧ ∃ v, RelV v q.2.2 ∧ Rp K H v p.2
theorem KTn.kp {K : PySem.W.Frag} {H H' : Hp} (k : Kp H H') {kvs : List (NestedKey × D)} {xs : List (NestedKey × Addr × Value)} (h : KTn K H kvs xs) : KTn K H' kvs xs :=
  Paired.mapP h fun _ _ z => ⟨z.1, z.2.1, z.2.2.1.kp k, let ⟨v, a, b⟩ := z.2.2.2; ⟨v, a, b.kp k⟩⟩
abbrev Om := Addr → Option Ob
def updO (W : Om) (a : Addr) (o : Ob) : Om := fun b => if b = a then some o else W b
theorem updO_same {W : Om} {a : Addr} {o : Ob} : updO W a o a = some o := by unfold updO; rw [if_pos rfl]
theorem updO_ne {W : Om} {a b : Addr} {o : Ob} (h : b ≠ a) : updO W a o b = W b := by unfold updO; rw [if_neg h]
theorem updO_updO {W : Om} {a : Addr} {o u : Ob} : updO (updO W a o) a u = updO W a u := by
  funext b; unfold updO; split <;> rfl
def Sub (W W' : Om) : Prop := ∀ b o, W b = some o → W' b = some o
theorem Sub.refl (W : Om) : Sub W W := fun _ _ h => h
theorem Sub.trans {W W1 W2 : Om} (a : Sub W W1) (b : Sub W1 W2) : Sub W W2 := fun c o h => b c o (a c o h)
theorem neO {W : Om} {a b : Addr} {o : Ob} (h : W a = some o) (h' : W b = none) : a ≠ b := by
  intro e; subst e; rw [h] at h'; cases h'
theorem Sub.new {W : Om} {p : Addr} {o : Ob} (h : W p = none) : Sub W (updO W p o) := fun b u e => by rw [updO_ne (neO e h)]; exact e
theorem Sub.free {W W' : Om} (s : Sub W W') {p : Addr} (h : W' p = none) : W p = none := by
  cases e : W p with
  | none => rfl
  | some o => rw [s p o e] at h; cases h

/-- a set with n members -/
def SetN (a : Addr) (n : Nat) (h : Heap) : Prop := ∃ o es c t, h.get? a = some o ∧ o.cls = .type "set" ∧ o.data = .set es c t ∧ es.size = n ∧ t.place.size = es.size ∧ t.fill ≤ t.mask
/-- a table of code objects that all bear the name q -/
def TabD (H : Hp) (a : Addr) (q : Str) : Prop := ∃ ps : Array Value, H a = some (.tbl ps) ∧ TriplesOk ps.toList ∧ ∀ (pos : Pos) (cv : Value), codeAmong pos ps.toList = some cv → ∃ c oc u vs t, cv = .ref c ∧ H c = some (.frz oc u) ∧ oc.data = .fields vs ∧ vs[1]? = some (.str q t)
/-- a lambda of the name q, and its code object -/
def FnD (H : Hp) (a : Addr) (q : Str) (pr : Arguments) (bd : Expr) (sc : Scope) : Prop := ∃ pm ctv c u oc u2 vs t, H a = some (.frz (PySem.W.kla_obj "<lambda>" q pr bd sc [] pm c ctv) u) ∧ H c = some (.frz oc u2) ∧ oc.data = .fields vs ∧ vs[1]? = some (.str q t)
def FsR (K : PySem.W.Frag) (H : Hp) : List (Str × V) → List (Str × D) → Prop := Paired fun g f => g.1 = f.1 ∧ Rp K H g.2 f.2
def ObR (K : PySem.W.Frag) (H : Hp) (a : Addr) : Ob → Prop
  | .lst ds => ∃ xs, H a = some (.lst xs) ∧ RpAll K H xs ds
  | .ins C dx fs => ∃ gs, H a = some (.ins C dx gs) ∧ FsR K H gs fs
  | .own x => H a = some (.own x)
  | .dic w kvs => ∃ xs, H a = some (.ext (DIs w a xs)) ∧ KTn K H kvs xs
  | .fdic w kvs => ∃ o xs, H a = some (.frz o (.ext (DIs w a xs))) ∧ KTn K H kvs xs
  | .fn q pr bd sc => FnD H a q pr bd sc
  | .tab q => TabD H a q
  | .set n => H a = some (.ext (SetN a n))
def HpOk (K : PySem.W.Frag) (H : Hp) (W : Om) : Prop := ∀ a o, W a = some o → ObR K H a o
section
variable {K : PySem.W.Frag} {H H' : Hp} {W W' : Om} {a p : Addr} {o : Ob}
theorem FsR.kp (k : Kp H H') {gs : List (Str × V)} {fs : List (Str × D)} (h : FsR K H gs fs) : FsR K H' gs fs := Paired.mapP h fun _ _ z => ⟨z.1, z.2.kp k⟩
theorem ObR.stay (x : ObR K H a o) (k : Kp H H') (e : H' a = H a) : ObR K H' a o := by
  cases o with
  | lst ds => obtain ⟨xs, h, r⟩ := x; exact ⟨xs, e.trans h, r.kp k⟩
  | ins C dx fs => obtain ⟨gs, h, r⟩ := x; exact ⟨gs, e.trans h, r.kp k⟩
  | own y => exact e.trans x
  | dic w kvs => obtain ⟨xs, h, r⟩ := x; exact ⟨xs, e.trans h, r.kp k⟩
  | fdic w kvs => obtain ⟨o, xs, h, r⟩ := x; exact ⟨o, xs, e.trans h, r.kp k⟩
  | fn q pr bd sc =>
    obtain ⟨pm, ctv, c, u, oc, u2, vs, t, h1, h2, h3⟩ := x
    exact ⟨pm, ctv, c, u, oc, u2, vs, t, k.f _ _ _ h1, k.f _ _ _ h2, h3⟩
  | tab q =>
    obtain ⟨ps, h, t, f⟩ := x
    refine ⟨ps, e.trans h, t, fun pos cv hc => ?_⟩
    obtain ⟨c, oc, u, vs, tk, e1, e2, e3⟩ := f pos cv hc
    exact ⟨c, oc, u, vs, tk, e1, k.f _ _ _ e2, e3⟩
  | set n => exact e.trans x
theorem ObR.some (x : ObR K H a o) : ∃ u, H a = Option.some u := by
  cases o with
  | lst ds => obtain ⟨xs, h, r⟩ := x; exact ⟨_, h⟩
  | ins C dx fs => obtain ⟨gs, h, r⟩ := x; exact ⟨_, h⟩
  | own y => exact ⟨_, x⟩
  | dic w kvs => obtain ⟨xs, h, r⟩ := x; exact ⟨_, h⟩
  | fdic w kvs => obtain ⟨o, xs, h, r⟩ := x; exact ⟨_, h⟩
  | fn q pr bd sc => obtain ⟨_, _, _, _, _, _, _, _, h, _⟩ := x; exact ⟨_, h⟩
  | tab q => obtain ⟨ps, h, _⟩ := x; exact ⟨_, h⟩
  | set n => exact ⟨_, x⟩
theorem HpOk.free (x : HpOk K H W) (h : H p = none) : W p = none := by
  cases e : W p with
  | none => rfl
  | some o =>
    obtain ⟨u, q⟩ := (x p o e).some
    rw [h] at q; cases q
theorem HpOk.sub (x : HpOk K H W') (s : Sub W W') : HpOk K H W := fun a o e => x a o (s a o e)
theorem HpOk.new {u : HO} (x : HpOk K H W) (h : H p = none) (n : ObR K (upd H p u) p o) : HpOk K (upd H p u) (updO W p o) := fun b v e => by
  by_cases hb : b = p
  · subst hb
    rw [updO_same] at e; cases e
    exact n
  · rw [updO_ne hb] at e
    exact (x b v e).stay (Kp.new h) (upd_ne hb)
/-- a new tracked thing that W does not name -/
theorem HpOk.more {u : HO} (x : HpOk K H W) (h : H p = none) : HpOk K (upd H p u) W := fun b v e => by
  have hb : b ≠ p := neO e (x.free h)
  exact (x b v e).stay (Kp.new h) (upd_ne hb)
theorem HpOk.set {u : HO} (x : HpOk K H W) (k : Kp H (upd H p u)) (n : ObR K (upd H p u) p o) : HpOk K (upd H p u) (updO W p o) := fun b v e => by
  by_cases hb : b = p
  · subst hb
    rw [updO_same] at e; cases e
    exact n
  · rw [updO_ne hb] at e
    exact (x b v e).stay k (upd_ne hb)
end

/-- the slots -/
abbrev Ga := List (Option D)
structure RpS (K : PySem.W.Frag) (H : Hp) (σ : St) (g : Ga) : Prop where
  len : σ.length = g.length
  get : ∀ (i : Nat) (d : D), g[i]? = some (some d) → ∃ v, σ[i]? = some (some v) ∧ Rp K H v d
section
variable {K : PySem.W.Frag} {H H' : Hp} {σ : St} {g : Ga}
theorem RpS.kp (k : Kp H H') (h : RpS K H σ g) : RpS K H' σ g := ⟨h.len, fun i d e => let ⟨v, a, b⟩ := h.get i d e; ⟨v, a, b.kp k⟩⟩
theorem RpS.set (h : RpS K H σ g) (i : Nat) {v : V} {d : D} (r : Rp K H v d) : RpS K H (σ.set i (some v)) (g.set i (some d)) := by
  refine ⟨by rw [List.length_set, List.length_set]; exact h.len, fun j e q => ?_⟩
  by_cases hj : i = j
  · subst hj
    by_cases hl : i < g.length
    · rw [List.getElem?_set_self hl] at q
      cases q
      exact ⟨v, by rw [List.getElem?_set_self (by rw [h.len]; exact hl)], r⟩
    · rw [List.getElem?_eq_none (by rw [List.length_set]; omega)] at q; cases q
  · rw [List.getElem?_set_ne hj] at q
    obtain ⟨u, a, b⟩ := h.get j e q
    exact ⟨u, by rw [List.getElem?_set_ne hj]; exact a, b⟩
/-- forgetting -/
def Less (g' g : Ga) : Prop := g'.length = g.length ∧ ∀ (i : Nat) (d : D), g'[i]? = some (some d) → g[i]? = some (some d)
theorem RpS.weak {g' : Ga} (h : RpS K H σ g) (l : Less g' g) : RpS K H σ g' := ⟨h.len.trans l.1.symm, fun i d e => h.get i d (l.2 i d e)⟩
def lessB : Ga → Ga → Prop
  | [], [] => True
  | none :: g', _ :: g => lessB g' g
  | some d :: g', x :: g => x = some d ∧ lessB g' g
  | _, _ => False
theorem less_of : ∀ {g' g : Ga}, lessB g' g → Less g' g
  | [], [], _ => ⟨rfl, fun _ _ h => h⟩
  | none :: g', x :: g, h => by
    obtain ⟨a, b⟩ := less_of (g' := g') (g := g) h
    refine ⟨by rw [List.length_cons, List.length_cons, a], fun i d e => ?_⟩
    cases i with
    | zero => simp at e
    | succ i => simpa using b i d (by simpa using e)
  | some y :: g', x :: g, h => by
    obtain ⟨rfl, h⟩ := h
    obtain ⟨a, b⟩ := less_of (g' := g') (g := g) h
    refine ⟨by rw [List.length_cons, List.length_cons, a], fun i d e => ?_⟩
    cases i with
    | zero => simpa using e
    | succ i => simpa using b i d (by simpa using e)
def startD (n : Nat) (ds : List D) : Ga := ds.map some ++ List.replicate (n - ds.length) none
theorem rpS_start {N : List Str} {vs : List V} {ds : List D} (h : RpAll K H vs ds) : RpS K H (start N vs) (startD N.length ds) := by
  have hl := h.length
  refine ⟨by unfold L2.start startD; rw [List.length_append, List.length_append, List.length_map, List.length_map, List.length_replicate, List.length_replicate, hl], fun i d e => ?_⟩
  unfold startD at e
  unfold L2.start
  by_cases hi : i < ds.length
  · rw [List.getElem?_append_left (by rw [List.length_map]; exact hi), List.getElem?_map] at e
    have e2 : ds[i]? = some d := by
      cases q : ds[i]? with
      | none => rw [q] at e; cases e
      | some x => rw [q] at e; exact congrArg some (Option.some.inj (Option.some.inj e))
    obtain ⟨v, a, b⟩ := h.get e2
    refine ⟨v, ?_, b⟩
    rw [List.getElem?_append_left (by rw [List.length_map, hl]; exact hi), List.getElem?_map, a]
    rfl
  · rw [List.getElem?_append_right (by rw [List.length_map]; omega)] at e
    obtain ⟨h1, h2⟩ := List.getElem?_eq_some_iff.mp e
    rw [List.getElem_replicate] at h2
    cases h2
end

/-- what an exception of the class at C may mean -/
abbrev XCt := Addr → Om → Prop
def EL (K : PySem.W.Frag) (H : Hp) (E : XK) (XC : XCt) : Prop := ∀ (C : Addr) (H' : Hp) (W' : Om), Kp H H' → HpOk K H' W' → XC C W' → E (.ref C) none H'
theorem EL.kp {K : PySem.W.Frag} {H H' : Hp} {E : XK} {XC : XCt} (k : Kp H H') (h : EL K H E XC) : EL K H' E XC := fun C H2 W2 k2 => h C H2 W2 (k.trans k2)
abbrev XC0 : XCt := fun _ _ => False
theorem el0 {K : PySem.W.Frag} {H : Hp} {E : XK} : EL K H E XC0 := fun _ _ _ _ _ h => h.elim
/-- what is wanted of a value -/
abbrev OD := D → Om → Prop
def QL (K : PySem.W.Frag) (H : Hp) (O : OD) (Q : VK) : Prop := ∀ (v : V) (H' : Hp) (d : D) (W' : Om), Kp H H' → HpOk K H' W' → Rp K H' v d → O d W' → Q v H'
theorem QL.kp {K : PySem.W.Frag} {H H' : Hp} {O : OD} {Q : VK} (k : Kp H H') (h : QL K H O Q) : QL K H' O Q := fun v H2 d W2 k2 => h v H2 d W2 (k.trans k2)

/-- an expression's reading over data -/
def Ex (K : PySem.W.Frag) (E : XK) (XC : XCt) (t : TE) (g : Ga) (W : Om) (O : OD) : Prop :=
  ∀ (σ : St) (H : Hp), RpS K H σ g → HpOk K H W → EL K H E XC → ∀ Q : VK, QL K H O Q → t σ H Q
def ExT (K : PySem.W.Frag) (E : XK) (XC : XCt) (t : TT) (g : Ga) (W : Om) (O : Bool → Om → Prop) : Prop :=
  ∀ (σ : St) (H : Hp), RpS K H σ g → HpOk K H W → EL K H E XC → ∀ Q : Bool → Hp → Prop, (∀ b H' W', Kp H H' → HpOk K H' W' → O b W' → Q b H') → t σ H Q
def ExA (K : PySem.W.Frag) (E : XK) (XC : XCt) (t : TA) (g : Ga) (W : Om) (O : List D → Om → Prop) : Prop :=
  ∀ (σ : St) (H : Hp), RpS K H σ g → HpOk K H W → EL K H E XC → ∀ Q : List V → Hp → Prop, (∀ vs H' ds W', Kp H H' → HpOk K H' W' → RpAll K H' vs ds → O ds W' → Q vs H') → t σ H Q
/-- what is wanted behind a statement -/
structure EndD where
  nx : Ga → Om → Prop
  rt : OD
  bk : Ga → Om → Prop := fun _ _ => False
  ct : Ga → Om → Prop := fun _ _ => False
def SL (K : PySem.W.Frag) (H : Hp) (O : Ga → Om → Prop) (Q : St → Hp → Prop) : Prop := ∀ (σ : St) (H' : Hp) (g : Ga) (W' : Om), Kp H H' → HpOk K H' W' → RpS K H' σ g → O g W' → Q σ H'
theorem SL.kp {K : PySem.W.Frag} {H H' : Hp} {O : Ga → Om → Prop} {Q : St → Hp → Prop} (k : Kp H H') (h : SL K H O Q) : SL K H' O Q := fun v H2 d W2 k2 => h v H2 d W2 (k.trans k2)
structure Lk (K : PySem.W.Frag) (H : Hp) (C : EndD) (D : Ends) : Prop where
  nx : SL K H C.nx D.nx
  rt : QL K H C.rt D.rt
  bk : SL K H C.bk D.bk
  ct : SL K H C.ct D.ct
theorem Lk.kp {K : PySem.W.Frag} {H H' : Hp} {C : EndD} {D : Ends} (k : Kp H H') (h : Lk K H C D) : Lk K H' C D := ⟨h.nx.kp k, h.rt.kp k, h.bk.kp k, h.ct.kp k⟩
def Do (K : PySem.W.Frag) (E : XK) (XC : XCt) (t : TS) (g : Ga) (W : Om) (C : EndD) : Prop :=
  ∀ (D : Ends) (σ : St) (H : Hp), RpS K H σ g → HpOk K H W → EL K H E XC → Lk K H C D → t D σ H

/-! ### the weakest readings -/
def tW (X : Cx) (e : Expr) : TE := fun σ H Q => ∀ (pins : List (Addr × Obj)) (s : Shared), Inv X pins σ H s → wpAny (model X.prog X.w) X.A (eval e X.env) (EP X pins σ Q) X.xe s
theorem pe_W {X : Cx} {e : Expr} : PE X e (tW X e) := ⟨fun pins s σ H Q I h => h pins s I⟩
def ttW (X : Cx) (e : Expr) : TT := fun σ H Q => ∀ (pins : List (Addr × Obj)) (s : Shared), Inv X pins σ H s → wpAny (model X.prog X.w) X.A (isTrue e X.env (eval e X.env)) (TP X pins σ Q) X.xe s
theorem pt_W {X : Cx} {e : Expr} : PT X e (ttW X e) := ⟨fun pins s σ H Q I h => h pins s I⟩
def twW (X : Cx) (e : Expr) : TT := fun σ H Q => ∀ (whole : Sem Value) (pins : List (Addr × Obj)) (s : Shared), Inv X pins σ H s → wpAny (model X.prog X.w) X.A (isTrue e X.env whole) (TP X pins σ Q) X.xe s
theorem pw_W {X : Cx} {e : Expr} : PW X e (twW X e) := ⟨fun whole pins s σ H Q I h => h whole pins s I⟩
def taW (X : Cx) (es : List Expr) : TA := fun σ H Q => ∀ (pos : Pos) (pins : List (Addr × Obj)) (s : Shared), Inv X pins σ H s → wpAny (model X.prog X.w) X.A (spliced (backTo pos (starEach es X.env))) (AP X pins σ Q) X.xe s
theorem pa_W {X : Cx} {es : List Expr} : PA X es (taW X es) := ⟨fun pos pins s σ H Q I h => h pos pins s I⟩
def tsW (X : Cx) (st : Stmt) : TS := fun D σ H => ∀ (pins : List (Addr × Obj)) (s : Shared), Inv X pins σ H s → wpAny (model X.prog X.w) X.A (exec st X.env) (SP X pins D) X.xe s
theorem ps_W {X : Cx} {st : Stmt} : PS X st (tsW X st) := ⟨fun pins s σ H D I h => h pins s I⟩
def tssW (X : Cx) (st : List Stmt) : TS := fun D σ H => ∀ (pins : List (Addr × Obj)) (s : Shared), Inv X pins σ H s → wpAny (model X.prog X.w) X.A (execs st X.env) (SP X pins D) X.xe s
theorem pss_W {X : Cx} {st : List Stmt} : PSs X st (tssW X st) := ⟨fun pins s σ H D I h => h pins s I⟩

/-! ### the judgements over the text -/
def XE (X : Cx) (E : XK) (XC : XCt) (e : Expr) (g : Ga) (W : Om) (O : OD) : Prop := Ex X.K E XC (tW X e) g W O
def XT (X : Cx) (E : XK) (XC : XCt) (e : Expr) (g : Ga) (W : Om) (O : Bool → Om → Prop) : Prop := ExT X.K E XC (ttW X e) g W O
def XW (X : Cx) (E : XK) (XC : XCt) (e : Expr) (g : Ga) (W : Om) (O : Bool → Om → Prop) : Prop := ExT X.K E XC (twW X e) g W O
def XA (X : Cx) (E : XK) (XC : XCt) (es : List Expr) (g : Ga) (W : Om) (O : List D → Om → Prop) : Prop := ExA X.K E XC (taW X es) g W O
def XS (X : Cx) (E : XK) (XC : XCt) (st : Stmt) (g : Ga) (W : Om) (C : EndD) : Prop := Do X.K E XC (tsW X st) g W C
def XB (X : Cx) (E : XK) (XC : XCt) (st : List Stmt) (g : Ga) (W : Om) (C : EndD) : Prop := Do X.K E XC (tssW X st) g W C
section
variable {X : Cx} {E : XK} {XC : XCt} {g : Ga} {W : Om}
theorem xe_of {e : Expr} {t : TE} {O : OD} (h : PE X e t) (x : Ex X.K E XC t g W O) : XE X E XC e g W O := fun σ H r k el Q q pins s I => h.run pins s σ H Q I (x σ H r k el Q q)
theorem xt_of {e : Expr} {t : TT} {O : Bool → Om → Prop} (h : PT X e t) (x : ExT X.K E XC t g W O) : XT X E XC e g W O := fun σ H r k el Q q pins s I => h.run pins s σ H Q I (x σ H r k el Q q)
theorem xw_of {e : Expr} {t : TT} {O : Bool → Om → Prop} (h : PW X e t) (x : ExT X.K E XC t g W O) : XW X E XC e g W O := fun σ H r k el Q q whole pins s I => h.run whole pins s σ H Q I (x σ H r k el Q q)
theorem xa_of {es : List Expr} {t : TA} {O : List D → Om → Prop} (h : PA X es t) (x : ExA X.K E XC t g W O) : XA X E XC es g W O := fun σ H r k el Q q pos pins s I => h.run pos pins s σ H Q I (x σ H r k el Q q)
theorem xs_of {st : Stmt} {t : TS} {C : EndD} (h : PS X st t) (x : Do X.K E XC t g W C) : XS X E XC st g W C := fun D σ H r k el l pins s I => h.run pins s σ H D I (x D σ H r k el l)
theorem xb_of {st : List Stmt} {t : TS} {C : EndD} (h : PSs X st t) (x : Do X.K E XC t g W C) : XB X E XC st g W C := fun D σ H r k el l pins s I => h.run pins s σ H D I (x D σ H r k el l)

/-! ### names, constants -/
theorem xe_name (i : Nat) {x : Str} {pos : Pos} {d : D} {O : OD} (hg : g[i]? = some (some d)) (h : O d W) (hN : X.N[i]? = some x := by rfl)
    (hv : Vis X.env.scope x := by first | exact Or.inl rfl | exact Or.inr (Or.inl rfl) | exact Or.inr (Or.inr rfl)) (hd : (x == ("__debug__" : Str)) = false := by decide)
    (hcd : (x == ("__classdict__" : Str)) = false := by decide) : XE X E XC (.Name x pos) g W O := by
  refine xe_of (pe_var hN hv hd hcd) fun σ H r k el Q q => ?_
  obtain ⟨v, a, b⟩ := r.get i d hg
  exact ⟨v, a, q v H d W (Kp.refl H) k b h⟩
theorem xe_int {i j pos} {O : OD} (h : O (.int i) W) : XE X E XC (.Constant (.int i) j pos) g W O := xe_of pe_int fun σ H r k el Q q => q _ H _ W (Kp.refl H) k (.int i) h
theorem xe_bl {i j pos} {O : OD} (h : O (.bl i) W) : XE X E XC (.Constant (.bool i) j pos) g W O := xe_of pe_bl fun σ H r k el Q q => q _ H _ W (Kp.refl H) k (.bl i) h
theorem xe_str {i j pos} {O : OD} (h : O (.str i) W) : XE X E XC (.Constant (.str i) j pos) g W O := xe_of pe_str fun σ H r k el Q q => q _ H _ W (Kp.refl H) k (.str i) h
theorem xe_non {j pos} {O : OD} (h : O .non W) : XE X E XC (.Constant .none j pos) g W O := xe_of pe_non fun σ H r k el Q q => q _ H _ W (Kp.refl H) k .non h
/-- a built-in class as a value -/
theorem xe_ty {x : Str} {n : String} {pos : Pos} {O : OD} (hm : X.mg x = none) (hv : bootBuiltins x = some (.type n)) (h : O (.ty n) W) (hg : Gl X x := by rfl) (hn : x ≠ "__name__" := by decide) (hd : (x == ("__debug__" : Str)) = false := by decide) : XE X E XC (.Name x pos) g W O :=
  xe_of (pe_bltn (v := .ty n) hg hm hv rfl hn hd) fun σ H r k el Q q => q _ H _ W (Kp.refl H) k (.ty n) h
/-- a def or a class of the text as a value -/
theorem xe_glob {x : Str} {a : Addr} {pos : Pos} {O : OD} (hm : X.mg x = some (.ref a)) (h : O (.p a) W) (hg : Gl X x := by rfl) (hd : (x == ("__debug__" : Str)) = false := by decide) : XE X E XC (.Name x pos) g W O :=
  xe_of (pe_glob (v := .ref a) hg hm rfl hd) fun σ H r k el Q q => q _ H _ W (Kp.refl H) k (.p a) h

/-! ### arguments -/
theorem xa_nil {O : List D → Om → Prop} (h : O [] W) : XA X E XC [] g W O := xa_of pa_nil fun σ H r k el Q q => q [] H [] W (Kp.refl H) k .nil h
theorem xa_cons {e : Expr} {es : List Expr} {O : List D → Om → Prop} (h : XE X E XC e g W fun d W1 => XA X E XC es g W1 fun ds W2 => O (d :: ds) W2)
    (hs : starEach (e :: es) X.env = (false, eval e X.env) :: starEach es X.env := by rfl) : XA X E XC (e :: es) g W O := by
  refine xa_of (pa_cons pe_W pa_W hs) fun σ H r k el Q q => ?_
  refine h σ H r k el _ fun v H1 d W1 k1 o1 r1 h1 => ?_
  refine h1 σ H1 (r.kp k1) o1 (el.kp k1) _ fun vs H2 ds W2 k2 o2 r2 h2 => ?_
  exact q _ H2 _ W2 (k1.trans k2) o2 (.cons (r1.kp k2) r2) h2
theorem xe_tup {es : List Expr} {x1} {pos : Pos} {O : OD} (h : XA X E XC es g W fun ds W1 => ds.length ≤ 1000 ∧ O (.tup ds) W1) : XE X E XC (.Tuple es x1 pos) g W O := by
  refine xe_of (pe_tup pa_W) fun σ H r k el Q q => ?_
  refine h σ H r k el _ fun vs H1 ds W1 k1 o1 r1 ⟨hz, h1⟩ => ⟨?_, fun p hp => ?_⟩
  · rw [r1.length]; exact Nat.le_of_lt (small1000 hz)
  · exact q _ _ _ W1 (k1.trans (Kp.new hp)) (o1.more hp) (.tup upd_same (r1.kp (Kp.new hp))) h1
theorem xe_lst {es : List Expr} {pos : Pos} {O : OD} (h : XA X E XC es g W fun ds W1 => ds.length ≤ 1000 ∧ ∀ l, W1 l = none → O (.p l) (updO W1 l (.lst ds))) : XE X E XC (.List es pos) g W O := by
  refine xe_of (pe_lst pa_W) fun σ H r k el Q q => ?_
  refine h σ H r k el _ fun vs H1 ds W1 k1 o1 r1 ⟨hz, h1⟩ => ⟨?_, fun p hp => ?_⟩
  · rw [r1.length]; exact Nat.le_of_lt (small1000 hz)
  · exact q _ _ _ _ (k1.trans (Kp.new hp)) (o1.new (o := .lst ds) hp ⟨vs, upd_same, r1.kp (Kp.new hp)⟩) (.p p) (h1 p (o1.free hp))
end
end SR
namespace SR
open PySem PySem.Spec PyProof.Rows L2
abbrev R2D := D → D → Om → OD → Prop
/-- a two-place operation over data -/
def Op2 (K : PySem.W.Frag) (r : R2) (rD : R2D) : Prop := ∀ (x y : V) (d e : D) (H : Hp) (W : Om) (O : OD) (Q : VK), Rp K H x d → Rp K H y e → HpOk K H W → QL K H O Q → rD d e W O → r x y H Q
section
variable {X : Cx} {E : XK} {XC : XCt} {g : Ga} {W : Om} {a b c : Expr} {pos : Pos} {O : OD}
theorem ex_op {K : PySem.W.Frag} {r : R2} {rD : R2D} {ta tb : TE} (ho : Op2 K r rD) (h : Ex K E XC ta g W fun d W1 => Ex K E XC tb g W1 fun e W2 => rD d e W2 O) : Ex K E XC (tOp r ta tb) g W O := by
  intro σ H r0 k el Q q
  refine h σ H r0 k el _ fun x H1 d W1 k1 o1 r1 h1 => ?_
  refine h1 σ H1 (r0.kp k1) o1 (el.kp k1) _ fun y H2 e W2 k2 o2 r2 h2 => ?_
  exact ho x y d e H2 W2 O Q (r1.kp k2) r2 o2 (q.kp (k1.trans k2)) h2

/-! ### + -/
def AddD : R2D := fun d e W O => match d, e with
  | .int i, .int j => O (.int (i + j)) W
  | .tup xs, .tup ys => xs.length + ys.length ≤ 1000 ∧ O (.tup (xs ++ ys)) W
  | .str x, .str y => x.length + y.length ≤ 1000 ∧ O (.str (x ++ y)) W
  | .p l, .p m => ∃ xs ys, W l = some (.lst xs) ∧ W m = some (.lst ys) ∧ xs.length + ys.length ≤ sizeLine ∧ ∀ p, W p = none → O (.p p) (updO W p (.lst (xs ++ ys)))
  | _, _ => False
def rAddA (K : PySem.W.Frag) : R2 := fun x y H Q => (∃ i j, x = .int i ∧ y = .int j ∧ Q (.int (i + j)) H) ∨ rCatA K x y H Q ∨ (∃ i j, x = .str i ∧ y = .str j ∧ i.length + j.length ≤ sizeLine ∧ Q (.str (i ++ j)) H) ∨ rCat x y H Q
theorem le1000 {n : Nat} (h : n ≤ 1000) : n ≤ sizeLine := Nat.le_of_lt (small1000 h)
theorem op2_add (K : PySem.W.Frag) : Op2 K (rAddA K) AddD := by
  intro x y d e H W O Q rx ry o q h
  cases rx with
  | int i =>
    cases ry with
    | int j => exact .inl ⟨i, j, rfl, rfl, q _ H _ W (Kp.refl H) o (.int _) h⟩
    | _ => exact False.elim h
  | str i =>
    cases ry with
    | str j => exact .inr (.inr (.inl ⟨i, j, rfl, rfl, le1000 h.1, q _ H _ W (Kp.refl H) o (.str _) h.2⟩))
    | _ => exact False.elim h
  | @tup l xs ds hl hx =>
    cases ry with
    | @tup m ys es hm hy =>
      obtain ⟨hz, h⟩ := h
      refine .inr (.inl ⟨l, m, xs, ys, rfl, rfl, .of hl, .of hm, by rw [hx.length, hy.length]; exact le1000 hz, fun e => ?_, fun _ e => ?_, fun _ _ p hp => ?_⟩)
      · subst e
        cases hx
        exact q _ H _ W (Kp.refl H) o (.tup hm hy) h
      · subst e
        cases hy
        exact q _ H _ W (Kp.refl H) o (.tup hl (by rw [List.append_nil]; exact hx)) h
      · exact q _ _ _ W (Kp.new hp) (o.more hp) (.tup upd_same ((hx.append hy).kp (Kp.new hp))) h
    | _ => exact False.elim h
  | p l =>
    cases ry with
    | p m =>
      obtain ⟨ds, es, hl, hm, hz, h⟩ := h
      obtain ⟨xs, h1, r1⟩ := o l _ hl
      obtain ⟨ys, h2, r2⟩ := o m _ hm
      refine .inr (.inr (.inr ⟨l, m, xs, ys, rfl, rfl, h1, h2, by rw [r1.length, r2.length]; exact hz, fun p hp => ?_⟩))
      exact q _ _ _ _ (Kp.new hp) (o.new (o := .lst (ds ++ es)) hp ⟨_, upd_same, (r1.append r2).kp (Kp.new hp)⟩) (.p p) (h p (o.free hp))
    | _ => exact False.elim h
  | _ => exact False.elim (by cases ry <;> exact h)
theorem xe_add (h : XE X E XC a g W fun d W1 => XE X E XC b g W1 fun e W2 => AddD d e W2 O) : XE X E XC (.BinOp a .Add b pos) g W O :=
  xe_of (pe_op (r := rAddA X.K) (op_add.or (op_catA.or (op_add_str.or op_cat))) pe_W pe_W) (ex_op (op2_add X.K) h)
/-! ### -, //, %, ** of ints -/
def SubD : R2D := fun d e W O => match d, e with
  | .int i, .int j => O (.int (i - j)) W
  | _, _ => False
theorem op2_int {K : PySem.W.Frag} {C : Int → Int → Prop} {f : Int → Int → Int} : Op2 K (rI C fun i j => .int (f i j)) (fun d e W O => ∃ i j, d = .int i ∧ e = .int j ∧ C i j ∧ O (.int (f i j)) W) := by
  intro x y d e H W O Q rx ry o q ⟨i, j, e1, e2, hc, h⟩
  subst e1 e2
  cases rx
  cases ry
  exact ⟨i, j, rfl, rfl, hc, q _ H _ W (Kp.refl H) o (.int _) h⟩
theorem op2_int0 {K : PySem.W.Frag} {f : Int → Int → Int} : Op2 K (rI0 fun i j => .int (f i j)) (fun d e W O => ∃ i j, d = .int i ∧ e = .int j ∧ O (.int (f i j)) W) := by
  intro x y d e H W O Q rx ry o q ⟨i, j, e1, e2, h⟩
  subst e1 e2
  cases rx
  cases ry
  exact ⟨i, j, rfl, rfl, q _ H _ W (Kp.refl H) o (.int _) h⟩
theorem op2_bl0 {K : PySem.W.Frag} {f : Int → Int → Bool} : Op2 K (rI0 fun i j => .bl (f i j)) (fun d e W O => ∃ i j, d = .int i ∧ e = .int j ∧ O (.bl (f i j)) W) := by
  intro x y d e H W O Q rx ry o q ⟨i, j, e1, e2, h⟩
  subst e1 e2
  cases rx
  cases ry
  exact ⟨i, j, rfl, rfl, q _ H _ W (Kp.refl H) o (.bl _) h⟩
theorem xe_sub (h : XE X E XC a g W fun d W1 => XE X E XC b g W1 fun e W2 => ∃ i j, d = .int i ∧ e = .int j ∧ O (.int (i - j)) W2) : XE X E XC (.BinOp a .Sub b pos) g W O :=
  xe_of (pe_op op_sub pe_W pe_W) (ex_op op2_int0 h)
theorem xe_div (h : XE X E XC a g W fun d W1 => XE X E XC b g W1 fun e W2 => ∃ i j, d = .int i ∧ e = .int j ∧ CDiv i j ∧ O (.int (i / j)) W2) : XE X E XC (.BinOp a .FloorDiv b pos) g W O :=
  xe_of (pe_op op_fdiv pe_W pe_W) (ex_op op2_int h)
theorem xe_mod (h : XE X E XC a g W fun d W1 => XE X E XC b g W1 fun e W2 => ∃ i j, d = .int i ∧ e = .int j ∧ 0 < j ∧ O (.int (i % j)) W2) : XE X E XC (.BinOp a .Mod b pos) g W O :=
  xe_of (pe_op op_mod pe_W pe_W) (ex_op op2_int h)
theorem xe_pow (h : XE X E XC a g W fun d W1 => XE X E XC b g W1 fun e W2 => ∃ i j, d = .int i ∧ e = .int j ∧ CPow i j ∧ O (.int (i ^ j.toNat)) W2) : XE X E XC (.BinOp a .Pow b pos) g W O :=
  xe_of (pe_op op_pow pe_W pe_W) (ex_op op2_int h)
theorem xe_mul (h : XE X E XC a g W fun d W1 => XE X E XC b g W1 fun e W2 => ∃ i j, d = .int i ∧ e = .int j ∧ CMul i j ∧ O (.int (i * j)) W2) : XE X E XC (.BinOp a .Mult b pos) g W O :=
  xe_of (pe_op op_mul pe_W pe_W) (ex_op op2_int h)
theorem xe_neg {O : OD} (h : XE X E XC a g W fun d W1 => ∃ i, d = .int i ∧ O (.int (-i)) W1) : XE X E XC (.UnaryOp .USub a pos) g W O := by
  refine xe_of (pe_un un_neg pe_W) fun σ H r k el Q q => ?_
  refine h σ H r k el _ fun x H1 d W1 k1 o1 r1 ⟨i, e, h1⟩ => ?_
  subst e
  cases r1
  exact ⟨i, rfl, q _ H1 _ W1 k1 o1 (.int _) h1⟩

/-! ### comparisons of ints -/
def cmpI : CmpOp → Int → Int → Option Bool
  | .Lt, i, j => some (decide (i < j))
  | .LtE, i, j => some (decide (i ≤ j))
  | .Gt, i, j => some (decide (j < i))
  | .GtE, i, j => some (decide (j ≤ i))
  | _, _, _ => none
/-- what a comparison asks: of ints an answer -/
def CmpD (op : CmpOp) : R2D := fun d e W O => ∃ i j r, d = .int i ∧ e = .int j ∧ cmpI op i j = some r ∧ O (.bl r) W
theorem cmp_opR {X : Cx} (op : CmpOp) (h : op = .Lt ∨ op = .LtE ∨ op = .Gt ∨ op = .GtE) : ∃ r : R2, OpR X (compareOp op) r ∧ Op2 X.K r (CmpD op) := by
  rcases h with rfl | rfl | rfl | rfl
  · refine ⟨_, op_lt, fun x y d e H W O Q rx ry o q ⟨i, j, r, e1, e2, hc, h⟩ => ?_⟩
    cases hc
    exact op2_bl0 x y d e H W O Q rx ry o q ⟨i, j, e1, e2, h⟩
  · refine ⟨_, op_le, fun x y d e H W O Q rx ry o q ⟨i, j, r, e1, e2, hc, h⟩ => ?_⟩
    cases hc
    exact op2_bl0 x y d e H W O Q rx ry o q ⟨i, j, e1, e2, h⟩
  · refine ⟨_, op_gt, fun x y d e H W O Q rx ry o q ⟨i, j, r, e1, e2, hc, h⟩ => ?_⟩
    cases hc
    exact op2_bl0 x y d e H W O Q rx ry o q ⟨i, j, e1, e2, h⟩
  · refine ⟨_, op_ge, fun x y d e H W O Q rx ry o q ⟨i, j, r, e1, e2, hc, h⟩ => ?_⟩
    cases hc
    exact op2_bl0 x y d e H W O Q rx ry o q ⟨i, j, e1, e2, h⟩
theorem ex_cmp {op : CmpOp} (hop : op = .Lt ∨ op = .LtE ∨ op = .Gt ∨ op = .GtE) (h : XE X E XC a g W fun d W1 => XE X E XC b g W1 fun e W2 => CmpD op d e W2 O) : XE X E XC (.Compare a [op] [b] pos) g W O := by
  obtain ⟨r, h1, h2⟩ := cmp_opR (X := X) op hop
  exact xe_of (pe_cmpR h1 pe_W pe_W (nomark _ (by rcases hop with rfl | rfl | rfl | rfl <;> decide) (by rcases hop with rfl | rfl | rfl | rfl <;> decide))) (ex_op h2 h)
/-- from a value to a test -/
abbrev asB (O : Bool → Om → Prop) : OD := fun d W => ∃ k, d = .bl k ∧ O k W
theorem exT_test {K : PySem.W.Frag} {t : TE} {O : Bool → Om → Prop} (h : Ex K E XC t g W (asB O)) : ExT K E XC (tTest t) g W O := by
  intro σ H r k el Q q
  refine h σ H r k el _ fun x H1 d W1 k1 o1 r1 ⟨c, e, h1⟩ => ?_
  subst e
  cases r1
  exact ⟨c, rfl, q c H1 W1 k1 o1 h1⟩
theorem xt_cmp {op : CmpOp} {O : Bool → Om → Prop} (hop : op = .Lt ∨ op = .LtE ∨ op = .Gt ∨ op = .GtE) (h : XE X E XC a g W fun d W1 => XE X E XC b g W1 fun e W2 => CmpD op d e W2 (asB O)) : XT X E XC (.Compare a [op] [b] pos) g W O := by
  obtain ⟨r, h1, h2⟩ := cmp_opR (X := X) op hop
  exact xt_of (pt_cmpR h1 pe_W pe_W (nomark _ (by rcases hop with rfl | rfl | rfl | rfl <;> decide) (by rcases hop with rfl | rfl | rfl | rfl <;> decide))) (exT_test (ex_op h2 h))
/-- low <= x <= high -/
theorem xe_chain (h : XE X E XC a g W fun d W1 => XE X E XC b g W1 fun e W2 => ∃ i j, d = .int i ∧ e = .int j ∧ (i ≤ j → XE X E XC c g W2 fun f W3 => ∃ k, f = .int k ∧ O (.bl (decide (j ≤ k))) W3) ∧ (¬ i ≤ j → O (.bl false) W2))
    (hm : lastMarks [.LtE, .LtE] [b, c] = false := by with_unfolding_all rfl) : XE X E XC (.Compare a [.LtE, .LtE] [b, c] pos) g W O := by
  refine xe_of (pe_chain op_le op_le pe_W pe_W pe_W hm) fun σ H r k el Q q => ?_
  refine h σ H r k el _ fun x H1 d W1 k1 o1 r1 h1 => ?_
  refine h1 σ H1 (r.kp k1) o1 (el.kp k1) _ fun y H2 e W2 k2 o2 r2 ⟨i, j, e1, e2, ha, hb⟩ => ?_
  subst e1 e2
  cases r1
  cases r2
  refine ⟨i, j, rfl, rfl, decide (i ≤ j), rfl, ?_⟩
  by_cases hij : i ≤ j
  · rw [if_pos (decide_eq_true hij)]
    refine ha hij σ H2 ((r.kp k1).kp k2) o2 ((el.kp k1).kp k2) _ fun z H3 f W3 k3 o3 r3 ⟨m, e3, h3⟩ => ?_
    subst e3
    cases r3
    exact ⟨j, m, rfl, rfl, q _ H3 _ W3 ((k1.trans k2).trans k3) o3 (.bl _) h3⟩
  · rw [decide_eq_false hij, if_neg Bool.false_ne_true]
    exact q _ H2 _ W2 (k1.trans k2) o2 (.bl _) (hb hij)

/-! ### == and != -/
mutual
/-- as plain data -/
def toP : D → Option PyData
  | .non => some .none
  | .bl b => some (.bool b)
  | .int i => some (.int i)
  | .str x => some (.str x)
  | .tup xs => (toPs xs).map .tuple
  | .scr _ ns => some (.list (ns.map PyData.int))
  | _ => none
def toPs : List D → Option (List PyData)
  | [] => some []
  | x :: xs => match toP x, toPs xs with
    | some y, some ys => some (y :: ys)
    | _, _ => none
end
/-- the data of a value where a list of plain items may stand at the top -/
def topP (W : Om) : D → Option PyData
  | .p a => match W a with
    | some (.lst ds) => (toPs ds).map .list
    | _ => none
  | d => toP d
theorem dpAll_ints {K : PySem.W.Frag} {H : Hp} : ∀ ns : List Int, DpAll K H (ns.map V.int) (ns.map PyData.int)
  | [] => .nil
  | n :: r => .cons (.int n) (dpAll_ints r)
mutual
theorem toP_dp {K : PySem.W.Frag} {H : Hp} : ∀ {d : D} {v : V} {y : PyData}, toP d = some y → Rp K H v d → Dp K H v y
  | .non, _, _, e, .non => by simp only [toP, Option.some.injEq] at e; subst e; exact .non
  | .bl b, _, _, e, .bl _ => by simp only [toP, Option.some.injEq] at e; subst e; exact .bl b
  | .int b, _, _, e, .int _ => by simp only [toP, Option.some.injEq] at e; subst e; exact .int b
  | .str b, _, _, e, .str _ => by simp only [toP, Option.some.injEq] at e; subst e; exact .str b
  | .tup xs, _, y, e, .tup h r => by
    simp only [toP] at e
    cases q : toPs xs with
    | none => rw [q] at e; cases e
    | some ys =>
      rw [q] at e
      simp only [Option.map_some, Option.some.injEq] at e
      subst e
      exact .tup (.of h) (toPs_dp q r)
  | .scr _ ns, _, _, e, .scr h => by
    simp only [toP, Option.some.injEq] at e
    subst e
    exact .lst h.sq (dpAll_ints ns)
  | .ty _, _, _, e, _ => by simp [toP] at e
  | .p _, _, _, e, _ => by simp [toP] at e
  | .exc _ _, _, _, e, _ => by simp [toP] at e
theorem toPs_dp {K : PySem.W.Frag} {H : Hp} : ∀ {ds : List D} {vs : List V} {ys : List PyData}, toPs ds = some ys → RpAll K H vs ds → DpAll K H vs ys
  | [], _, _, e, .nil => by simp only [toPs, Option.some.injEq] at e; subst e; exact .nil
  | d :: ds, _, ys, e, .cons h r => by
    simp only [toPs] at e
    split at e
    · rename_i y zs e1 e2
      simp only [Option.some.injEq] at e
      subst e
      exact .cons (toP_dp e1 h) (toPs_dp e2 r)
    · cases e
end
theorem topP_dp {K : PySem.W.Frag} {H : Hp} {d : D} {v : V} {y : PyData} (o : HpOk K H W) (e : topP W d = some y) (r : Rp K H v d) : Dp K H v y := by
  cases r with
  | p a =>
    simp only [topP] at e
    split at e
    · rename_i ds q
      obtain ⟨xs, h1, h2⟩ := o a _ q
      cases q2 : toPs ds with
      | none => rw [q2] at e; cases e
      | some ys =>
        rw [q2] at e
        simp only [Option.map_some, Option.some.injEq] at e
        subst e
        exact .lst (.of h1) (toPs_dp q2 h2)
    · cases e
  | non => exact toP_dp e .non
  | bl b => exact toP_dp e (.bl b)
  | int b => exact toP_dp e (.int b)
  | str b => exact toP_dp e (.str b)
  | ty b => simp [topP, toP] at e
  | scr h => exact toP_dp e (.scr h)
  | tup h h2 => exact toP_dp e (.tup h h2)
  | exc _ _ _ _ => simp [topP, toP] at e
/-- == -/
def EqD : R2D := fun d e W O => ∃ y z, topP W d = some y ∧ topP W e = some z ∧ SeqAt.shaped y = true ∧ SeqAt.shaped z = true ∧ O (.bl (PyData.eqv y z)) W
def NeD : R2D := fun d e W O => ∃ y z, topP W d = some y ∧ topP W e = some z ∧ SeqAt.shaped y = true ∧ SeqAt.shaped z = true ∧ O (.bl (!PyData.eqv y z)) W
theorem op2_eq (K : PySem.W.Frag) : Op2 K (rEqD K) EqD := fun x y d e H W O Q rx ry o q ⟨y1, z1, h1, h2, h3, h4, h⟩ =>
  ⟨y1, z1, topP_dp o h1 rx, topP_dp o h2 ry, h3, h4, q _ H _ W (Kp.refl H) o (.bl _) h⟩
theorem op2_ne (K : PySem.W.Frag) : Op2 K (rNeD K) NeD := fun x y d e H W O Q rx ry o q ⟨y1, z1, h1, h2, h3, h4, h⟩ =>
  ⟨y1, z1, topP_dp o h1 rx, topP_dp o h2 ry, h3, h4, q _ H _ W (Kp.refl H) o (.bl _) h⟩
theorem xe_eq (hu : X.A.units + 64 < cLine) (h : XE X E XC a g W fun d W1 => XE X E XC b g W1 fun e W2 => EqD d e W2 O) : XE X E XC (.Compare a [.Eq] [b] pos) g W O :=
  xe_of (pe_cmpR (op_eqD hu) pe_W pe_W (nomark _)) (ex_op (op2_eq X.K) h)
theorem xe_ne (hu : X.A.units + 64 < cLine) (h : XE X E XC a g W fun d W1 => XE X E XC b g W1 fun e W2 => NeD d e W2 O) : XE X E XC (.Compare a [.NotEq] [b] pos) g W O :=
  xe_of (pe_cmpR (op_neD hu) pe_W pe_W (nomark _)) (ex_op (op2_ne X.K) h)
theorem xt_eq {O : Bool → Om → Prop} (hu : X.A.units + 64 < cLine) (h : XE X E XC a g W fun d W1 => XE X E XC b g W1 fun e W2 => EqD d e W2 (asB O)) : XT X E XC (.Compare a [.Eq] [b] pos) g W O :=
  xt_of (pt_cmpR (op_eqD hu) pe_W pe_W (nomark _)) (exT_test (ex_op (op2_eq X.K) h))
theorem xt_ne {O : Bool → Om → Prop} (hu : X.A.units + 64 < cLine) (h : XE X E XC a g W fun d W1 => XE X E XC b g W1 fun e W2 => NeD d e W2 (asB O)) : XT X E XC (.Compare a [.NotEq] [b] pos) g W O :=
  xt_of (pt_cmpR (op_neD hu) pe_W pe_W (nomark _)) (exT_test (ex_op (op2_ne X.K) h))
/-! ### is None -/
def isNon : D → Bool
  | .non => true
  | _ => false
theorem rp_non {K : PySem.W.Frag} {H : Hp} {v : V} {d : D} (r : Rp K H v d) : decide (v = .non) = isNon d := by cases r <;> rfl
theorem op2_isN {K : PySem.W.Frag} : Op2 K (fun x y H Q => y = .non ∧ Q (.bl (decide (x = .non))) H) (fun d e W O => e = .non ∧ O (.bl (isNon d)) W) := by
  intro x y d e H W O Q rx ry o q ⟨e1, h⟩
  subst e1
  cases ry
  exact ⟨rfl, q _ H _ W (Kp.refl H) o (.bl _) (by rw [rp_non rx]; exact h)⟩
theorem op2_notN {K : PySem.W.Frag} : Op2 K (fun x y H Q => y = .non ∧ Q (.bl (!decide (x = .non))) H) (fun d e W O => e = .non ∧ O (.bl (!isNon d)) W) := by
  intro x y d e H W O Q rx ry o q ⟨e1, h⟩
  subst e1
  cases ry
  exact ⟨rfl, q _ H _ W (Kp.refl H) o (.bl _) (by rw [rp_non rx]; exact h)⟩
theorem xe_isN (h : XE X E XC a g W fun d W1 => XE X E XC b g W1 fun e W2 => e = .non ∧ O (.bl (isNon d)) W2) : XE X E XC (.Compare a [.Is] [b] pos) g W O :=
  xe_of (pe_cmpR op_isN pe_W pe_W (nomark _)) (ex_op op2_isN h)
theorem xe_notN (h : XE X E XC a g W fun d W1 => XE X E XC b g W1 fun e W2 => e = .non ∧ O (.bl (!isNon d)) W2) : XE X E XC (.Compare a [.IsNot] [b] pos) g W O :=
  xe_of (pe_cmpR op_notN pe_W pe_W (nomark _)) (ex_op op2_notN h)
theorem xt_isN {O : Bool → Om → Prop} (h : XE X E XC a g W fun d W1 => XE X E XC b g W1 fun e W2 => e = .non ∧ O (isNon d) W2) : XT X E XC (.Compare a [.Is] [b] pos) g W O := by
  refine xt_of (pt_cmpR op_isN pe_W pe_W (nomark _)) (exT_test (ex_op op2_isN ?_))
  intro σ H r k el Q q
  refine h σ H r k el _ fun x H1 d W1 k1 o1 r1 h1 => q x H1 d W1 k1 o1 r1 fun σ2 H2 r2 k2 el2 Q2 q2 => h1 σ2 H2 r2 k2 el2 _ fun y H3 e W3 k3 o3 r3 h3 => q2 y H3 e W3 k3 o3 r3 ⟨h3.1, _, rfl, h3.2⟩
theorem xt_notN {O : Bool → Om → Prop} (h : XE X E XC a g W fun d W1 => XE X E XC b g W1 fun e W2 => e = .non ∧ O (!isNon d) W2) : XT X E XC (.Compare a [.IsNot] [b] pos) g W O := by
  refine xt_of (pt_cmpR op_notN pe_W pe_W (nomark _)) (exT_test (ex_op op2_notN ?_))
  intro σ H r k el Q q
  refine h σ H r k el _ fun x H1 d W1 k1 o1 r1 h1 => q x H1 d W1 k1 o1 r1 fun σ2 H2 r2 k2 el2 Q2 q2 => h1 σ2 H2 r2 k2 el2 _ fun y H3 e W3 k3 o3 r3 h3 => q2 y H3 e W3 k3 o3 r3 ⟨h3.1, _, rfl, h3.2⟩
/-! ### and, or, not, if -/
theorem xe_one {op} (h : XE X E XC a g W O) : XE X E XC (.BoolOp op [a] pos) g W O := xe_of (pe_one pe_W) h
variable {rest : List Expr}
theorem xe_and (h : XE X E XC a g W fun d W1 => ∃ k, d = .bl k ∧ (k = true → XE X E XC (.BoolOp .And (b :: rest) pos) g W1 O) ∧ (k = false → O (.bl false) W1)) : XE X E XC (.BoolOp .And (a :: b :: rest) pos) g W O := by
  refine xe_of (pe_and pe_W pe_W) fun σ H r k el Q q => ?_
  refine h σ H r k el _ fun x H1 d W1 k1 o1 r1 ⟨c, e, h1, h2⟩ => ?_
  subst e
  cases r1
  refine ⟨c, rfl, ?_⟩
  cases c with
  | true => rw [if_pos rfl]; exact h1 rfl σ H1 (r.kp k1) o1 (el.kp k1) Q (q.kp k1)
  | false => rw [if_neg Bool.false_ne_true]; exact q _ H1 _ W1 k1 o1 (.bl _) (h2 rfl)
theorem xe_or (h : XE X E XC a g W fun d W1 => ∃ k, d = .bl k ∧ (k = false → XE X E XC (.BoolOp .Or (b :: rest) pos) g W1 O) ∧ (k = true → O (.bl true) W1)) : XE X E XC (.BoolOp .Or (a :: b :: rest) pos) g W O := by
  refine xe_of (pe_or pe_W pe_W) fun σ H r k el Q q => ?_
  refine h σ H r k el _ fun x H1 d W1 k1 o1 r1 ⟨c, e, h1, h2⟩ => ?_
  subst e
  cases r1
  refine ⟨c, rfl, ?_⟩
  cases c with
  | false => rw [if_neg Bool.false_ne_true]; exact h1 rfl σ H1 (r.kp k1) o1 (el.kp k1) Q (q.kp k1)
  | true => rw [if_pos rfl]; exact q _ H1 _ W1 k1 o1 (.bl _) (h2 rfl)
theorem xe_not (h : XE X E XC a g W fun d W1 => ∃ k, d = .bl k ∧ O (.bl (!k)) W1) : XE X E XC (.UnaryOp .Not a pos) g W O := by
  refine xe_of (pe_not pe_W) fun σ H r k el Q q => ?_
  refine h σ H r k el _ fun x H1 d W1 k1 o1 r1 ⟨c, e, h1⟩ => ?_
  subst e
  cases r1
  exact ⟨c, rfl, q _ H1 _ W1 k1 o1 (.bl _) h1⟩
theorem xt_val {O : Bool → Om → Prop} (h : XE X E XC a g W (asB O)) (he : ∀ whole, isTrue a X.env whole = (do let v ← whole; standAt a.pos; holding [v] (truthy v)) := by intro _; rfl) : XT X E XC a g W O := by
  refine xt_of (pt_val pe_W he) fun σ H r k el Q q => ?_
  refine h σ H r k el _ fun x H1 d W1 k1 o1 r1 ⟨c, e, h1⟩ => ?_
  subst e
  cases r1
  exact ⟨c, rfl, q c H1 W1 k1 o1 h1⟩
theorem xt_w {O : Bool → Om → Prop} (h : XW X E XC a g W O) : XT X E XC a g W O := xt_of (PW.pt pw_W) h
theorem xw_and1 {O : Bool → Om → Prop} (h : XT X E XC a g W O) : XW X E XC (.BoolOp .And [a] pos) g W O := xw_of (pw_and1 pt_W) h
theorem xw_or1 {O : Bool → Om → Prop} (h : XT X E XC a g W O) : XW X E XC (.BoolOp .Or [a] pos) g W O := xw_of (pw_or1 pt_W) h
theorem xw_and {O : Bool → Om → Prop} (h : XT X E XC a g W fun k W1 => (k = true → XW X E XC (.BoolOp .And (b :: rest) pos) g W1 O) ∧ (k = false → O false W1)) : XW X E XC (.BoolOp .And (a :: b :: rest) pos) g W O := by
  refine xw_of (pw_and pt_W pw_W) fun σ H r k el Q q => ?_
  refine h σ H r k el _ fun c H1 W1 k1 o1 ⟨h1, h2⟩ => ?_
  cases c with
  | true => rw [if_pos rfl]; exact h1 rfl σ H1 (r.kp k1) o1 (el.kp k1) Q fun b' H2 W2 k2 => q b' H2 W2 (k1.trans k2)
  | false => rw [if_neg Bool.false_ne_true]; exact q _ H1 W1 k1 o1 (h2 rfl)
theorem xw_or {O : Bool → Om → Prop} (h : XT X E XC a g W fun k W1 => (k = false → XW X E XC (.BoolOp .Or (b :: rest) pos) g W1 O) ∧ (k = true → O true W1)) : XW X E XC (.BoolOp .Or (a :: b :: rest) pos) g W O := by
  refine xw_of (pw_or pt_W pw_W) fun σ H r k el Q q => ?_
  refine h σ H r k el _ fun c H1 W1 k1 o1 ⟨h1, h2⟩ => ?_
  cases c with
  | false => rw [if_neg Bool.false_ne_true]; exact h1 rfl σ H1 (r.kp k1) o1 (el.kp k1) Q fun b' H2 W2 k2 => q b' H2 W2 (k1.trans k2)
  | true => rw [if_pos rfl]; exact q _ H1 W1 k1 o1 (h2 rfl)
theorem xt_not {O : Bool → Om → Prop} (h : XT X E XC a g W fun k W1 => O (!k) W1) : XT X E XC (.UnaryOp .Not a pos) g W O := by
  refine xt_of (pt_not pt_W) fun σ H r k el Q q => ?_
  exact h σ H r k el _ fun c H1 W1 k1 o1 h1 => q _ H1 W1 k1 o1 h1
theorem xe_if (h : XT X E XC c g W fun k W1 => (k = true → XE X E XC a g W1 O) ∧ (k = false → XE X E XC b g W1 O)) : XE X E XC (.IfExp c a b pos) g W O := by
  refine xe_of (pe_ifExp pt_W pe_W pe_W) fun σ H r k el Q q => ?_
  refine h σ H r k el _ fun c H1 W1 k1 o1 ⟨h1, h2⟩ => ?_
  cases c with
  | true => rw [if_pos rfl]; exact h1 rfl σ H1 (r.kp k1) o1 (el.kp k1) Q (q.kp k1)
  | false => rw [if_neg Bool.false_ne_true]; exact h2 rfl σ H1 (r.kp k1) o1 (el.kp k1) Q (q.kp k1)
end
end SR
namespace SR
open PySem PySem.Spec PyProof.Rows L2
section
variable {X : Cx} {E : XK} {XC : XCt} {g : Ga} {W : Om} {a b c : Expr} {pos : Pos} {O : OD}
/-! ### subscripts -/
theorem ixN_map {α β : Type} (xs : List α) (ys : List β) (h : xs.length = ys.length) (i : Int) : ixN xs.length i = ixN ys.length i := by rw [h]
theorem atI_rp {K : PySem.W.Frag} {H : Hp} {vs : List V} {ds : List D} {i : Int} {d : D} (r : RpAll K H vs ds) (h : atI ds i = some d) : ∃ v, atI vs i = some v ∧ Rp K H v d := by
  unfold atI at h ⊢
  rw [r.length]
  cases q : ixN ds.length i with
  | none => rw [q] at h; cases h
  | some j =>
    rw [q] at h
    obtain ⟨v, h1, h2⟩ := r.get (i := j) (d := d) h
    exact ⟨v, h1, h2⟩
def IxD : R2D := fun d e W O => match d, e with
  | .tup xs, .int i => ∃ v, atI xs i = some v ∧ O v W
  | .p l, .int i => ∃ xs v, W l = some (.lst xs) ∧ atI xs i = some v ∧ O v W
  | .scr _ ns, .int i => ∃ n, atI ns i = some n ∧ O (.int n) W
  | _, _ => False
theorem atI_map {ns : List Int} {i n : Int} (h : atI ns i = some n) : atI (ns.map V.int) i = some (V.int n) := by
  unfold atI at h ⊢
  rw [List.length_map]
  cases q : ixN ns.length i with
  | none => rw [q] at h; cases h
  | some j =>
    rw [q] at h
    show (ns.map V.int)[j]? = some (V.int n)
    rw [List.getElem?_map, show ns[j]? = some n from h]
    rfl
theorem op2_ix (K : PySem.W.Frag) : Op2 K (rIx K) IxD := by
  intro x y d e H W O Q rx ry o q h
  cases rx with
  | @tup l xs ds hl hx =>
    cases ry with
    | int i =>
      obtain ⟨d, h1, h⟩ := h
      obtain ⟨v, h2, r⟩ := atI_rp hx h1
      exact .inr (.inl ⟨l, xs, i, v, rfl, rfl, .of hl, h2, q v H d W (Kp.refl H) o r h⟩)
    | _ => exact False.elim h
  | p l =>
    cases ry with
    | int i =>
      obtain ⟨ds, d, h0, h1, h⟩ := h
      obtain ⟨xs, h3, hx⟩ := o l _ h0
      obtain ⟨v, h2, r⟩ := atI_rp hx h1
      exact .inl ⟨l, xs, i, v, rfl, rfl, .of h3, h2, q v H d W (Kp.refl H) o r h⟩
    | _ => exact False.elim h
  | @scr l ns hl =>
    cases ry with
    | int i =>
      obtain ⟨n, h1, h⟩ := h
      exact .inl ⟨l, _, i, .int n, rfl, rfl, hl.sq, atI_map h1, q _ H _ W (Kp.refl H) o (.int n) h⟩
    | _ => exact False.elim h
  | _ => exact False.elim (by cases ry <;> exact h)
theorem xe_ix (h : XE X E XC a g W fun d W1 => XE X E XC b g W1 fun e W2 => IxD d e W2 O) (hs : PlainIx b := by intro _ _; rfl) : XE X E XC (.Subscript a b pos) g W O :=
  xe_of (pe_ix ix_seq pe_W pe_W hs) (ex_op (op2_ix X.K) h)

/-! ### slices -/
def cutA {α : Type} (xs : List α) (lo hi : Option Int) : List α := (xs.drop (HT.sIx xs.length 0 lo)).take (HT.sIx xs.length xs.length hi - HT.sIx xs.length 0 lo)
theorem cutA_whole {α : Type} {xs : List α} {lo hi : Option Int} (h1 : HT.sIx xs.length 0 lo = 0) (h2 : HT.sIx xs.length xs.length hi = xs.length) : cutA xs lo hi = xs := by
  unfold cutA
  rw [h1, h2, Nat.sub_zero, List.drop_zero, List.take_length]
theorem cut_rp {K : PySem.W.Frag} {H : Hp} {vs : List V} {ds : List D} {lo hi : Option Int} (r : RpAll K H vs ds) : RpAll K H (cutV vs lo hi) (cutA ds lo hi) := by
  unfold cutV cutA
  rw [r.length]
  exact (r.drop _).take _
/-- a part of a slice -/
def XO (X : Cx) (E : XK) (XC : XCt) (e : Option Expr) (g : Ga) (W : Om) (O : Option Int → Om → Prop) : Prop := match e with
  | none => O none W
  | some e => XE X E XC e g W fun d W1 => ∃ i, d = .int i ∧ O (some i) W1
def SlD (d : D) (lo hi : Option Int) (W : Om) (O : OD) : Prop := match d with
  | .tup xs => O (.tup (cutA xs lo hi)) W
  | .str x => x.length ≤ sizeLine ∧ O (.str (cutS x lo hi)) W
  | .p l => ∃ xs, W l = some (.lst xs) ∧ ∀ p, W p = none → O (.p p) (updO W p (.lst (cutA xs lo hi)))
  | _ => False
theorem slD_ok (K : PySem.W.Frag) {x : V} {d : D} {lo hi : Option Int} {H : Hp} {W : Om} {Q : VK} (rx : Rp K H x d) (o : HpOk K H W) (q : QL K H O Q) (h : SlD d lo hi W O) :
    (rSlA K x lo hi H Q ∨ (∃ z, x = .str z ∧ z.length ≤ sizeLine ∧ Q (.str (cutS z lo hi)) H)) ∨ rSlL K x lo hi H Q := by
  cases rx with
  | @tup l xs ds hl hx =>
    refine .inl (.inl ⟨l, xs, rfl, .of hl, fun hw => ?_, fun hw p hp => ?_⟩)
    · rw [hx.length] at hw
      have h' : O (.tup (cutA ds lo hi)) W := h
      rw [cutA_whole hw.1 hw.2] at h'
      exact q _ H _ W (Kp.refl H) o (.tup hl hx) h'
    · exact q _ _ _ W (Kp.new hp) (o.more hp) (.tup upd_same ((cut_rp hx).kp (Kp.new hp))) h
  | str z => exact .inl (.inr ⟨z, rfl, h.1, q _ H _ W (Kp.refl H) o (.str _) h.2⟩)
  | p l =>
    obtain ⟨ds, h0, h⟩ := h
    obtain ⟨xs, h3, hx⟩ := o l _ h0
    refine .inr ⟨l, xs, rfl, .of h3, fun p hp => ?_⟩
    exact q _ _ _ _ (Kp.new hp) (o.new (o := .lst (cutA ds lo hi)) hp ⟨_, upd_same, (cut_rp hx).kp (Kp.new hp)⟩) (.p p) (h p (o.free hp))
  | _ => exact False.elim h
theorem sl_any : SlR X (fun x lo hi H Q => (rSlA X.K x lo hi H Q ∨ (∃ z, x = .str z ∧ z.length ≤ sizeLine ∧ Q (.str (cutS z lo hi)) H)) ∨ rSlL X.K x lo hi H Q) := (sl_tupA.or sl_str).or sl_list
/-- the weakest reading of a slice's part -/
def toW (X : Cx) (e : Option Expr) : TO := fun σ H Q => ∀ t : TO, True → (match e with | none => Q none H | some e => tW X e σ H fun x H1 => ∃ i, x = .int i ∧ Q (some i) H1)
theorem po_W {e : Option Expr} : PO X e (toW X e) := by
  cases e with
  | none => exact ⟨fun pins s σ H Q I h => po_none.run pins s σ H Q I (h tNoPart trivial)⟩
  | some e => exact ⟨fun pins s σ H Q I h => (po_some pe_W).run pins s σ H Q I (h tNoPart trivial)⟩
theorem xo_run {e : Option Expr} {O : Option Int → Om → Prop} (h : XO X E XC e g W O) : ∀ (σ : St) (H : Hp), RpS X.K H σ g → HpOk X.K H W → EL X.K H E XC → ∀ Q : Option Int → Hp → Prop, (∀ o H' W', Kp H H' → HpOk X.K H' W' → O o W' → Q o H') → toW X e σ H Q := by
  intro σ H r k el Q q t _
  cases e with
  | none => exact q none H W (Kp.refl H) k h
  | some e =>
    refine h σ H r k el _ fun x H1 d W1 k1 o1 r1 ⟨i, e, h1⟩ => ?_
    subst e
    cases r1
    exact ⟨i, rfl, q _ H1 W1 k1 o1 h1⟩
theorem xe_slice {lo hi : Option Expr} {p2 : Pos} (h : XE X E XC a g W fun d W1 => XO X E XC lo g W1 fun l W2 => XO X E XC hi g W2 fun u W3 => SlD d l u W3 O) : XE X E XC (.Subscript a (.Slice lo hi none p2) pos) g W O := by
  refine xe_of (pe_slice sl_any pe_W po_W po_W) fun σ H r k el Q q => ?_
  refine h σ H r k el _ fun x H1 d W1 k1 o1 r1 h1 => ?_
  refine xo_run h1 σ H1 (r.kp k1) o1 (el.kp k1) _ fun l H2 W2 k2 o2 h2 => ?_
  refine xo_run h2 σ H2 ((r.kp k1).kp k2) o2 ((el.kp k1).kp k2) _ fun u H3 W3 k3 o3 h3 => ?_
  exact slD_ok X.K ((r1.kp k2).kp k3) o3 (q.kp ((k1.trans k2).trans k3)) h3

/-! ### targets -/
def tgW (X : Cx) (tg : Expr) : TG := fun v σ H Q => ∀ (pins : List (Addr × Obj)) (s : Shared) (u : Value), Inv X pins σ H s → RelV v u → wpAny (model X.prog X.w) X.A (assign tg X.env u) (fun _ s' => ∃ σ' H', Inv X pins σ' H' s' ∧ Q σ' H') X.xe s
theorem pg_W {tg : Expr} : PG X tg (tgW X tg) := ⟨fun pins s σ H v u Q I r h => h pins s u I r⟩
def tgsW (X : Cx) (ts : List Expr) : TGs := fun vs σ H Q => ∀ (pins : List (Addr × Obj)) (s : Shared) (us : List Value), Inv X pins σ H s → Vals vs us → wpAny (model X.prog X.w) X.A (assignInOrder ((assignEach ts X.env).map (·.2)) us) (fun _ s' => ∃ σ' H', Inv X pins σ' H' s' ∧ Q σ' H') X.xe s
theorem pgs_W {ts : List Expr} : PGs X ts (tgsW X ts) := ⟨fun pins s σ H v u Q I r h => h pins s u I r⟩
def XG (X : Cx) (tg : Expr) (d : D) (g : Ga) (W : Om) (O : Ga → Om → Prop) : Prop :=
  ∀ (v : V) (σ : St) (H : Hp), RpS X.K H σ g → HpOk X.K H W → Rp X.K H v d → ∀ Q : St → Hp → Prop, SL X.K H O Q → tgW X tg v σ H Q
def XGs (X : Cx) (ts : List Expr) (ds : List D) (g : Ga) (W : Om) (O : Ga → Om → Prop) : Prop :=
  ∀ (vs : List V) (σ : St) (H : Hp), RpS X.K H σ g → HpOk X.K H W → RpAll X.K H vs ds → ∀ Q : St → Hp → Prop, SL X.K H O Q → tgsW X ts vs σ H Q
theorem xg_name (i : Nat) {x : Str} {d : D} {O : Ga → Om → Prop} (hN : X.N.Nodup) (h : O (g.set i (some d)) W) (hi : X.N[i]? = some x := by rfl) (hx : Loc X.env.scope x := by first | exact .inl rfl | exact .inr rfl)
    (hf : X.fn x = true ∨ X.env.scope.names.lookup x = some .local := by first | exact .inl rfl | exact .inr rfl) : XG X (.Name x pos) d g W O := by
  intro v σ H r k rv Q q pins s u I ru
  exact (pg_name (i := i) hN hi hx hf).run pins s σ H v u Q I ru (q _ H _ W (Kp.refl H) k (r.set i rv) h)
theorem xgs_nil {O : Ga → Om → Prop} (h : O g W) : XGs X [] [] g W O := by
  intro vs σ H r k rv Q q pins s us I ru
  cases rv
  exact pgs_nil.run pins s σ H [] us Q I ru ⟨rfl, q _ H _ W (Kp.refl H) k r h⟩
theorem xgs_cons {e : Expr} {es : List Expr} {d : D} {ds : List D} {O : Ga → Om → Prop} (h : XG X e d g W fun g1 W1 => XGs X es ds g1 W1 O)
    (hs : (assignEach (e :: es) X.env).map (·.2) = assign e X.env :: (assignEach es X.env).map (·.2) := by rfl) : XGs X (e :: es) (d :: ds) g W O := by
  intro vs σ H r k rv Q q pins s us I ru
  cases rv with
  | @cons v vs _ _ r1 r2 =>
    refine (pgs_cons pg_W pgs_W hs).run pins s σ H _ us Q I ru ⟨v, vs, rfl, ?_⟩
    refine h v σ H r k r1 _ fun σ1 H1 g1 W1 k1 o1 rs h1 => ?_
    exact h1 vs σ1 H1 rs o1 (r2.kp k1) Q (q.kp k1)
theorem xg_tup {es : List Expr} {k : Nat} {ds : List D} {n : Nat} {O : Ga → Om → Prop} (hl : ds.length = n) (h : XGs X es ds g W O) (hc : X.calm = true := by rfl)
    (hn : (assignEach es X.env).length = n := by rfl) (hst : (assignEach es X.env).findIdx? (·.1) = none := by rfl) : XG X (.Tuple es k pos) (.tup ds) g W O := by
  intro v σ H r k rv Q q pins s u I ru
  cases rv with
  | @tup l xs _ hx rx =>
    exact (pg_tup hc pgs_W hn hst).run pins s σ H _ u Q I ru ⟨l, xs, rfl, .of hx, by rw [rx.length]; exact hl, h xs σ H r k rx Q q⟩

/-! ### blocks, small statements -/
variable {C : EndD}
theorem xb_nil (h : C.nx g W) : XB X E XC [] g W C := xb_of pss_nil fun D σ H r k el l => l.nx σ H g W (Kp.refl H) k r h
theorem xb_cons {st : Stmt} {rest : List Stmt} (h : XS X E XC st g W { C with nx := fun g1 W1 => XB X E XC rest g1 W1 C }) : XB X E XC (st :: rest) g W C := by
  refine xb_of (pss_cons ps_W pss_W) fun D σ H r k el l => ?_
  refine h { D with nx := tssW X rest D } σ H r k el ⟨fun σ1 H1 g1 W1 k1 o1 r1 h1 => ?_, l.rt, l.bk, l.ct⟩
  exact h1 D σ1 H1 r1 o1 (el.kp k1) (l.kp k1)
theorem xb_one {st : Stmt} (h : XS X E XC st g W C) : XB X E XC [st] g W C := xb_of (pss_one ps_W) h
/-- behind here nothing is raised -/
theorem xb_nox {st : List Stmt} {E' : XK} (h : XB X.nox E' XC0 st g W C) : XB X E XC st g W C := by
  refine xb_of (PSs.nox pss_W) fun D σ H r k el l => ?_
  exact h D σ H r k el0 l
theorem xs_weak {st : Stmt} {g' : Ga} (l : Less g' g) (h : XS X E XC st g' W C) : XS X E XC st g W C := fun D σ H r k el lk => h D σ H (r.weak l) k el lk
theorem xb_weak {st : List Stmt} {g' : Ga} (l : lessB g' g) (h : XB X E XC st g' W C) : XB X E XC st g W C := fun D σ H r k el lk => h D σ H (r.weak (less_of l)) k el lk
theorem xb_sub {st : List Stmt} {W' : Om} (l : Sub W' W) (h : XB X E XC st g W' C) : XB X E XC st g W C := fun D σ H r k el lk => h D σ H r (k.sub l) el lk
theorem xs_pass (h : C.nx g W) : XS X E XC (.Pass pos) g W C := xs_of ps_pass fun D σ H r k el l => l.nx σ H g W (Kp.refl H) k r h
theorem xs_expr {e : Expr} (h : XE X E XC e g W fun _ W1 => C.nx g W1) (hs : swapsWith e none pos.line X.env = pure false := by rfl) : XS X E XC (.Expr e pos) g W C := by
  refine xs_of (ps_expr pe_W hs) fun D σ H r k el l => ?_
  exact h σ H r k el _ fun x H1 d W1 k1 o1 r1 h1 => l.nx σ H1 g W1 k1 o1 (r.kp k1) h1
theorem xs_ret {e : Expr} (h : XE X E XC e g W C.rt) : XS X E XC (.Return (some e) pos) g W C := by
  refine xs_of (ps_ret pe_W) fun D σ H r k el l => ?_
  exact h σ H r k el _ l.rt
theorem xs_retN (h : C.rt .non W) : XS X E XC (.Return none pos) g W C := xs_of ps_retN fun D σ H r k el l => l.rt _ H _ W (Kp.refl H) k .non h
theorem xs_if {t u : List Stmt} (h : XT X E XC c g W fun k W1 => (k = true → XB X E XC t g W1 C) ∧ (k = false → XB X E XC u g W1 C)) : XS X E XC (.If c t u pos) g W C := by
  refine xs_of (ps_if pt_W pss_W pss_W) fun D σ H r k el l => ?_
  refine h σ H r k el _ fun c H1 W1 k1 o1 ⟨h1, h2⟩ => ?_
  cases c with
  | true => rw [if_pos rfl]; exact h1 rfl D σ H1 (r.kp k1) o1 (el.kp k1) (l.kp k1)
  | false => rw [if_neg Bool.false_ne_true]; exact h2 rfl D σ H1 (r.kp k1) o1 (el.kp k1) (l.kp k1)
theorem xs_set (i : Nat) {x : Str} {e : Expr} {pos' : Pos} (hN : X.N.Nodup) (h : XE X E XC e g W fun d W1 => C.nx (g.set i (some d)) W1) (hi : X.N[i]? = some x := by rfl) (hx : Loc X.env.scope x := by first | exact .inl rfl | exact .inr rfl)
    (hs : swapsWith e (some (.Name x pos')) pos.line X.env = pure false := by rfl) (hf : X.fn x = true ∨ X.env.scope.names.lookup x = some .local := by first | exact .inl rfl | exact .inr rfl) : XS X E XC (.Assign [.Name x pos'] e pos) g W C := by
  refine xs_of (ps_set (i := i) hN hi hx pe_W hs hf) fun D σ H r k el l => ?_
  exact h σ H r k el _ fun v H1 d W1 k1 o1 r1 h1 => l.nx _ H1 _ W1 k1 o1 ((r.kp k1).set i r1) h1
theorem xs_asg {tg e : Expr} (h : XE X E XC e g W fun d W1 => XG X tg d g W1 C.nx) (hs : swapsWithSole [tg] e pos.line X.env = pure false := by rfl) (hw : swappedStores [tg] e X.env = pure none := by rfl)
    (h1 : (assignEach [tg] X.env).map (·.2) = [assign tg X.env] := by rfl) : XS X E XC (.Assign [tg] e pos) g W C := by
  refine xs_of (ps_asg pe_W pg_W hs hw h1) fun D σ H r k el l => ?_
  exact h σ H r k el _ fun v H1 d W1 k1 o1 r1 h1 => h1 v σ H1 (r.kp k1) o1 r1 _ (l.nx.kp k1)
theorem xs_par (i j : Nat) {x y : Str} {px py pt : Pos} {kt k2 pt2} (hN : X.N.Nodup) (h : XA X E XC [a, b] g W fun ds W1 => ∃ d e, ds = [d, e] ∧ C.nx ((g.set i (some d)).set j (some e)) W1) (hi : X.N[i]? = some x := by rfl) (hj : X.N[j]? = some y := by rfl) (hij : i ≠ j := by decide)
    (hx : X.env.scope.names.lookup x = some .local := by rfl) (hy : X.env.scope.names.lookup y = some .local := by rfl) (hc : X.calm = true := by rfl)
    (hw : swappedStores [.Tuple [.Name x px, .Name y py] kt pt] (.Tuple [a, b] k2 pt2) X.env = pure (some [x, y]) := by rfl)
    (hs : swapsWithSole [.Tuple [.Name x px, .Name y py] kt pt] (.Tuple [a, b] k2 pt2) pos.line X.env = pure false := by rfl) : XS X E XC (.Assign [.Tuple [.Name x px, .Name y py] kt pt] (.Tuple [a, b] k2 pt2) pos) g W C := by
  refine xs_of (ps_par hc hN hi hj hij hx hy pa_W hw hs) fun D σ H r k el l => ?_
  refine h σ H r k el _ fun vs H1 ds W1 k1 o1 r1 ⟨d, e, ed, h1⟩ => ?_
  subst ed
  cases r1 with
  | @cons v vs _ _ ra rb =>
    cases rb with
    | @cons w ws _ _ rb rc =>
      cases rc
      exact ⟨v, w, rfl, l.nx _ H1 _ W1 k1 o1 (((r.kp k1).set i ra).set j rb) h1⟩
/-- x += e of ints -/
theorem xs_aug (i : Nat) {x : Str} {e : Expr} {pos' : Pos} {z : Int} (hN : X.N.Nodup) (hz : g[i]? = some (some (.int z))) (h : XE X E XC e g W fun d W1 => ∃ j, d = .int j ∧ C.nx (g.set i (some (.int (z + j)))) W1) (hi : X.N[i]? = some x := by rfl) (hx : Loc X.env.scope x := by first | exact .inl rfl | exact .inr rfl)
    (hf : X.fn x = true ∨ X.env.scope.names.lookup x = some .local := by first | exact .inl rfl | exact .inr rfl) : XS X E XC (.AugAssign (.Name x pos') .Add e pos) g W C := by
  refine xs_of (ps_aug (i := i) hN hi hx pe_W ip_add hf) fun D σ H r k el l => ?_
  obtain ⟨v, e1, rv⟩ := r.get i _ hz
  cases rv
  refine ⟨_, e1, h σ H r k el _ fun y H1 d W1 k1 o1 r1 ⟨j, ed, h1⟩ => ?_⟩
  subst ed
  cases r1
  exact ⟨z, j, rfl, rfl, l.nx _ H1 _ W1 k1 o1 ((r.kp k1).set i (.int _)) h1⟩
/-- what is never reached -/
theorem xb_never {st : List Stmt} (h : False) : XB X E XC st g W C := h.elim

/-! ### what is walked -/
def ItOk (K : PySem.W.Frag) (J : It) (B : Hp) (ds : List D) (ok : Om → Prop) : Prop := ∀ (i : Nat) (H : Hp) (W : Om), Kp B H → HpOk K H W → ok W →
  (i < ds.length → J.go i H ∧ ∀ x H', J.yld i H x H' → Kp H H' ∧ HpOk K H' W ∧ ∃ d, ds[i]? = some d ∧ Rp K H' x d) ∧ (ds.length ≤ i → J.stop i H)
def XI (X : Cx) (E : XK) (XC : XCt) (tg iter : Expr) (g : Ga) (W : Om) (O : List D → (Om → Prop) → Om → Prop) : Prop :=
  ∃ wi, PI X tg iter wi ∧ ∀ (σ : St) (H : Hp), RpS X.K H σ g → HpOk X.K H W → EL X.K H E XC → ∀ R : It → Hp → Prop, (∀ J H' ds ok W', Kp H H' → HpOk X.K H' W' → ItOk X.K J H' ds ok → O ds ok W' → R J H') → wi σ H R
/-- a tuple -/
theorem xi_tup {tg iter : Expr} {O : List D → (Om → Prop) → Om → Prop} (h : XE X E XC iter g W fun d W1 => ∃ ds, d = .tup ds ∧ O ds (fun _ => True) W1) : XI X E XC tg iter g W O := by
  refine ⟨_, pi_tup pe_W, fun σ H r k el R q => ?_⟩
  refine h σ H r k el _ fun v H1 d W1 k1 o1 r1 ⟨ds, e, h1⟩ => ?_
  subst e
  cases r1 with
  | @tup a xs _ hx rx =>
    refine ⟨a, rfl, ⟨xs, .of hx⟩, q _ H1 ds _ W1 k1 o1 (fun i H2 W2 k2 o2 _ => ⟨fun hi => ?_, fun hi => ?_⟩) h1⟩
    · have hx2 := k2.t _ _ hx
      have rx2 := rx.kp k2
      obtain ⟨v, e1, e2⟩ := rx2.get (List.getElem?_eq_getElem hi)
      refine ⟨⟨xs, v, .of hx2, e1⟩, fun x H' ⟨e3, h3⟩ => ?_⟩
      subst e3
      have e4 := h3 xs (.of hx2)
      rw [e1] at e4
      cases e4
      exact ⟨Kp.refl _, o2, _, List.getElem?_eq_getElem hi, e2⟩
    · exact ⟨xs, .of (k2.t _ _ hx), by rw [rx.length]; exact hi⟩
/-- a list that the turns leave as it is -/
theorem xi_lst {tg iter : Expr} {O : List D → (Om → Prop) → Om → Prop} (h : XE X E XC iter g W fun d W1 => ∃ l ds, d = .p l ∧ W1 l = some (.lst ds) ∧ O ds (fun W2 => W2 l = some (.lst ds)) W1) : XI X E XC tg iter g W O := by
  refine ⟨_, pi_list pe_W, fun σ H r k el R q => ?_⟩
  refine h σ H r k el _ fun v H1 d W1 k1 o1 r1 ⟨l, ds, e, hl, h1⟩ => ?_
  subst e
  cases r1
  obtain ⟨xs, hx, rx⟩ := o1 l _ hl
  refine ⟨l, rfl, ⟨xs, .of hx⟩, q _ H1 ds _ W1 k1 o1 (fun i H2 W2 k2 o2 hok => ?_) h1⟩
  obtain ⟨ys, hy, ry⟩ := o2 l _ hok
  refine ⟨fun hi => ?_, fun hi => ⟨ys, .of hy, by rw [ry.length]; exact hi⟩⟩
  obtain ⟨v, e1, e2⟩ := ry.get (List.getElem?_eq_getElem hi)
  refine ⟨⟨ys, v, .of hy, e1⟩, fun x H' ⟨e3, h3⟩ => ?_⟩
  subst e3
  have e4 := h3 ys (.of hy)
  rw [e1] at e4
  cases e4
  exact ⟨Kp.refl _, o2, _, List.getElem?_eq_getElem hi, e2⟩
/-- lo, lo + 1, .. -/
def rangeD (lo : Int) (n : Nat) : List D := (List.range n).map fun i => .int (lo + (i : Nat))
theorem rangeD_len (lo : Int) (n : Nat) : (rangeD lo n).length = n := by unfold rangeD; rw [List.length_map, List.length_range]
theorem rangeD_get {lo : Int} {n i : Nat} (h : i < n) : (rangeD lo n)[i]? = some (.int (lo + (i : Nat))) := by
  unfold rangeD
  rw [List.getElem?_map, List.getElem?_range h]
  rfl
theorem itOk_range {K : PySem.W.Frag} {B : Hp} {lo : Int} {n : Nat} : ItOk K (Itr lo n) B (rangeD lo n) (fun _ => True) := by
  intro i H W k o _
  rw [rangeD_len]
  refine ⟨fun hi => ⟨hi, fun x H' ⟨e1, e2⟩ => ?_⟩, fun hi => hi⟩
  subst e1 e2
  exact ⟨Kp.refl _, o, _, rangeD_get hi, .int _⟩
theorem xi_range1 {tg e : Expr} {p : Pos} {O : List D → (Om → Prop) → Om → Prop} (hm : X.mg "range" = none) (h : XE X E XC e g W fun d W1 => ∃ j : Int, d = .int j ∧ -(2 ^ 62) ≤ j ∧ j < 2 ^ 62 ∧ O (rangeD 0 j.toNat) (fun _ => True) W1)
    (hg : Gl X "range" := by rfl) (hs : starEach [e] X.env = [(false, eval e X.env)] := by rfl) : XI X E XC tg (.Call (.Name "range" p) [e] [] pos) g W O := by
  refine ⟨_, pi_range1 hg hm pa_W hs, fun σ H r k el R q => ?_⟩
  refine xa_cons (O := fun ds W1 => ∃ j : Int, ds = [.int j] ∧ -(2 ^ 62) ≤ j ∧ j < 2 ^ 62 ∧ O (rangeD 0 j.toNat) (fun _ => True) W1) (fun σ H r k el Q q => h σ H r k el Q fun v H1 d W1 k1 o1 r1 ⟨j, e, h1⟩ => q v H1 d W1 k1 o1 r1 (xa_nil ⟨j, by rw [e], h1⟩)) hs σ H r k el _ fun vs H1 ds W1 k1 o1 r1 ⟨j, e, h1, h2, h3⟩ => ?_
  subst e
  cases r1 with
  | cons ra rb =>
    cases ra
    cases rb
    exact ⟨j, rfl, h1, h2, q _ H1 _ _ W1 k1 o1 itOk_range h3⟩
theorem xi_range2 {tg e f : Expr} {p : Pos} {O : List D → (Om → Prop) → Om → Prop} (hm : X.mg "range" = none) (h : XE X E XC e g W fun d W1 => XE X E XC f g W1 fun d2 W2 => ∃ i j : Int, d = .int i ∧ d2 = .int j ∧ (-(2 ^ 62) ≤ i ∧ i < 2 ^ 62 ∧ -(2 ^ 62) ≤ j ∧ j < 2 ^ 62) ∧ O (rangeD i (j - i).toNat) (fun _ => True) W2)
    (hg : Gl X "range" := by rfl) (hs : starEach [e, f] X.env = [(false, eval e X.env), (false, eval f X.env)] := by rfl) (hs2 : starEach [f] X.env = [(false, eval f X.env)] := by rfl) : XI X E XC tg (.Call (.Name "range" p) [e, f] [] pos) g W O := by
  refine ⟨_, pi_range2 hg hm pa_W hs hs2, fun σ H r k el R q => ?_⟩
  refine xa_cons (O := fun ds W1 => ∃ i j : Int, ds = [.int i, .int j] ∧ (-(2 ^ 62) ≤ i ∧ i < 2 ^ 62 ∧ -(2 ^ 62) ≤ j ∧ j < 2 ^ 62) ∧ O (rangeD i (j - i).toNat) (fun _ => True) W1) (fun σ H r k el Q q => h σ H r k el Q fun v H1 d W1 k1 o1 r1 h1 => q v H1 d W1 k1 o1 r1
    (xa_cons (fun σ2 H2 r2 k2 el2 Q2 q2 => h1 σ2 H2 r2 k2 el2 Q2 fun v2 H3 d2 W3 k3 o3 r3 ⟨i, j, e1, e2, h3⟩ => q2 v2 H3 d2 W3 k3 o3 r3 (xa_nil ⟨i, j, by rw [e1, e2], h3⟩)) hs2)) (by rw [hs, hs2]) σ H r k el _ fun vs H1 ds W1 k1 o1 r1 ⟨i, j, e, h1, h3⟩ => ?_
  subst e
  cases r1 with
  | cons ra rb =>
    cases ra
    cases rb with
    | cons rb rc =>
      cases rb
      cases rc
      exact ⟨i, j, rfl, h1, q _ H1 _ _ W1 k1 o1 itOk_range h3⟩

/-! ### for, while -/
theorem xs_for {tg iter : Expr} {body : List Stmt} (I : Nat → Ga → Om → Prop)
    (h : XI X E XC tg iter g W fun ds ok W1 => I 0 g W1 ∧ (∀ i g' W', I i g' W' → ok W') ∧
      (∀ i d g' W', ds[i]? = some d → I i g' W' → XG X tg d g' W' fun g2 W2 => XB X E XC body g2 W2 { C with nx := I (i + 1), ct := I (i + 1), bk := C.nx }) ∧ (∀ g' W', I ds.length g' W' → C.nx g' W'))
    (hp : PassesOwn (model X.prog X.w) X.A X.env X.xe := by exact PassesOwn.never) (hc : X.calm = true := by rfl) (hs : ∀ x, foldedSetIterable iter X.env x = pure x := by intro _; rfl) : XS X E XC (.For tg iter body [] pos) g W C := by
  obtain ⟨wi, hi, hw⟩ := h
  refine xs_of (ps_for hp hc hi pg_W pss_W hs) fun D σ H r k el l => ?_
  refine hw σ H r k el _ fun J H1 ds ok W1 k1 o1 it ⟨h0, hok, hturn, hend⟩ => ?_
  refine ⟨fun i m σ H => m = ds.length - i ∧ i ≤ ds.length ∧ ∃ g' W', Kp H1 H ∧ HpOk X.K H W' ∧ RpS X.K H σ g' ∧ I i g' W', ⟨ds.length, rfl, Nat.zero_le _, g, W1, Kp.refl _, o1, r.kp k1, h0⟩, ?_⟩
  rintro i m σ2 H2 ⟨rfl, hil, g', W', k2, o2, r2, hI⟩
  obtain ⟨hgo, hst⟩ := it i H2 W' k2 o2 (hok i g' W' hI)
  by_cases hlt : i < ds.length
  · obtain ⟨go, hy⟩ := hgo hlt
    refine .inr ⟨go, fun σ3 H3 => ∃ g3 W3, Kp H1 H3 ∧ HpOk X.K H3 W3 ∧ RpS X.K H3 σ3 g3 ∧ I (i + 1) g3 W3, fun σ3 H3 h3 => ⟨ds.length - (i + 1), by omega, rfl, hlt, h3⟩, fun x H' y => ?_⟩
    obtain ⟨k3, o3, d, hd, rx⟩ := hy x H' y
    refine hturn i d g' W' hd hI x σ2 H' (r2.kp k3) o3 rx _ fun σ4 H4 g4 W4 k4 o4 r4 h4 => ?_
    have kk : Kp H H4 := ((k1.trans k2).trans k3).trans k4
    refine h4 _ σ4 H4 r4 o4 (el.kp kk) ⟨fun σ5 H5 g5 W5 k5 o5 r5 h5 => ⟨g5, W5, ((k2.trans k3).trans k4).trans k5, o5, r5, h5⟩, l.rt.kp kk, l.nx.kp kk, fun σ5 H5 g5 W5 k5 o5 r5 h5 => ⟨g5, W5, ((k2.trans k3).trans k4).trans k5, o5, r5, h5⟩⟩
  · have e : i = ds.length := by omega
    subst e
    exact .inl ⟨hst (Nat.le_refl _), l.nx σ2 H2 g' W' (k1.trans k2) o2 r2 (hend g' W' hI)⟩
theorem xs_while {body : List Stmt} (I : Nat → Ga → Om → Prop) (m0 : Nat) (h0 : I m0 g W)
    (h : ∀ m g' W', I m g' W' → XT X E XC c g' W' fun k W1 => (k = true → XB X E XC body g' W1 { C with nx := fun g2 W2 => ∃ m', m' < m ∧ I m' g2 W2, ct := fun g2 W2 => ∃ m', m' < m ∧ I m' g2 W2, bk := C.nx }) ∧ (k = false → C.nx g' W1))
    (hp : PassesOwn (model X.prog X.w) X.A X.env X.xe := by exact PassesOwn.never) : XS X E XC (.While c body [] pos) g W C := by
  refine xs_of (ps_while hp pt_W pss_W) fun D σ H r k el l => ?_
  refine ⟨fun m σ2 H2 => ∃ g' W', Kp H H2 ∧ HpOk X.K H2 W' ∧ RpS X.K H2 σ2 g' ∧ I m g' W', ⟨m0, g, W, Kp.refl _, k, r, h0⟩, ?_⟩
  rintro m σ2 H2 ⟨g', W', k2, o2, r2, hI⟩
  refine h m g' W' hI σ2 H2 r2 o2 (el.kp k2) _ fun b H3 W3 k3 o3 ⟨h1, h2⟩ => ?_
  cases b with
  | false => rw [if_neg Bool.false_ne_true]; exact l.nx σ2 H3 g' W3 (k2.trans k3) o3 (r2.kp k3) (h2 rfl)
  | true =>
    rw [if_pos rfl]
    refine ⟨fun σ4 H4 => ∃ m', m' < m ∧ ∃ g4 W4, Kp H H4 ∧ HpOk X.K H4 W4 ∧ RpS X.K H4 σ4 g4 ∧ I m' g4 W4, fun σ4 H4 h4 => h4, ?_⟩
    have kk := k2.trans k3
    refine h1 rfl _ σ2 H3 (r2.kp k3) o3 (el.kp kk) ⟨?_, l.rt.kp kk, l.nx.kp kk, ?_⟩
    · rintro σ5 H5 g5 W5 k5 o5 r5 ⟨m', hm, h5⟩
      exact ⟨m', hm, g5, W5, kk.trans k5, o5, r5, h5⟩
    · rintro σ5 H5 g5 W5 k5 o5 r5 ⟨m', hm, h5⟩
      exact ⟨m', hm, g5, W5, kk.trans k5, o5, r5, h5⟩
end
end SR
namespace SR
open PySem PySem.Spec PyProof.Rows L2
/-! ### a def's promise over data -/
abbrev SpT := List D → Om → OD → XCt → Prop
def SpD (K : PySem.W.Frag) (S : SpT) : Sp := fun vs H Q E => ∃ (ds : List D) (W : Om) (O : OD) (XC : XCt), RpAll K H vs ds ∧ HpOk K H W ∧ EL K H E XC ∧ QL K H O Q ∧ S ds W O XC
/-- what a caller wants of a def -/
structure Cal (P : Program) (w : World) (K : PySem.W.Frag) (mg : Str → Option Value) (base : Heap) (k : Nat) (x : Str) (ps : List Str) (S : SpT) : Prop where
  ex : ∃ f fd, FnOk P w K mg base (L2.CX P w) k f fd ps (SpD K S) ∧ mg x = some (.ref f) ∧ PySem.W.keepIn K (.ref f) = true ∧ Binds K fd ps []
theorem Cal.mono {P : Program} {w : World} {K : PySem.W.Frag} {mg : Str → Option Value} {base : Heap} {j k : Nat} {x : Str} {ps : List Str} {S : SpT} (c : Cal P w K mg base j x ps S) (h : j ≤ k) : Cal P w K mg base k x ps S := by
  obtain ⟨f, fd, h1, h2⟩ := c.ex
  exact ⟨f, fd, h1.mono h, h2⟩
theorem Cal.imp {P : Program} {w : World} {K : PySem.W.Frag} {mg : Str → Option Value} {base : Heap} {k : Nat} {x : Str} {ps : List Str} {S S' : SpT} (c : Cal P w K mg base k x ps S) (h : ∀ ds W O XC, S' ds W O XC → S ds W O XC) : Cal P w K mg base k x ps S' := by
  obtain ⟨f, fd, h1, h2⟩ := c.ex
  exact ⟨f, fd, h1.imp fun vs H Q E ⟨ds, W, O, XC, r, o, el, q, s⟩ => ⟨ds, W, O, XC, r, o, el, q, h _ _ _ _ s⟩, h2⟩
/-- THE RULE for a def -/
theorem fnD {P : Program} {w : World} {K : PySem.W.Frag} {mg : Str → Option Value} {base : Heap} {x qual : Str} {st : Stmt} {f : Addr} {fd : FuncData} {N ps : List Str} {k : Nat} {S : SpT} (F : Fun K x qual st f fd) (Sc : FnScope N ps (defScope st))
    (len : ∀ ds W O XC, S ds W O XC → ds.length = ps.length)
    (body : ∀ (cdv : Value) (A : Around) (outer : List Env) (s : Shared) (H : Hp) (E : XK) (ds : List D) (W : Om) (O : OD) (XC : XCt), Room k (A.deeper (envOfC qual (defScope st) s.heap.objs.size f cdv)) → S ds W O XC →
      XB (cxOf (L2.CX P w) P w K mg base N qual (defScope st) f cdv A outer s H E) E XC (defBody st) (startD N.length ds) W { nx := fun _ W' => O .non W', rt := O }) : FnOk P w K mg base (L2.CX P w) (k + 1) f fd ps (SpD K S) := by
  refine F.okX Sc (fun vs H Q E h => ?_) (fun cdv A outer s H vs Q E hr h => ?_)
  · obtain ⟨ds, W, O, XC, r, _, _, _, h⟩ := h
    rw [r.length]
    exact len _ _ _ _ h
  · obtain ⟨ds, W, O, XC, r, o, el, q, h⟩ := h
    refine ⟨_, pss_W, ?_⟩
    exact body cdv A outer s H E ds W O XC hr h { nx := fun _ H' => Q .non H', rt := Q } (L2.start N vs) H (rpS_start r) o el
      ⟨fun σ H1 g W1 k1 o1 r1 h1 => q _ H1 _ W1 k1 o1 .non h1, q, fun _ _ _ _ _ _ _ h => h.elim, fun _ _ _ _ _ _ _ h => h.elim⟩
theorem cal_mk {P : Program} {w : World} {K : PySem.W.Frag} {mg : Str → Option Value} {base : Heap} {x : Str} {st : Stmt} {f : Addr} {fd : FuncData} {N ps : List Str} {k : Nat} {S : SpT} (F : Fun K x x st f fd) (hm : mg x = some (.ref f)) (hb : Binds K fd ps [])
    (Sc : FnScope N ps (defScope st)) (len : ∀ ds W O XC, S ds W O XC → ds.length = ps.length)
    (body : ∀ (cdv : Value) (A : Around) (outer : List Env) (s : Shared) (H : Hp) (E : XK) (ds : List D) (W : Om) (O : OD) (XC : XCt), Room k (A.deeper (envOfC x (defScope st) s.heap.objs.size f cdv)) → S ds W O XC →
      XB (cxOf (L2.CX P w) P w K mg base N x (defScope st) f cdv A outer s H E) E XC (defBody st) (startD N.length ds) W { nx := fun _ W' => O .non W', rt := O }) : Cal P w K mg base (k + 1) x ps S :=
  ⟨f, fd, fnD F Sc len body, hm, F.kp, hb⟩
section
variable {X : Cx} {E : XK} {XC : XCt} {g : Ga} {W : Om} {a b c : Expr} {pos : Pos} {O : OD}
theorem xe_call {k : Nat} {x : Str} {ps : List Str} {S : SpT} {e : Expr} {es : List Expr} {p : Pos} (c : Cal X.prog X.w X.K X.mg X.base k x ps S) (hr : Room k X.A) (hx : Passes (L2.CX X.prog X.w) X E) (h : XA X E XC (e :: es) g W fun ds W1 => S ds W1 O XC) (hg : Gl X x := by rfl)
    (hdb : (x == ("__debug__" : Str)) = false := by decide) (he : starEach (e :: es) X.env = (false, eval e X.env) :: starEach es X.env := by rfl) (hpl : (backTo pos (starEach es X.env)).any (·.1) = false := by rfl) :
    XE X E XC (.Call (.Name x p) (e :: es) [] pos) g W O := by
  obtain ⟨f, fd, F, hm, hk, hb⟩ := c.ex
  refine xe_of (pe_call F hr hg hm hk hb .nil hx pa_W hdb he hpl) fun σ H r k el Q q => ?_
  refine h σ H r k el _ fun vs H1 ds W1 k1 o1 r1 h1 => ?_
  refine ⟨ds, W1, O, XC, ?_, o1, el.kp k1, q.kp k1, h1⟩
  rw [List.append_nil]; exact r1
theorem xe_call0 {k : Nat} {x : Str} {ps : List Str} {S : SpT} {p : Pos} (c : Cal X.prog X.w X.K X.mg X.base k x ps S) (hr : Room k X.A) (hx : Passes (L2.CX X.prog X.w) X E) (h : S [] W O XC) (hg : Gl X x := by rfl)
    (hdb : (x == ("__debug__" : Str)) = false := by decide) : XE X E XC (.Call (.Name x p) [] [] pos) g W O := by
  obtain ⟨f, fd, F, hm, hk, hb⟩ := c.ex
  refine xe_of (pe_call0 F hr hg hm hk hb .nil hx hdb) fun σ H r k el Q q => ?_
  exact ⟨[], W, O, XC, .nil, k, el, q, h⟩
/-- what a def lets out reaches its caller's wish -/
theorem passX {P : Program} {w : World} {K : PySem.W.Frag} {mg : Str → Option Value} {base : Heap} {N : List Str} {q : Str} {sc : Scope} {f : Addr} {cd : Value} {A : Around} {outer : List Env} {s : Shared} {H : Hp} {E : XK} :
    Passes (L2.CX P w) (cxOf (L2.CX P w) P w K mg base N q sc f cd A outer s H E) E := passes_call (takes_of rfl rfl rfl rfl) fun _ _ _ _ h => h
theorem pass0X : Passes (L2.CX X.prog X.w) X E0 := passL

/-! ### built-ins -/
theorem xe_callB {x : Str} {id : String} {e : Expr} {es : List Expr} {p : Pos} {r : List V → Hp → VK → Prop} (hc : CallR X (.builtin id) r) (hm : X.mg x = none) (hv : bootBuiltins x = some (.builtin id))
    (h : XA X E XC (e :: es) g W fun ds W1 => ∀ vs H1 Q, RpAll X.K H1 vs ds → HpOk X.K H1 W1 → QL X.K H1 O Q → r vs H1 Q) (hg : Gl X x := by rfl) (hn : x ≠ "__name__" := by decide) (hdb : (x == ("__debug__" : Str)) = false := by decide)
    (hs : starEach (e :: es) X.env = (false, eval e X.env) :: starEach es X.env := by rfl) (hp : (backTo pos (starEach es X.env)).any (·.1) = false := by rfl) : XE X E XC (.Call (.Name x p) (e :: es) [] pos) g W O := by
  refine xe_of (pe_callB hc hg hm hv pa_W hn hdb hs hp) fun σ H r0 k el Q q => ?_
  exact h σ H r0 k el _ fun vs H1 ds W1 k1 o1 r1 h1 => h1 vs H1 Q r1 o1 (q.kp k1)
theorem xe_callTy {x : Str} {T : String} {e : Expr} {es : List Expr} {p : Pos} {r : List V → Hp → VK → Prop} (hc : CallR X (.type T) r) (hm : X.mg x = none) (hv : bootBuiltins x = some (.type T))
    (h : XA X E XC (e :: es) g W fun ds W1 => ∀ vs H1 Q, RpAll X.K H1 vs ds → HpOk X.K H1 W1 → QL X.K H1 O Q → r vs H1 Q) (hg : Gl X x := by rfl) (hn : x ≠ "__name__" := by decide) (hdb : (x == ("__debug__" : Str)) = false := by decide)
    (hs : starEach (e :: es) X.env = (false, eval e X.env) :: starEach es X.env := by rfl) (hp : (backTo pos (starEach es X.env)).any (·.1) = false := by rfl) : XE X E XC (.Call (.Name x p) (e :: es) [] pos) g W O := by
  refine xe_of (pe_callTy hc hg hm hv pa_W hn hdb hs hp) fun σ H r0 k el Q q => ?_
  exact h σ H r0 k el _ fun vs H1 ds W1 k1 o1 r1 h1 => h1 vs H1 Q r1 o1 (q.kp k1)
theorem xa1 {e : Expr} {O : List D → Om → Prop} (h : XE X E XC e g W fun d W1 => O [d] W1) (hs : starEach [e] X.env = (false, eval e X.env) :: starEach [] X.env := by rfl) : XA X E XC [e] g W O :=
  xa_cons (fun σ H r k el Q q => h σ H r k el Q fun v H1 d W1 k1 o1 r1 h1 => q v H1 d W1 k1 o1 r1 (xa_nil h1)) hs
theorem xa2 {e f : Expr} {O : List D → Om → Prop} (h : XE X E XC e g W fun d W1 => XE X E XC f g W1 fun d2 W2 => O [d, d2] W2) (hs : starEach [e, f] X.env = (false, eval e X.env) :: starEach [f] X.env := by rfl) (hs2 : starEach [f] X.env = (false, eval f X.env) :: starEach [] X.env := by rfl) : XA X E XC [e, f] g W O :=
  xa_cons (fun σ H r k el Q q => h σ H r k el Q fun v H1 d W1 k1 o1 r1 h1 => q v H1 d W1 k1 o1 r1 (xa1 h1 hs2)) hs
/-- a sequence's items -/
def SeqD (W : Om) : D → List D → Prop := fun d ds => match d with
  | .tup xs => ds = xs
  | .p l => W l = some (.lst ds)
  | .scr _ ns => ds = ns.map D.int
  | _ => False
theorem seqD_sq {K : PySem.W.Frag} {H : Hp} {v : V} {d : D} {ds : List D} (o : HpOk K H W) (r : Rp K H v d) (h : SeqD W d ds) : ∃ a xs, v = .ref a ∧ (SqL K H a xs ∨ SqT K H a xs) ∧ RpAll K H xs ds := by
  cases r with
  | @tup a xs es h1 h2 => cases (show ds = es from h); exact ⟨a, xs, rfl, .inr (.of h1), h2⟩
  | p a =>
    obtain ⟨xs, h1, h2⟩ := o a _ (show W a = some (.lst ds) from h)
    exact ⟨a, xs, rfl, .inl (.of h1), h2⟩
  | @scr a ns h1 => cases (show ds = ns.map D.int from h); exact ⟨a, _, rfl, .inl h1.sq, RpAll.ofInts ns⟩
  | _ => exact False.elim h
/-- len of a sequence or a text -/
def LenD (d : D) (W : Om) (O : OD) : Prop := match d with
  | .str x => x.length ≤ sizeLine ∧ O (.int x.length) W
  | d => ∃ ds, SeqD W d ds ∧ O (.int ds.length) W
theorem xe_len {p : Pos} (hm : X.mg "len" = none) (h : XE X E XC a g W fun d W1 => LenD d W1 O) (hg : Gl X "len" := by rfl) (hs : starEach [a] X.env = (false, eval a X.env) :: starEach [] X.env := by rfl) (hp : (backTo pos (starEach [] X.env)).any (·.1) = false := by rfl) :
    XE X E XC (.Call (.Name "len" p) [a] [] pos) g W O := by
  refine xe_callB call_len hm PySem.boot_len (xa1 (fun σ H r k el Q q => h σ H r k el Q fun v H1 d W1 k1 o1 r1 h1 => q v H1 d W1 k1 o1 r1 ?_) hs) hg (hs := hs) (hp := hp)
  intro vs H2 Q2 r2 o2 q2
  cases r2 with
  | @cons v2 _ _ _ rv rn =>
    cases rn
    have main : ∀ ds, SeqD W1 d ds → O (.int ds.length) W1 → ∃ x n, [v2] = [x] ∧ LenV X.K x H2 n ∧ Q2 (.int n) H2 := fun ds h2 h3 => by
      obtain ⟨a, xs, rfl, hsq, rx⟩ := seqD_sq o2 rv h2
      refine ⟨_, xs.length, rfl, ?_, q2 _ H2 _ W1 (Kp.refl _) o2 (.int _) (by rw [rx.length]; exact h3)⟩
      rcases hsq with z | z
      · exact .inl ⟨xs, z, rfl⟩
      · exact .inr ⟨xs, z, rfl⟩
    cases rv with
    | str z => exact ⟨_, z.length, rfl, ⟨h1.1, rfl⟩, q2 _ H2 _ W1 (Kp.refl _) o2 (.int _) h1.2⟩
    | _ => obtain ⟨ds, h2, h3⟩ := h1; exact main ds h2 h3
/-- max, min of two ints -/
theorem xe_max2 {p : Pos} (hm : X.mg "max" = none) (h : XE X E XC a g W fun d W1 => XE X E XC b g W1 fun e W2 => ∃ i j, d = .int i ∧ e = .int j ∧ O (.int (max i j)) W2) (hc : X.calm = true := by rfl) (hg : Gl X "max" := by rfl)
    (hs : starEach [a, b] X.env = (false, eval a X.env) :: starEach [b] X.env := by rfl) (hs2 : starEach [b] X.env = (false, eval b X.env) :: starEach [] X.env := by rfl) (hp : (backTo pos (starEach [b] X.env)).any (·.1) = false := by rfl) : XE X E XC (.Call (.Name "max" p) [a, b] [] pos) g W O := by
  refine xe_callB (call_max2 hc) hm (by decide +kernel) (xa2 (fun σ H r k el Q q => h σ H r k el Q fun v H1 d W1 k1 o1 r1 h1 => q v H1 d W1 k1 o1 r1 fun σ2 H2 r2 k2 el2 Q2 q2 => h1 σ2 H2 r2 k2 el2 Q2 fun v3 H3 e W3 k3 o3 r3 h3 => q2 v3 H3 e W3 k3 o3 r3 ?_) hs hs2) hg (hs := hs) (hp := hp)
  intro vs H4 Q4 r4 o4 q4
  obtain ⟨i, j, rfl, rfl, h5⟩ := h3
  cases r4 with
  | cons ra rb =>
    cases ra
    cases rb with
    | cons rb rc =>
      cases rb
      cases rc
      refine ⟨i, j, rfl, q4 _ H4 _ W3 (Kp.refl _) o4 (.int _) ?_⟩
      have e : (if j > i then j else i) = max i j := by by_cases hh : j > i <;> simp [hh] <;> omega
      rw [e]; exact h5
theorem xe_min2 {p : Pos} (hm : X.mg "min" = none) (h : XE X E XC a g W fun d W1 => XE X E XC b g W1 fun e W2 => ∃ i j, d = .int i ∧ e = .int j ∧ O (.int (min i j)) W2) (hc : X.calm = true := by rfl) (hg : Gl X "min" := by rfl)
    (hs : starEach [a, b] X.env = (false, eval a X.env) :: starEach [b] X.env := by rfl) (hs2 : starEach [b] X.env = (false, eval b X.env) :: starEach [] X.env := by rfl) (hp : (backTo pos (starEach [b] X.env)).any (·.1) = false := by rfl) : XE X E XC (.Call (.Name "min" p) [a, b] [] pos) g W O := by
  refine xe_callB (call_min2 hc) hm (by decide +kernel) (xa2 (fun σ H r k el Q q => h σ H r k el Q fun v H1 d W1 k1 o1 r1 h1 => q v H1 d W1 k1 o1 r1 fun σ2 H2 r2 k2 el2 Q2 q2 => h1 σ2 H2 r2 k2 el2 Q2 fun v3 H3 e W3 k3 o3 r3 h3 => q2 v3 H3 e W3 k3 o3 r3 ?_) hs hs2) hg (hs := hs) (hp := hp)
  intro vs H4 Q4 r4 o4 q4
  obtain ⟨i, j, rfl, rfl, h5⟩ := h3
  cases r4 with
  | cons ra rb =>
    cases ra
    cases rb with
    | cons rb rc =>
      cases rb
      cases rc
      refine ⟨i, j, rfl, q4 _ H4 _ W3 (Kp.refl _) o4 (.int _) ?_⟩
      have e : (if j < i then j else i) = min i j := by by_cases hh : j < i <;> simp [hh] <;> omega
      rw [e]; exact h5
/-- all of a list of truth values -/
theorem xe_all {p : Pos} (hm : X.mg "all" = none) (h : XE X E XC a g W fun d W1 => ∃ (l : Addr) (bs : List Bool), d = .p l ∧ W1 l = some (.lst (bs.map D.bl)) ∧ O (.bl (bs.all id)) W1) (hc : X.calm = true := by rfl) (hg : Gl X "all" := by rfl) (hs : starEach [a] X.env = (false, eval a X.env) :: starEach [] X.env := by rfl) (hp : (backTo pos (starEach [] X.env)).any (·.1) = false := by rfl) :
    XE X E XC (.Call (.Name "all" p) [a] [] pos) g W O := by
  refine xe_callB (cr_all hc) hm (by decide +kernel) (xa1 (fun σ H r k el Q q => h σ H r k el Q fun v H1 d W1 k1 o1 r1 h1 => q v H1 d W1 k1 o1 r1 ?_) hs) hg (hs := hs) (hp := hp)
  intro vs H2 Q2 r2 o2 q2
  obtain ⟨l, bs, rfl, hl, h2⟩ := h1
  cases r2 with
  | cons rv rn =>
    cases rn
    cases rv
    obtain ⟨xs, h3, h4⟩ := o2 l _ hl
    rw [h4.bls] at h3
    exact ⟨l, bs, rfl, .of h3, q2 _ H2 _ W1 (Kp.refl _) o2 (.bl _) h2⟩
/-- sum of a list of ints -/
theorem xe_sumL {p : Pos} (hm : X.mg "sum" = none) (h : XE X E XC a g W fun d W1 => ∃ (l : Addr) (ns : List Int), d = .p l ∧ W1 l = some (.lst (ns.map D.int)) ∧ O (.int ns.sum) W1) (hc : X.calm = true := by rfl) (hg : Gl X "sum" := by rfl) (hs : starEach [a] X.env = (false, eval a X.env) :: starEach [] X.env := by rfl) (hp : (backTo pos (starEach [] X.env)).any (·.1) = false := by rfl) :
    XE X E XC (.Call (.Name "sum" p) [a] [] pos) g W O := by
  refine xe_callB (cr_sum hc) hm (by decide +kernel) (xa1 (fun σ H r k el Q q => h σ H r k el Q fun v H1 d W1 k1 o1 r1 h1 => q v H1 d W1 k1 o1 r1 ?_) hs) hg (hs := hs) (hp := hp)
  intro vs H2 Q2 r2 o2 q2
  obtain ⟨l, bs, rfl, hl, h2⟩ := h1
  cases r2 with
  | cons rv rn =>
    cases rn
    cases rv
    obtain ⟨xs, h3, h4⟩ := o2 l _ hl
    rw [h4.ints] at h3
    exact ⟨l, bs, rfl, .of h3, q2 _ H2 _ W1 (Kp.refl _) o2 (.int _) h2⟩
/-- tuple(x), list(x) -/
theorem xe_tuple {p : Pos} (hm : X.mg "tuple" = none) (h : XE X E XC a g W fun d W1 => ∃ ds, SeqD W1 d ds ∧ O (.tup ds) W1) (hg : Gl X "tuple" := by rfl) (hs : starEach [a] X.env = (false, eval a X.env) :: starEach [] X.env := by rfl) (hp : (backTo pos (starEach [] X.env)).any (·.1) = false := by rfl) :
    XE X E XC (.Call (.Name "tuple" p) [a] [] pos) g W O := by
  refine xe_callTy call_tuple_of hm (by decide +kernel) (xa1 (fun σ H r k el Q q => h σ H r k el Q fun v H1 d W1 k1 o1 r1 h1 => q v H1 d W1 k1 o1 r1 ?_) hs) hg (hs := hs) (hp := hp)
  intro vs H2 Q2 r2 o2 q2
  obtain ⟨ds, hsq, h2⟩ := h1
  cases r2 with
  | cons rv rn =>
    cases rn
    cases rv with
    | @tup a xs es h3 h4 =>
      cases (show ds = es from hsq)
      exact ⟨a, xs, rfl, .inr ⟨.of h3, q2 _ H2 _ W1 (Kp.refl _) o2 (.tup h3 h4) h2⟩⟩
    | p l =>
      obtain ⟨xs, h3, h4⟩ := o2 l _ (show W1 l = some (.lst ds) from hsq)
      exact ⟨l, xs, rfl, .inl ⟨.of h3, fun p hp => q2 _ _ _ W1 (Kp.new hp) (o2.more hp) (.tup upd_same (h4.kp (Kp.new hp))) h2⟩⟩
    | @scr l ns h3 =>
      cases (show ds = ns.map D.int from hsq)
      exact ⟨l, _, rfl, .inl ⟨h3.sq, fun p hp => q2 _ _ _ W1 (Kp.new hp) (o2.more hp) (.tup upd_same (RpAll.ofInts ns)) h2⟩⟩
    | _ => exact False.elim hsq
theorem xe_list {p : Pos} (hm : X.mg "list" = none) (h : XE X E XC a g W fun d W1 => ∃ ds, SeqD W1 d ds ∧ ∀ l, W1 l = none → O (.p l) (updO W1 l (.lst ds))) (hg : Gl X "list" := by rfl) (hs : starEach [a] X.env = (false, eval a X.env) :: starEach [] X.env := by rfl) (hp : (backTo pos (starEach [] X.env)).any (·.1) = false := by rfl) :
    XE X E XC (.Call (.Name "list" p) [a] [] pos) g W O := by
  refine xe_callTy call_list_of hm (by decide +kernel) (xa1 (fun σ H r k el Q q => h σ H r k el Q fun v H1 d W1 k1 o1 r1 h1 => q v H1 d W1 k1 o1 r1 ?_) hs) hg (hs := hs) (hp := hp)
  intro vs H2 Q2 r2 o2 q2
  obtain ⟨ds, hsq, h2⟩ := h1
  cases r2 with
  | cons rv rn =>
    cases rn
    obtain ⟨a, xs, rfl, hx, rx⟩ := seqD_sq o2 rv hsq
    exact ⟨a, xs, rfl, hx, fun p hp => q2 _ _ _ _ (Kp.new hp) (o2.new (o := .lst ds) hp ⟨xs, upd_same, rx.kp (Kp.new hp)⟩) (.p p) (h2 p (o2.free hp))⟩
/-- isinstance(x, T) of a built-in class -/
def tyD (W : Om) : D → Option String
  | .non => some "NoneType"
  | .bl _ => some "bool"
  | .int _ => some "int"
  | .str _ => some "str"
  | .tup _ => some "tuple"
  | .p a => match W a with
    | some (.lst _) => some "list"
    | _ => none
  | _ => none
theorem tyD_ok {K : PySem.W.Frag} {H : Hp} {v : V} {d : D} {t : String} (o : HpOk K H W) (r : Rp K H v d) (h : tyD W d = some t) : TyX K H v (.type t) := by
  cases r with
  | non => cases h; exact .base .non
  | bl b => cases h; exact .base (.bl b)
  | int b => cases h; exact .base (.int b)
  | str b => cases h; exact .base (.str b)
  | tup h1 _ => cases h; exact .base (.tup h1)
  | p a =>
    simp only [tyD] at h
    split at h
    · rename_i ds q
      cases h
      obtain ⟨xs, h1, _⟩ := o a _ q
      exact .base (.lst h1)
    · cases h
  | scr _ => cases h
  | ty _ => cases h
  | exc _ _ _ _ => cases h
theorem xe_isi {p : Pos} (hm : X.mg "isinstance" = none) (h : XE X E XC a g W fun d W1 => XE X E XC b g W1 fun e W2 => ∃ n t r, e = .ty n ∧ tyD W2 d = some t ∧ kitB t n = some r ∧ O (.bl r) W2) (hg : Gl X "isinstance" := by rfl)
    (hs : starEach [a, b] X.env = (false, eval a X.env) :: starEach [b] X.env := by rfl) (hs2 : starEach [b] X.env = (false, eval b X.env) :: starEach [] X.env := by rfl) (hp : (backTo pos (starEach [b] X.env)).any (·.1) = false := by rfl) : XE X E XC (.Call (.Name "isinstance" p) [a, b] [] pos) g W O := by
  refine xe_callB call_isi hm (by decide +kernel) (xa2 (fun σ H r k el Q q => h σ H r k el Q fun v H1 d W1 k1 o1 r1 h1 => q v H1 d W1 k1 o1 r1 fun σ2 H2 r2 k2 el2 Q2 q2 => h1 σ2 H2 r2 k2 el2 Q2 fun v3 H3 e W3 k3 o3 r3 h3 => q2 v3 H3 e W3 k3 o3 r3 ?_) hs hs2) hg (hs := hs) (hp := hp)
  intro vs H4 Q4 r4 o4 q4
  obtain ⟨n, t, r, rfl, ht, hk, h5⟩ := h3
  cases r4 with
  | @cons v5 _ _ _ ra rb =>
    cases rb with
    | cons rb rc =>
      cases rb
      cases rc
      exact ⟨v5, .ty n, .type t, .type n, r, rfl, .ty n, tyD_ok o4 ra ht, kit_ty hk, q4 _ H4 _ W3 (Kp.refl _) o4 (.bl _) h5⟩
/-- xs.append(e) as a statement's expression -/
theorem xe_append {e : Expr} {apos : Pos} (h : XE X E XC a g W fun d W1 => ∃ l xs, d = .p l ∧ W1 l = some (.lst xs) ∧ XE X E XC e g W1 fun y W2 => ∃ ys, W2 l = some (.lst ys) ∧ ys.length < sizeLine ∧ O .non (updO W2 l (.lst (ys ++ [y]))))
    (hbase : attributeBase a "append" X.env (eval a X.env) = eval a X.env := by rfl)
    (hfew : ((backTo pos (starEach [e] X.env)).all (fun x => !x.1) && (backToKw pos (keywordEach [] X.env)).all (fun x => x.1.isSome) && decide ([e].length + ([] : List Keyword).length + (if ([] : List Keyword).isEmpty then 0 else 1) < 30)) = true := by rfl)
    (hline : (apos.endLine == pos.line) = true := by rfl) (hs : starEach [e] X.env = (false, eval e X.env) :: starEach [] X.env := by rfl) (hplain : (backTo pos (starEach [] X.env)).any (·.1) = false := by rfl) :
    XE X E XC (.Call (.Attribute a "append" apos) [e] [] pos) g W O := by
  refine xe_of (pe_bm PySem.F.plainAttrs_list PySem.F.slot_list_append PySem.F.type_list_append mt_append pe_W (pa_cons pe_W pa_nil hs) hbase hfew hline hs hplain) fun σ H r k el Q q => ?_
  refine h σ H r k el _ fun v H1 d W1 k1 o1 r1 ⟨l, xs, e1, hl, h1⟩ => ?_
  subst e1
  cases r1
  obtain ⟨zs, hz, _⟩ := o1 l _ hl
  refine ⟨.inl ⟨rfl, zs, .of hz⟩, h1 σ H1 (r.kp k1) o1 (el.kp k1) _ fun y H2 d2 W2 k2 o2 r2 ⟨ys, hy, hlen, h2⟩ => ?_⟩
  obtain ⟨us, hu, ru⟩ := o2 l _ hy
  have kk : Kp H2 (upd H2 l (.lst (us ++ [y]))) := Kp.at hu (fun _ z => by cases z) (fun _ _ z => by cases z)
  refine ⟨l, us, y, rfl, rfl, hu, by rw [ru.length]; exact hlen, ?_⟩
  exact q _ _ _ _ ((k1.trans k2).trans kk) (o2.set kk (o := .lst (ys ++ [d2])) ⟨_, upd_same, (ru.append (.cons r2 .nil)).kp kk⟩) .non h2
end
end SR
namespace SR
open PySem PySem.Spec PyProof.Rows L2
/-! ### sum of a tuple of ints -/
theorem sum_tup {prog : Program} {w : World} {A : Around} {E : Value → Shared → Prop} {s : Shared} {t : Addr} {its : List Value} {ns : List Int} {Q : Value → Shared → Prop} (hh : A.handled = none) (ht : IsTup s.heap t its.toArray) (hi : IntsAre its ns)
    (h : ∀ h' tk t', (∀ b o, s.heap.get? b = some o → h'.get? b = some o) → Q (.int ns.sum t') { s with heap := h', toks := tk }) : wpAny (model prog w) A (call (.builtin "sum") [.ref t]) Q E s := by
  obtain ⟨xs, e⟩ := hi.allInts.items
  have hn : numsOf (intItems xs).toList = ns := by rw [← e]; exact hi.numsOf
  rw [nums_intItems] at hn
  rw [e] at ht
  have hlt : t < s.heap.objs.size := ht.lt
  have htT : s.heap.IsTuple t (intItems xs) := ht
  refine call_sum_walkG (wpAny_pyIter_tuple htT ?_)
  refine ⟨_, _, _, _, _, _, numAt xs, rfl, Walks.tuple (A := A.in1) hh _ t (Nat.ne_of_lt hlt) (intItems xs), ⟨⟨_, Heap.get?_push_size _ rfl, rfl, rfl⟩, ht.push _⟩, ?_, (fun _ _ => intItems_at), fun h' tk t' hk => ?_⟩
  · intro b hb
    have hsz : (s.heap.push { cls := .type "tuple_iterator", data := .fields #[.ref t, .int 0 0] }).objs.size = s.heap.objs.size + 1 := Heap.size_push _ _
    simp only [List.mem_cons, List.not_mem_nil, or_false] at hb
    rcases hb with rfl | rfl
    · show _ < (s.heap.push _).objs.size
      rw [hsz]; exact Nat.lt_succ_self _
    · show _ < (s.heap.push _).objs.size
      rw [hsz]; exact Nat.lt_succ_of_lt hlt
  · have := h h' tk t' (fun b o e => hk b o (by simpa using Nat.ne_of_lt (Heap.lt_size e)) (Heap.get?_push_of_some _ e))
    rw [preSum_eq, show List.take (intItems xs).size _ = _ from List.take_of_length_le (by simp [intItems]), hn]
    exact this
section
variable {X : Cx}
def rSumT (K : PySem.W.Frag) : List V → Hp → VK → Prop := fun vs H Q => ∃ (a : Addr) (ns : List Int), vs = [V.ref a] ∧ SqT K H a (ns.map V.int) ∧ Q (.int ns.sum) H
theorem cr_sumT (hc : X.calm = true) : CallR X (.builtin "sum") (rSumT X.K) := by
  intro pins s σ H vs us Q I r h
  obtain ⟨a, ns, rfl, hs, q⟩ := h
  obtain ⟨its, rv, hl, _⟩ := I.tuple hs
  rw [Vals.ref1 r]
  exact sum_tup (I.ok.hd hc) hl rv.ints fun h' tk t' hk => ⟨.int _, H, I.kept hk, ⟨_, rfl⟩, q⟩
/-! ### tuple * int -/
theorem tuple_mul1 (l : Addr) (items : Array Value) (n : Nat) (dd : Option Addr) (sl : Array (Option Value)) (x : Int) (u : Tok) (c0 : (decide (x < -(2 ^ 63)) || decide (x ≥ 2 ^ 63)) = false) (c1 : (items.isEmpty || x == 1) = true) :
    Meets (Builtin.«tuple.__mul__» ⟨[.ref l, .int x u], []⟩) (fun _ R s => s.heap.get? l = some { cls := .type "tuple", dict := dd, data := .seq items n, slots := sl } ∧ R (.ok (.ret (Value.ref l))) s) :=
  .of_wp fun prog w A R s h => by
    obtain ⟨hp, g, d, tk, os⟩ := s
    obtain ⟨hl, h⟩ := h
    have f1 := AutoSeq1.idx_int
    wp_walk using wpAny_loadPart' hl
    repeat (first
      | (refine wpAny_ite_false (decide_eq_false (by rw [c0]; exact Bool.false_ne_true)) ?_; wp_walk using wpAny_loadPart' hl)
      | (refine wpAny_ite_true (decide_eq_true (by rw [c1])) ?_; wp_walk using wpAny_loadPart' hl))
    exact ⟨_, rfl, h⟩
theorem tuple_mul0 (l : Addr) (items : Array Value) (n : Nat) (dd : Option Addr) (sl : Array (Option Value)) (x : Int) (u : Tok) (c0 : (decide (x < -(2 ^ 63)) || decide (x ≥ 2 ^ 63)) = false) (c1 : (items.isEmpty || x == 1) = false) (c2 : (decide (x ≤ 0) || items.isEmpty) = true) :
    Meets (Builtin.«tuple.__mul__» ⟨[.ref l, .int x u], []⟩) (fun _ R s => s.heap.get? l = some { cls := .type "tuple", dict := dd, data := .seq items n, slots := sl } ∧
      R (.ok (.ret (Value.ref s.heap.objs.size))) { s with heap := s.heap.push { cls := Value.type "tuple", data := Data.seq #[] }, toks := s.toks }) :=
  .of_wp fun prog w A R s h => by
    obtain ⟨hp, g, d, tk, os⟩ := s
    obtain ⟨hl, h⟩ := h
    have f1 := AutoSeq1.idx_int
    wp_walk using wpAny_loadPart' hl
    repeat (first
      | (refine wpAny_ite_false (decide_eq_false (by rw [c0]; exact Bool.false_ne_true)) ?_; wp_walk using wpAny_loadPart' hl)
      | (refine wpAny_ite_false (decide_eq_false (by rw [c1]; exact Bool.false_ne_true)) ?_; wp_walk using wpAny_loadPart' hl)
      | (refine wpAny_ite_true (decide_eq_true (by rw [c2])) ?_; wp_walk using wpAny_loadPart' hl)
      | (refine wpAny_ite_false (decide_eq_false (Nat.not_lt.mpr (Nat.zero_le _))) ?_; wp_walk using wpAny_loadPart' hl))
    exact ⟨_, rfl, h⟩
/-- t * k, t not empty -/
def rRepA (K : PySem.W.Frag) : R2 := fun x y H Q => ∃ l k xs, x = .ref l ∧ y = .int k ∧ SqT K H l xs ∧ xs ≠ [] ∧ 0 ≤ k ∧ k ≤ 1000 ∧ xs.length ≤ 1000 ∧ (k = 1 → Q (.ref l) H) ∧ (k ≠ 1 → ∀ p, H p = none → Q (.ref p) (upd H p (.tup (List.replicate k.toNat xs).flatten)))
theorem op_repA : OpR X (binaryOp .Mult) (rRepA X.K) := by
  intro pins s σ H x y v u Q I rx ry h
  obtain ⟨l, k, xs, rfl, rfl, hT, hne, h1, h2, hz, q1, q2⟩ := h
  by_cases hk : 2 ≤ k
  · exact op_repT pins s σ H _ _ v u Q I rx ry ⟨l, k, xs, rfl, rfl, hT, hne, hk, h2, hz, q2 (by omega)⟩
  cases rx
  obtain ⟨t, rfl⟩ := ry
  obtain ⟨its, r, ⟨⟨cls, dd, data, sl⟩, ho, hc, n, hd⟩, hs⟩ := I.tuple hT
  simp only at hc hd
  subst hc hd
  have hle : its.length = xs.length := r.length.symm
  have hn : its ≠ [] := fun e => hne (by
    rw [e] at hle
    exact List.eq_nil_of_length_eq_zero hle.symm)
  have hi : its.toArray.isEmpty = false := by
    cases its with
    | nil => exact absurd rfl hn
    | cons a b => rfl
  have c0 : (decide (k < -(2 ^ 63)) || decide (k ≥ 2 ^ 63)) = false := by
    rw [decide_eq_false (by omega), decide_eq_false (by omega)] <;> rfl
  by_cases hk1 : k = 1
  · refine wpAny_binaryOp_repeat_ref (T := "tuple") (U := "int") (by decide) ⟨_, ho, rfl⟩ (fun s' => typeIs_int s' k t) noFill_tuple_mul F.fills_int_mul F.slot_int_rmul repeat_tuple F.slot_int_index.lookup
      (call_meets F.slot_int_rmul (typeIs_int s k t) F.entry_int_rmul (F.args_int_rmul_2 _ _) (int_rmul_tuple k t l its.toArray n dd sl)
        ⟨ho, rfl, ⟨_, ho, rfl⟩, call_meets F.slot_tuple_mul ⟨_, ho, rfl⟩ F.entry_tuple_mul (F.args_tuple_mul_2 _ _) (tuple_mul1 l its.toArray n dd sl k t c0 (by rw [hi, hk1]; rfl)) ⟨ho, ?_⟩⟩)
    exact ⟨.ref l, H, I, rfl, q1 hk1⟩
  · have c1 : (its.toArray.isEmpty || k == 1) = false := by
      rw [hi, Bool.false_or]
      exact beq_eq_false_iff_ne.mpr (by omega)
    have c2 : (decide (k ≤ 0) || its.toArray.isEmpty) = true := by
      rw [decide_eq_true (by omega)] <;> rfl
    refine wpAny_binaryOp_repeat_ref (T := "tuple") (U := "int") (by decide) ⟨_, ho, rfl⟩ (fun s' => typeIs_int s' k t) noFill_tuple_mul F.fills_int_mul F.slot_int_rmul repeat_tuple F.slot_int_index.lookup
      (call_meets F.slot_int_rmul (typeIs_int s k t) F.entry_int_rmul (F.args_int_rmul_2 _ _) (int_rmul_tuple k t l its.toArray n dd sl)
        ⟨ho, rfl, ⟨_, ho, rfl⟩, call_meets F.slot_tuple_mul ⟨_, ho, rfl⟩ F.entry_tuple_mul (F.args_tuple_mul_2 _ _) (tuple_mul0 l its.toArray n dd sl k t c0 c1 c2) ⟨ho, ?_⟩⟩)
    have e0 : (List.replicate k.toNat xs).flatten = [] := by rw [show k.toNat = 0 by omega]; rfl
    refine ⟨.ref s.heap.objs.size, _, I.laid (t' := s.toks) (o := .tup (List.replicate k.toNat xs).flatten) (fun b ob q => Heap.get?_push_of_some _ q) (Nat.le_refl _) ?_, rfl, q2 hk1 _ (I.hok.fresh (Nat.le_refl _))⟩
    rw [e0]
    exact ⟨Nat.zero_le _, [], .nil, IsTup.new _ _⟩
end
section
variable {X : Cx} {E : XK} {XC : XCt} {g : Ga} {W : Om} {a b c : Expr} {pos : Pos} {O : OD}
/-- *: ints, a tuple or a list times an int -/
def MulD : R2D := fun d e W O => match d, e with
  | .int i, .int j => CMul i j ∧ O (.int (i * j)) W
  | .tup xs, .int k => xs ≠ [] ∧ 0 ≤ k ∧ k ≤ 1000 ∧ xs.length ≤ 1000 ∧ O (.tup (List.replicate k.toNat xs).flatten) W
  | .p l, .int k => ∃ xs, W l = some (.lst xs) ∧ 0 ≤ k ∧ k ≤ 1000 ∧ xs.length ≤ 1000 ∧ ∀ p, W p = none → O (.p p) (updO W p (.lst (List.replicate k.toNat xs).flatten))
  | _, _ => False
theorem op2_mul (K : PySem.W.Frag) : Op2 K (fun x y H Q => (rI CMul fun i j => .int (i * j)) x y H Q ∨ rRepA K x y H Q ∨ rRep x y H Q) MulD := by
  intro x y d e H W O Q rx ry o q h
  cases rx with
  | int i =>
    cases ry with
    | int j => exact .inl ⟨i, j, rfl, rfl, h.1, q _ H _ W (Kp.refl H) o (.int _) h.2⟩
    | _ => exact False.elim h
  | @tup l xs ds hl hx =>
    cases ry with
    | int k =>
      obtain ⟨hn, h1, h2, hz, h⟩ := h
      refine .inr (.inl ⟨l, k, xs, rfl, rfl, .of hl, fun e => hn (by subst e; cases hx; rfl), h1, h2, by rw [hx.length]; exact hz, fun e => ?_, fun e p hp => ?_⟩)
      · subst e
        have e1 : (List.replicate (1 : Int).toNat ds).flatten = ds := by
          show (List.replicate 1 ds).flatten = ds
          simp
        rw [e1] at h
        exact q _ H _ W (Kp.refl H) o (.tup hl hx) h
      · exact q _ _ _ W (Kp.new hp) (o.more hp) (.tup upd_same ((hx.rep _).kp (Kp.new hp))) h
    | _ => exact False.elim h
  | p l =>
    cases ry with
    | int k =>
      obtain ⟨ds, h0, h1, h2, hz, h⟩ := h
      obtain ⟨xs, h3, hx⟩ := o l _ h0
      have hz2 : xs.length * k.toNat ≤ sizeLine := by
        rw [sizeLine_eq, hx.length]
        have a1 : ds.length * k.toNat ≤ 1000 * 1000 := Nat.mul_le_mul hz (by omega)
        omega
      refine .inr (.inr ⟨l, k, xs, rfl, rfl, h3, by omega, by omega, hz2, fun p hp => ?_⟩)
      exact q _ _ _ _ (Kp.new hp) (o.new (o := .lst (List.replicate k.toNat ds).flatten) hp ⟨_, upd_same, (hx.rep _).kp (Kp.new hp)⟩) (.p p) (h p (o.free hp))
    | _ => exact False.elim h
  | _ => exact False.elim (by cases ry <;> exact h)
theorem xe_times (h : XE X E XC a g W fun d W1 => XE X E XC b g W1 fun e W2 => MulD d e W2 O) : XE X E XC (.BinOp a .Mult b pos) g W O :=
  xe_of (pe_op (op_mul.or (op_repA.or op_rep)) pe_W pe_W) (ex_op (op2_mul X.K) h)
/-- sum of a tuple, a list of ints -/
theorem xe_sum {p : Pos} (hm : X.mg "sum" = none) (h : XE X E XC a g W fun d W1 => ∃ ns : List Int, SeqD W1 d (ns.map D.int) ∧ O (.int ns.sum) W1) (hc : X.calm = true := by rfl) (hg : Gl X "sum" := by rfl) (hs : starEach [a] X.env = (false, eval a X.env) :: starEach [] X.env := by rfl) (hp : (backTo pos (starEach [] X.env)).any (·.1) = false := by rfl) :
    XE X E XC (.Call (.Name "sum" p) [a] [] pos) g W O := by
  refine xe_callB ((cr_sum hc).or (cr_sumT hc)) hm (by decide +kernel) (xa1 (fun σ H r k el Q q => h σ H r k el Q fun v H1 d W1 k1 o1 r1 h1 => q v H1 d W1 k1 o1 r1 ?_) hs) hg (hs := hs) (hp := hp)
  intro vs H2 Q2 r2 o2 q2
  obtain ⟨ns, hsq, h2⟩ := h1
  cases r2 with
  | cons rv rn =>
    cases rn
    obtain ⟨a, xs, rfl, hx, rx⟩ := seqD_sq o2 rv hsq
    rw [rx.ints] at hx
    rcases hx with hx | hx
    · exact .inl ⟨a, ns, rfl, hx, q2 _ H2 _ W1 (Kp.refl _) o2 (.int _) h2⟩
    · exact .inr ⟨a, ns, rfl, hx, q2 _ H2 _ W1 (Kp.refl _) o2 (.int _) h2⟩
end
end SR
namespace SR
open PySem PySem.Spec PyProof.Rows L2
/-- the slots of a block's own names forgotten -/
def wipeG (g : Ga) : List Nat → Ga
  | [] => g
  | v :: vs => (wipeG g vs).set v none
theorem wipeG_len (g : Ga) : ∀ vs : List Nat, (wipeG g vs).length = g.length
  | [] => rfl
  | v :: vs => by unfold wipeG; rw [List.length_set, wipeG_len g vs]
theorem rpS_none {K : PySem.W.Frag} {H : Hp} {σ : St} {g : Ga} (h : RpS K H σ g) (i : Nat) : RpS K H (σ.set i none) (g.set i none) := by
  refine ⟨by rw [List.length_set, List.length_set]; exact h.len, fun j e q => ?_⟩
  by_cases hj : i = j
  · subst hj
    by_cases hl : i < g.length
    · rw [List.getElem?_set_self hl] at q; cases q
    · rw [List.getElem?_eq_none (by rw [List.length_set]; omega)] at q; cases q
  · rw [List.getElem?_set_ne hj] at q
    obtain ⟨u, a, b⟩ := h.get j e q
    exact ⟨u, by rw [List.getElem?_set_ne hj]; exact a, b⟩
theorem rpS_wipe {K : PySem.W.Frag} {H : Hp} {σ : St} {g : Ga} (h : RpS K H σ g) : ∀ vs : List Nat, RpS K H (wipe σ vs) (wipeG g vs)
  | [] => h
  | v :: vs => rpS_none (rpS_wipe h vs) v
section
variable {X : Cx} {E : XK} {XC : XCt} {g : Ga} {W : Om} {a b c : Expr} {pos : Pos} {O : OD}
/-- the block of a comprehension -/
abbrev Blk (X : Cx) (scope : Scope) (s : Shared) (H : Hp) (C : Addr) (cl : List (Str × Addr)) (fp : List Addr) : Cx := X.blk s H scope (compEnvC scope cl C X.env) fp
def XTs (Y : Cx) (ifs : List Expr) (g : Ga) (W : Om) (O : Bool → Om → Prop) : Prop := match ifs with
  | [] => O true W
  | [c] => XT Y E0 XC0 c g W O
  | _ => False
/-- the target of a comprehension's for: the slots it fills, by data -/
structure LcTg (X : Cx) (scope : Scope) (tg : Expr) (vs : List Nat) (put : D → Ga → Option Ga) : Prop where
  ex : ∃ t : TG, (∀ (s : Shared) (H : Hp) (C : Addr) (cl : List (Str × Addr)) (fp : List Addr), PG (Blk X scope s H C cl fp) tg t) ∧
    ∀ (v : V) (d : D) (σ : St) (H : Hp) (g g2 : Ga) (Q : St → Hp → Prop), RpS X.K H σ g → Rp X.K H v d → put d g = some g2 → (∀ σ2, RpS X.K H σ2 g2 → wipe σ2 vs = wipe σ vs → Q σ2 H) → t v σ H Q
theorem set_none_of {α : Type} (l : List (Option α)) (i : Nat) (x : Option α) : (l.set i x).set i none = l.set i none := List.set_set ..
theorem lcTg_name {scope : Scope} {x : Str} {p : Pos} (i : Nat) (hN : X.N.Nodup) (hi : X.N[i]? = some x := by rfl) (hx : ∀ (s : Shared) (H : Hp) (C : Addr) (cl : List (Str × Addr)) (fp : List Addr), Loc (Blk X scope s H C cl fp).env.scope x := by intros; first | exact .inl rfl | exact .inr rfl)
    (hf : ∀ (s : Shared) (H : Hp) (C : Addr) (cl : List (Str × Addr)) (fp : List Addr), (Blk X scope s H C cl fp).fn x = true ∨ (Blk X scope s H C cl fp).env.scope.names.lookup x = some .local := by intros; first | exact .inl rfl | exact .inr rfl) : LcTg X scope (.Name x p) [i] (fun d g => some (g.set i (some d))) :=
  ⟨gName i, fun s H C cl fp => pg_name (X := Blk X scope s H C cl fp) (i := i) hN hi (hx s H C cl fp) (hf s H C cl fp), fun v d σ H g g2 Q r rv hp q => by
    cases hp
    exact q _ (r.set i rv) (set_none_of σ i (some v))⟩
def put2 (i j : Nat) (d : D) (g : Ga) : Option Ga := match d with
  | .tup [x, y] => some ((g.set i (some x)).set j (some y))
  | _ => none
theorem wipe2 (σ : St) (i j : Nat) (x y : Option V) : wipe ((σ.set i x).set j y) [i, j] = wipe σ [i, j] := by
  unfold wipe wipe wipe
  by_cases h : i = j
  · subst h
    rw [List.set_set, List.set_set, List.set_set, List.set_set]
  · rw [List.set_set, List.set_comm _ _ (Ne.symm h), List.set_set, List.set_comm _ _ h]
theorem lcTg_two {scope : Scope} {x y : Str} {p p2 p3 : Pos} {k : Nat} (i j : Nat) (hN : X.N.Nodup) (hc : X.calm = true := by rfl) (hi : X.N[i]? = some x := by rfl) (hj : X.N[j]? = some y := by rfl)
    (hx : ∀ (s : Shared) (H : Hp) (C : Addr) (cl : List (Str × Addr)) (fp : List Addr), Loc (Blk X scope s H C cl fp).env.scope x := by intros; first | exact .inl rfl | exact .inr rfl)
    (hf : ∀ (s : Shared) (H : Hp) (C : Addr) (cl : List (Str × Addr)) (fp : List Addr), (Blk X scope s H C cl fp).fn x = true ∨ (Blk X scope s H C cl fp).env.scope.names.lookup x = some .local := by intros; first | exact .inl rfl | exact .inr rfl)
    (hy : ∀ (s : Shared) (H : Hp) (C : Addr) (cl : List (Str × Addr)) (fp : List Addr), Loc (Blk X scope s H C cl fp).env.scope y := by intros; first | exact .inl rfl | exact .inr rfl)
    (hf2 : ∀ (s : Shared) (H : Hp) (C : Addr) (cl : List (Str × Addr)) (fp : List Addr), (Blk X scope s H C cl fp).fn y = true ∨ (Blk X scope s H C cl fp).env.scope.names.lookup y = some .local := by intros; first | exact .inl rfl | exact .inr rfl) :
    LcTg X scope (.Tuple [.Name x p, .Name y p2] k p3) [i, j] (put2 i j) :=
  ⟨gTup X.K 2 (gCons (gName i) (gCons (gName j) gNil)), fun s H C cl fp => pg_tup (X := Blk X scope s H C cl fp) hc (pgs_cons (pg_name (i := i) hN hi (hx s H C cl fp) (hf s H C cl fp)) (pgs_cons (pg_name (i := j) hN hj (hy s H C cl fp) (hf2 s H C cl fp)) pgs_nil)), fun v d σ H g g2 Q r rv hp q => by
    unfold put2 at hp
    split at hp
    · rename_i d1 d2
      cases hp
      cases rv with
      | @tup a xs _ h1 h2 =>
        cases h2 with
        | @cons v1 _ _ _ ra rb =>
          cases rb with
          | @cons v2 _ _ _ rb rc =>
            cases rc
            exact ⟨a, _, rfl, .of h1, rfl, v1, [v2], rfl, v2, [], rfl, rfl, q _ ((r.set i ra).set j rb) (wipe2 σ i j _ _)⟩
    · cases hp⟩
/-- a comprehension's parts and their reading over data -/
def LcR (X : Cx) (E : XK) (XC : XCt) (elt tg iter : Expr) (ifs : List Expr) (scope : Scope) (own : List (Str × Nat)) (g : Ga) (W : Om) (O : OD) : Prop :=
  ∃ (wi : TI) (t : TG) (tt : TT) (te : TE), PI X tg iter wi ∧ (∀ (s : Shared) (H : Hp) (C : Addr) (cl : List (Str × Addr)) (fp : List Addr), PG (Blk X scope s H C cl fp) tg t) ∧ (∀ (s : Shared) (H : Hp) (C : Addr) (cl : List (Str × Addr)) (fp : List Addr), PTs (Blk X scope s H C cl fp) ifs tt) ∧
    (∀ (s : Shared) (H : Hp) (C : Addr) (cl : List (Str × Addr)) (fp : List Addr), PE (Blk X scope s H C cl fp) elt te) ∧ Ex X.K E XC (tLc wi t tt te (own.map (·.2))) g W O
theorem xe_lcR {elt tg iter : Expr} {ifs : List Expr} {scope : Scope} {own : List (Str × Nat)} (hN : X.N.Nodup) (ok : BlkOk X.N X.env.scope scope own) (h : LcR X E XC elt tg iter ifs scope own g W O)
    (hc : X.calm = true := by rfl) (hs : ∀ x, foldedSetIterable iter X.env x = pure x := by intro _; rfl) : XE X E XC (.ListComp elt [⟨tg, iter, ifs, 0⟩] scope pos) g W O := by
  obtain ⟨wi, t, tt, te, h1, h2, h3, h4, h5⟩ := h
  exact xe_of (pe_lc hc hN h1 ok h2 h3 h4 hs) h5
theorem xs_setR (i : Nat) {y : Str} {py spos : Pos} {C : EndD} {elt tg iter : Expr} {ifs : List Expr} {scope : Scope} {own : List (Str × Nat)} (hN : X.N.Nodup) (ok : BlkOk X.N X.env.scope scope own) (h : LcR X E XC elt tg iter ifs scope own g W fun d W1 => C.nx (g.set i (some d)) W1)
    (hy : X.N[i]? = some y := by rfl) (hyl : X.env.scope.names.lookup y = some .local := by rfl) (hsw : swapsWith (.ListComp elt [⟨tg, iter, ifs, 0⟩] scope pos) (some (.Name y py)) spos.line X.env = pure true := by exact sw_true rfl rfl rfl (by decide +kernel))
    (hc : X.calm = true := by rfl) (hs : ∀ x, foldedSetIterable iter X.env x = pure x := by intro _; rfl) : XS X E XC (.Assign [.Name y py] (.ListComp elt [⟨tg, iter, ifs, 0⟩] scope pos) spos) g W C := by
  obtain ⟨wi, t, tt, te, h1, h2, h3, h4, h5⟩ := h
  refine xs_of (ps_setLc hc hN hy hyl hsw h1 ok h2 h3 h4 hs) fun D σ H r k el l => ?_
  exact h5 σ H r k el _ fun v H1 d W1 k1 o1 r1 h1 => l.nx _ H1 _ W1 k1 o1 ((r.kp k1).set i r1) h1
/-- the reading of a comprehension over data, I the invariant: turn, the items so far, the map -/
theorem lc_R {elt tg iter : Expr} {ifs : List Expr} {scope : Scope} (own : List (Str × Nat)) {put : D → Ga → Option Ga} (tg_ok : LcTg X scope tg (own.map (·.2)) put)
    (h : XI X E XC tg iter g W fun ds okk W1 => ∀ l, W1 l = none → ∃ I : Nat → List D → Om → Prop, I 0 [] (updO W1 l (.lst [])) ∧ (∀ i acc W', I i acc W' → okk W' ∧ W' l = some (.lst acc) ∧ acc.length ≤ i) ∧ ds.length ≤ sizeLine ∧
      (∀ i d acc W', ds[i]? = some d → I i acc W' → ∃ g2, put d (wipeG g (own.map (·.2))) = some g2 ∧ ∀ (s : Shared) (H : Hp) (C : Addr) (cl : List (Str × Addr)) (fp : List Addr),
        XTs (Blk X scope s H C cl fp) ifs g2 W' fun k W3 => (k = true → ∀ (s : Shared) (H : Hp) (C : Addr) (cl : List (Str × Addr)) (fp : List Addr), XE (Blk X scope s H C cl fp) E0 XC0 elt g2 W3 fun y W4 => W4 l = some (.lst acc) ∧ I (i + 1) (acc ++ [y]) (updO W4 l (.lst (acc ++ [y])))) ∧ (k = false → I (i + 1) acc W3)) ∧
      (∀ acc W', I ds.length acc W' → O (.p l) W')) : LcR X E XC elt tg iter ifs scope own g W O := by
  obtain ⟨wi, hi, hw⟩ := h
  obtain ⟨t, ht, hrun⟩ := tg_ok.ex
  have hif : ∃ tt : TT, (∀ (s : Shared) (H : Hp) (C : Addr) (cl : List (Str × Addr)) (fp : List Addr), PTs (Blk X scope s H C cl fp) ifs tt) ∧
      ∀ (g2 : Ga) (W2 : Om) (O2 : Bool → Om → Prop), (∀ (s : Shared) (H : Hp) (C : Addr) (cl : List (Str × Addr)) (fp : List Addr), XTs (Blk X scope s H C cl fp) ifs g2 W2 O2) →
        ∀ (σ : St) (H : Hp), RpS X.K H σ g2 → HpOk X.K H W2 → ∀ Q : Bool → Hp → Prop, (∀ b H' W', Kp H H' → HpOk X.K H' W' → O2 b W' → Q b H') → tt σ H Q := by
    match ifs with
    | [] => exact ⟨tYes, fun s H C cl fp => pts_nil, fun g2 W2 O2 h2 σ H r o Q q => q true H W2 (Kp.refl H) o (h2 X.s_0 H 0 [] [])⟩
    | [c] => exact ⟨fun σ H Q => ∀ (s : Shared) (H0 : Hp) (C : Addr) (cl : List (Str × Addr)) (fp : List Addr), ttW (Blk X scope s H0 C cl fp) c σ H Q,
        fun s H C cl fp => pts_one ⟨fun pins s1 σ H1 Q I h => h s H C cl fp pins s1 I⟩, fun g2 W2 O2 h2 σ H r o Q q s H0 C cl fp => h2 s H0 C cl fp σ H r o el0 Q q⟩
    | _ :: _ :: _ => exact ⟨fun _ _ _ => False, fun s H C cl fp => ⟨fun _ _ _ _ _ _ h => h.elim⟩, fun g2 W2 O2 h2 => (h2 X.s_0 (fun _ => none) 0 [] []).elim⟩
  obtain ⟨tt, htt, hit⟩ := hif
  refine ⟨wi, t, tt, fun σ H Q => ∀ (s : Shared) (H0 : Hp) (C : Addr) (cl : List (Str × Addr)) (fp : List Addr), tW (Blk X scope s H0 C cl fp) elt σ H Q, hi, ht, htt, (fun s H C cl fp => ⟨fun pins s1 σ H1 Q I h => h s H C cl fp pins s1 I⟩), fun σ H r k el Q q => ?_⟩
  refine hw σ H r k el _ fun J H1 ds okk W1 k1 o1 it h1 => ?_
  intro l hl
  obtain ⟨I, h0, hI, hz, hturn, hend⟩ := h1 l (o1.free hl)
  have kn : Kp H1 (upd H1 l (.lst [])) := Kp.new hl
  refine ⟨fun i m H2 => m = ds.length - i ∧ i ≤ ds.length ∧ ∃ acc W', Kp (upd H1 l (.lst [])) H2 ∧ HpOk X.K H2 W' ∧ I i acc W', ⟨ds.length, rfl, Nat.zero_le _, [], _, Kp.refl _, o1.new (o := .lst []) hl ⟨[], upd_same, .nil⟩, h0⟩, ?_⟩
  rintro i m H2 ⟨rfl, hil, acc, W', k2, o2, hi2⟩
  obtain ⟨hok, hlst, hacc⟩ := hI i acc W' hi2
  have kb : Kp H1 H2 := kn.trans k2
  obtain ⟨hgo, hst⟩ := it i H2 W' kb o2 hok
  by_cases hlt : i < ds.length
  · obtain ⟨go, hy⟩ := hgo hlt
    refine .inr ⟨go, fun H3 => ∃ acc3 W3, Kp (upd H1 l (.lst [])) H3 ∧ HpOk X.K H3 W3 ∧ I (i + 1) acc3 W3, fun H3 h3 => ⟨ds.length - (i + 1), by omega, rfl, hlt, h3⟩, fun x H' y => ?_⟩
    obtain ⟨k3, o3, d, hd, rx⟩ := hy x H' y
    obtain ⟨g2, hput, hx⟩ := hturn i d acc W' hd hi2
    refine hrun x d _ H' _ g2 _ (rpS_wipe (((r.kp k1).kp kb).kp k3) _) rx hput fun σ2 r2 hwp => ⟨?_, ?_⟩
    · rw [hwp]
      have hww : ∀ (vs : List Nat) (σ : St), wipe (wipe σ vs) vs = wipe σ vs := by
        intro vs
        have aux : ∀ (us : List Nat) (σ : St) (v : Nat), v ∈ us → (wipe σ us).set v none = wipe σ us := by
          intro us
          induction us with
          | nil => intro σ v hv; cases hv
          | cons u us ih =>
            intro σ v hv
            unfold wipe
            by_cases hvu : v = u
            · subst hvu; rw [List.set_set]
            · rcases List.mem_cons.mp hv with e | e
              · exact absurd e hvu
              · rw [List.set_comm _ _ (Ne.symm hvu), ih σ v e]
        have aux2 : ∀ (us vs : List Nat) (σ : St), (∀ u ∈ us, u ∈ vs) → wipe (wipe σ vs) us = wipe σ vs := by
          intro us vs
          induction us with
          | nil => intro σ _; rfl
          | cons u us ih =>
            intro σ hs
            show (wipe (wipe σ vs) us).set u none = wipe σ vs
            rw [ih σ (fun z hz => hs z (List.mem_cons_of_mem _ hz)), aux vs σ u (hs u List.mem_cons_self)]
        exact fun σ => aux2 vs vs σ fun _ h => h
      exact hww _ _
    · refine hit g2 W' _ hx σ2 H' r2 o3 _ fun b H4 W4 k4 o4 ⟨ha, hb⟩ => ?_
      cases b with
      | false => rw [if_neg Bool.false_ne_true]; exact ⟨acc, W4, (k2.trans k3).trans k4, o4, hb rfl⟩
      | true =>
        rw [if_pos rfl]
        intro s H0 C cl fp
        refine ha rfl s H0 C cl fp σ2 H4 (r2.kp k4) o4 el0 _ fun y H5 e W5 k5 o5 r5 ⟨h5, h6⟩ => ?_
        obtain ⟨xs, hxs, rxs⟩ := o5 l _ h5
        have kk : Kp H5 (upd H5 l (.lst (xs ++ [y]))) := Kp.at hxs (fun _ z => by cases z) (fun _ _ z => by cases z)
        refine ⟨xs, hxs, by rw [rxs.length]; omega, acc ++ [e], _, (((k2.trans k3).trans k4).trans k5).trans kk, o5.set kk (o := .lst (acc ++ [e])) ⟨_, upd_same, (rxs.append (.cons r5 .nil)).kp kk⟩, h6⟩
  · have e : i = ds.length := by omega
    subst e
    exact .inl ⟨hst (Nat.le_refl _), q _ H2 _ W' (k1.trans kb) o2 (.p l) (hend acc W' hi2)⟩
/-- the pure form: every item is read without a change; f says what comes of it (none: left out) -/
theorem lcP_R {elt tg iter : Expr} {ifs : List Expr} {scope : Scope} (own : List (Str × Nat)) {put : D → Ga → Option Ga} (tg_ok : LcTg X scope tg (own.map (·.2)) put)
    (h : XI X E XC tg iter g W fun ds okk W1 => (∀ W2, Sub W1 W2 → okk W2) ∧ ds.length ≤ sizeLine ∧ ∃ f : D → Option D,
      (∀ (i : Nat) d W2, ds[i]? = some d → Sub W1 W2 → ∃ g2, put d (wipeG g (own.map (·.2))) = some g2 ∧ ∀ (s : Shared) (H : Hp) (C : Addr) (cl : List (Str × Addr)) (fp : List Addr),
        XTs (Blk X scope s H C cl fp) ifs g2 W2 fun k W3 => Sub W2 W3 ∧ (k = true → ∀ (s : Shared) (H : Hp) (C : Addr) (cl : List (Str × Addr)) (fp : List Addr), XE (Blk X scope s H C cl fp) E0 XC0 elt g2 W3 fun y W4 => Sub W3 W4 ∧ f d = some y) ∧ (k = false → f d = none)) ∧
      (∀ l, W1 l = none → O (.p l) (updO W1 l (.lst (ds.filterMap f))))) : LcR X E XC elt tg iter ifs scope own g W O := by
  obtain ⟨wi, hi, hw⟩ := h
  -- the end may forget what the turns have laid
  have key : LcR X E XC elt tg iter ifs scope own g W fun d W' => ∃ W2, Sub W2 W' ∧ O d W2 := by
    refine lc_R own tg_ok ⟨wi, hi, fun σ H r k el R q => hw σ H r k el R fun J H' ds okk W1 k1 o1 it ⟨h1, hz, f, h2, h3⟩ => q J H' ds okk W1 k1 o1 it fun l hl => ?_⟩
    refine ⟨fun i acc W' => acc = (ds.take i).filterMap f ∧ Sub W1 W' ∧ W' l = some (.lst acc), ⟨rfl, Sub.new hl, updO_same⟩, fun i acc W' ⟨e, hs, hl'⟩ => ⟨h1 _ hs, hl', ?_⟩, hz, fun i d acc W' hd ⟨e, hs, hl'⟩ => ?_, fun acc W' ⟨e, hs, hl'⟩ => ?_⟩
    · rw [e]
      exact Nat.le_trans (List.length_filterMap_le _ _) (by rw [List.length_take]; exact Nat.min_le_left _ _)
    · obtain ⟨g2, hp, hx⟩ := h2 i d W' hd hs
      have step : ∀ o : Option D, f d = o → (ds.take (i + 1)).filterMap f = acc ++ o.toList := fun o eo => by
        rw [List.take_add_one, hd, List.filterMap_append, ← e]
        congr 1
        show List.filterMap f [d] = _
        rw [List.filterMap_cons, eo]
        cases o <;> rfl
      refine ⟨g2, hp, fun s H C cl fp => ?_⟩
      have conv : ∀ k W3, (Sub W' W3 ∧ (k = true → ∀ (s : Shared) (H : Hp) (C : Addr) (cl : List (Str × Addr)) (fp : List Addr), XE (Blk X scope s H C cl fp) E0 XC0 elt g2 W3 fun y W4 => Sub W3 W4 ∧ f d = some y) ∧ (k = false → f d = none)) →
          ((k = true → ∀ (s : Shared) (H : Hp) (C : Addr) (cl : List (Str × Addr)) (fp : List Addr), XE (Blk X scope s H C cl fp) E0 XC0 elt g2 W3 fun y W4 => W4 l = some (.lst acc) ∧ (acc ++ [y] = (ds.take (i + 1)).filterMap f ∧ Sub W1 (updO W4 l (.lst (acc ++ [y]))) ∧ updO W4 l (.lst (acc ++ [y])) l = some (.lst (acc ++ [y])))) ∧ (k = false → acc = (ds.take (i + 1)).filterMap f ∧ Sub W1 W3 ∧ W3 l = some (.lst acc))) := fun k W3 ⟨s3, ha, hb⟩ => by
        refine ⟨fun hk s H C cl fp σ H2 r2 o2 el2 Q2 q2 => ha hk s H C cl fp σ H2 r2 o2 el2 Q2 fun v H4 y W4 k4 o4 r4 ⟨s4, hy⟩ => q2 v H4 y W4 k4 o4 r4 ⟨s4 _ _ (s3 _ _ hl'), ?_, ?_, updO_same⟩, fun hk => ⟨?_, hs.trans s3, s3 _ _ hl'⟩⟩
        · rw [step _ hy]; rfl
        · intro b o eb
          rw [updO_ne (neO eb hl)]
          exact s4 _ _ (s3 _ _ (hs _ _ eb))
        · rw [step _ (hb hk)]; simp
      have hx1 := hx s H C cl fp
      match ifs, hx1 with
      | [], hx1 => exact conv true _ hx1
      | [c], hx1 => exact fun σ H2 r2 o2 el2 Q2 q2 => hx1 σ H2 r2 o2 el2 Q2 fun b H3 W3 k3 o3 h3 => q2 b H3 W3 k3 o3 (conv b W3 h3)
      | _ :: _ :: _, hx1 => exact hx1.elim
    · refine ⟨updO W1 l (.lst (ds.filterMap f)), fun b o eb => ?_, h3 l hl⟩
      by_cases hb : b = l
      · subst hb
        rw [updO_same] at eb
        cases eb
        rw [hl', e, List.take_length]
      · rw [updO_ne hb] at eb
        exact hs _ _ eb
  obtain ⟨wi2, t, tt, te, h1, h2, h3, h4, h5⟩ := key
  exact ⟨wi2, t, tt, te, h1, h2, h3, h4, fun σ H r k el Q q => h5 σ H r k el Q fun v H1 d W1 k1 o1 r1 ⟨W2, s2, h2⟩ => q v H1 d W2 k1 (o1.sub s2) r1 h2⟩
/-- a comprehension as a value -/
theorem xe_lcP {elt tg iter : Expr} {ifs : List Expr} {scope : Scope} (own : List (Str × Nat)) {put : D → Ga → Option Ga} (hN : X.N.Nodup) (tg_ok : LcTg X scope tg (own.map (·.2)) put) (ok : BlkOk X.N X.env.scope scope own)
    (h : XI X E XC tg iter g W fun ds okk W1 => (∀ W2, Sub W1 W2 → okk W2) ∧ ds.length ≤ sizeLine ∧ ∃ f : D → Option D,
      (∀ (i : Nat) d W2, ds[i]? = some d → Sub W1 W2 → ∃ g2, put d (wipeG g (own.map (·.2))) = some g2 ∧ ∀ (s : Shared) (H : Hp) (C : Addr) (cl : List (Str × Addr)) (fp : List Addr),
        XTs (Blk X scope s H C cl fp) ifs g2 W2 fun k W3 => Sub W2 W3 ∧ (k = true → ∀ (s : Shared) (H : Hp) (C : Addr) (cl : List (Str × Addr)) (fp : List Addr), XE (Blk X scope s H C cl fp) E0 XC0 elt g2 W3 fun y W4 => Sub W3 W4 ∧ f d = some y) ∧ (k = false → f d = none)) ∧
      (∀ l, W1 l = none → O (.p l) (updO W1 l (.lst (ds.filterMap f)))))
    (hc : X.calm = true := by rfl) (hs : ∀ x, foldedSetIterable iter X.env x = pure x := by intro _; rfl) : XE X E XC (.ListComp elt [⟨tg, iter, ifs, 0⟩] scope pos) g W O :=
  xe_lcR hN ok (lcP_R own tg_ok h) hc hs
theorem xe_lc {elt tg iter : Expr} {ifs : List Expr} {scope : Scope} (own : List (Str × Nat)) {put : D → Ga → Option Ga} (hN : X.N.Nodup) (tg_ok : LcTg X scope tg (own.map (·.2)) put) (ok : BlkOk X.N X.env.scope scope own)
    (h : XI X E XC tg iter g W fun ds okk W1 => ∀ l, W1 l = none → ∃ I : Nat → List D → Om → Prop, I 0 [] (updO W1 l (.lst [])) ∧ (∀ i acc W', I i acc W' → okk W' ∧ W' l = some (.lst acc) ∧ acc.length ≤ i) ∧ ds.length ≤ sizeLine ∧
      (∀ i d acc W', ds[i]? = some d → I i acc W' → ∃ g2, put d (wipeG g (own.map (·.2))) = some g2 ∧ ∀ (s : Shared) (H : Hp) (C : Addr) (cl : List (Str × Addr)) (fp : List Addr),
        XTs (Blk X scope s H C cl fp) ifs g2 W' fun k W3 => (k = true → ∀ (s : Shared) (H : Hp) (C : Addr) (cl : List (Str × Addr)) (fp : List Addr), XE (Blk X scope s H C cl fp) E0 XC0 elt g2 W3 fun y W4 => W4 l = some (.lst acc) ∧ I (i + 1) (acc ++ [y]) (updO W4 l (.lst (acc ++ [y])))) ∧ (k = false → I (i + 1) acc W3)) ∧
      (∀ acc W', I ds.length acc W' → O (.p l) W'))
    (hc : X.calm = true := by rfl) (hs : ∀ x, foldedSetIterable iter X.env x = pure x := by intro _; rfl) : XE X E XC (.ListComp elt [⟨tg, iter, ifs, 0⟩] scope pos) g W O :=
  xe_lcR hN ok (lc_R own tg_ok h) hc hs
end
end SR
namespace SR
open PySem PySem.Spec PyProof.Rows L2
/-- the built-ins' names are not bound by the text -/
structure Bi (mg : Str → Option Value) : Prop where
  isinstance : mg "isinstance" = none
  int : mg "int" = none
  bool : mg "bool" = none
  str : mg "str" = none
  tuple : mg "tuple" = none
  list : mg "list" = none
  len : mg "len" = none
  min : mg "min" = none
  max : mg "max" = none
  sum : mg "sum" = none
  all : mg "all" = none
  range : mg "range" = none
  set : mg "set" = none
section
variable {X : Cx} {E : XK} {XC : XCt} {g : Ga} {W : Om} {a b c : Expr} {pos : Pos} {O : OD}
/-! ### == of scalars -/
def eqS : D → D → Option Bool
  | .int i, .int j => some (decide (i = j))
  | .str i, .str j => some (decide (i = j))
  | .bl i, .bl j => some (decide (i = j))
  | .non, .non => some true
  | .non, .int _ => some false
  | .int _, .non => some false
  | .non, .bl _ => some false
  | .bl _, .non => some false
  | .non, .str _ => some false
  | .str _, .non => some false
  | .int _, .str _ => some false
  | .str _, .int _ => some false
  | _, _ => none
def EqS : R2D := fun d e W O => ∃ r, eqS d e = some r ∧ O (.bl r) W
def NeS : R2D := fun d e W O => ∃ r, eqS d e = some r ∧ O (.bl (!r)) W
theorem dec_inj {p q : Prop} [Decidable p] [Decidable q] (h : p ↔ q) : decide p = decide q := by
  by_cases hp : p
  · rw [decide_eq_true hp, decide_eq_true (h.mp hp)]
  · rw [decide_eq_false hp, decide_eq_false fun hq => hp (h.mpr hq)]
theorem eqS_ok {K : PySem.W.Frag} {H : Hp} {x y : V} {d e : D} {r : Bool} (rx : Rp K H x d) (ry : Rp K H y e) (h : eqS d e = some r) : scal x y = true ∧ decide (x = y) = r := by
  cases rx <;> cases ry <;> simp only [eqS, Option.some.injEq, reduceCtorEq] at h <;> subst h <;> refine ⟨rfl, ?_⟩ <;> first | rfl | exact dec_inj (by simp) | simp
theorem op2_eqS (K : PySem.W.Frag) : Op2 K rEq EqS := fun x y d e H W O Q rx ry o q ⟨r, h1, h2⟩ => by
  obtain ⟨a, b⟩ := eqS_ok rx ry h1
  exact ⟨a, by rw [b]; exact q _ H _ W (Kp.refl H) o (.bl _) h2⟩
theorem op2_neS (K : PySem.W.Frag) : Op2 K rNe NeS := fun x y d e H W O Q rx ry o q ⟨r, h1, h2⟩ => by
  obtain ⟨a, b⟩ := eqS_ok rx ry h1
  exact ⟨a, by rw [b]; exact q _ H _ W (Kp.refl H) o (.bl _) h2⟩
theorem xe_eqS (h : XE X E XC a g W fun d W1 => XE X E XC b g W1 fun e W2 => EqS d e W2 O) : XE X E XC (.Compare a [.Eq] [b] pos) g W O :=
  xe_of (pe_cmpR op_eq pe_W pe_W (nomark _)) (ex_op (op2_eqS X.K) h)
theorem xe_neS (h : XE X E XC a g W fun d W1 => XE X E XC b g W1 fun e W2 => NeS d e W2 O) : XE X E XC (.Compare a [.NotEq] [b] pos) g W O :=
  xe_of (pe_cmpR op_ne pe_W pe_W (nomark _)) (ex_op (op2_neS X.K) h)
theorem xt_eqS {O : Bool → Om → Prop} (h : XE X E XC a g W fun d W1 => XE X E XC b g W1 fun e W2 => EqS d e W2 (asB O)) : XT X E XC (.Compare a [.Eq] [b] pos) g W O :=
  xt_of (pt_cmpR op_eq pe_W pe_W (nomark _)) (exT_test (ex_op (op2_eqS X.K) h))
theorem xt_neS {O : Bool → Om → Prop} (h : XE X E XC a g W fun d W1 => XE X E XC b g W1 fun e W2 => NeS d e W2 (asB O)) : XT X E XC (.Compare a [.NotEq] [b] pos) g W O :=
  xt_of (pt_cmpR op_ne pe_W pe_W (nomark _)) (exT_test (ex_op (op2_neS X.K) h))
/-- continuation, weakened -/
theorem XE.imp {e : Expr} {O' : OD} (h : XE X E XC e g W O) (i : ∀ d W', O d W' → O' d W') : XE X E XC e g W O' := fun σ H r k el Q q => h σ H r k el Q fun v H1 d W1 k1 o1 r1 h1 => q v H1 d W1 k1 o1 r1 (i d W1 h1)
theorem XT.imp {e : Expr} {O O' : Bool → Om → Prop} (h : XT X E XC e g W O) (i : ∀ d W', O d W' → O' d W') : XT X E XC e g W O' := fun σ H r k el Q q => h σ H r k el Q fun b H1 W1 k1 o1 h1 => q b H1 W1 k1 o1 (i b W1 h1)
/-- the map, weakened ahead -/
theorem XE.sub {e : Expr} {W' : Om} (s : Sub W' W) (h : XE X E XC e g W' O) : XE X E XC e g W O := fun σ H r k el Q q => h σ H r (k.sub s) el Q q
theorem xt_and2 {O : Bool → Om → Prop} {b : Expr} (h : XT X E XC a g W fun k W1 => (k = true → XT X E XC b g W1 O) ∧ (k = false → O false W1)) : XT X E XC (.BoolOp .And [a, b] pos) g W O :=
  xt_w (xw_and (h.imp fun k W1 ⟨h1, h2⟩ => ⟨fun e => xw_and1 (h1 e), h2⟩))
theorem xt_or2 {O : Bool → Om → Prop} {b : Expr} (h : XT X E XC a g W fun k W1 => (k = false → XT X E XC b g W1 O) ∧ (k = true → O true W1)) : XT X E XC (.BoolOp .Or [a, b] pos) g W O :=
  xt_w (xw_or (h.imp fun k W1 ⟨h1, h2⟩ => ⟨fun e => xw_or1 (h1 e), h2⟩))
theorem xt_or3 {O : Bool → Om → Prop} {b c : Expr} (h : XT X E XC a g W fun k W1 => (k = false → XT X E XC b g W1 fun k2 W2 => (k2 = false → XT X E XC c g W2 O) ∧ (k2 = true → O true W2)) ∧ (k = true → O true W1)) : XT X E XC (.BoolOp .Or [a, b, c] pos) g W O :=
  xt_w (xw_or (h.imp fun k W1 ⟨h1, h2⟩ => ⟨fun e => xw_or ((h1 e).imp fun k2 W2 ⟨h3, h4⟩ => ⟨fun e2 => xw_or1 (h3 e2), h4⟩), h2⟩))
/-- what the reading has laid may be forgotten -/
theorem xe_shr {e : Expr} (h : XE X E XC e g W fun d W1 => ∃ W0, Sub W0 W1 ∧ O d W0) : XE X E XC e g W O := fun σ H r k el Q q => h σ H r k el Q fun v H1 d W1 k1 o1 r1 ⟨W0, s, h0⟩ => q v H1 d W0 k1 (o1.sub s) r1 h0
theorem xt_shr {e : Expr} {O : Bool → Om → Prop} (h : XT X E XC e g W fun d W1 => ∃ W0, Sub W0 W1 ∧ O d W0) : XT X E XC e g W O := fun σ H r k el Q q => h σ H r k el Q fun v H1 W1 k1 o1 ⟨W0, s, h0⟩ => q v H1 W0 k1 (o1.sub s) h0
/-! ### raise -/
/-- an own class of exceptions, over ValueError -/
structure ExC (K : PySem.W.Frag) (mg : Str → Option Value) (x : Str) (C : Addr) : Prop where
  q : PySem.W.excIn K C [.type "ValueError", .type "Exception", .type "BaseException", .type "object"] "ValueError.__new__" = true
  g : mg x = some (.ref C)
  k : PySem.W.keepIn K (.ref C) = true
  b : PySem.W.subIn K (.ref C) (.type "BaseException") = some true
  t : PySem.W.typeIn K (.ref C) = some (.type "type")
theorem xs_raise {x m : Str} {j : Nat} {p p2 pos pos2 : Pos} {C0 : Addr} {C : EndD} (c : ExC X.K X.mg x C0) (tk : Takes X (fun cls d _ H => E cls d H)) (h : XC C0 W) (hc : X.calm = true := by rfl) (hg : Gl X x := by rfl)
    (hdb : (x == ("__debug__" : Str)) = false := by decide) : XS X E XC (.Raise (some (.Call (.Name x p) [.Constant (.str m) j p2] [] pos)) none pos2) g W C :=
  xs_of (ps_raise hc tk (pmk_own PySem.F.excBase_ValueError c.q c.g c.k (raises_own c.b c.t) hg hdb)) fun D σ H r k el l => el C0 H W (Kp.refl H) k h
/-! ### name = [..] -/
end
end SR
namespace SR
open PySem PySem.Spec PyProof.Rows L2
section
variable {X : Cx} {E : XK} {XC : XCt} {g : Ga} {W : Om} {a b c : Expr} {pos : Pos} {O : OD}
/-- o[i] = v, o a list -/
theorem xg_sub {v : D} {O : Ga → Om → Prop} (h : XE X E0 XC0 a g W fun d W1 => XE X E0 XC0 b g W1 fun e W2 => ∃ l xs k j, d = .p l ∧ e = .int k ∧ W2 l = some (.lst xs) ∧ ixN xs.length k = some j ∧ O g (updO W2 l (.lst (xs.set j v))))
    (ha : ∀ v, assign (.Subscript a b pos) X.env v = (do
      let ov ← holding [v] (eval a X.env)
      let iv ← holding [v, ov] (eval b X.env)
      standAt pos
      holding [v, ov, iv] (setItem ov iv v)
      release [v, ov, iv] []) := by intro _; rfl) : XG X (.Subscript a b pos) v g W O := by
  intro vv σ H r k rv Q q pins s u I ru
  refine (pg_sub pe_W pe_W set_list ha).run pins s σ H vv u Q I ru ?_
  refine h σ H r k el0 _ fun x H1 d W1 k1 o1 r1 h1 => ?_
  refine h1 σ H1 (r.kp k1) o1 el0 _ fun y H2 e W2 k2 o2 r2 ⟨l, xs, m, j, e1, e2, hl, hj, h2⟩ => ?_
  subst e1 e2
  cases r1
  cases r2
  obtain ⟨us, hu, ru⟩ := o2 l _ hl
  have kk : Kp H2 (upd H2 l (.lst (us.set j vv))) := Kp.at hu (fun _ z => by cases z) (fun _ _ z => by cases z)
  refine ⟨l, us, m, j, rfl, rfl, hu, by rw [ru.length]; exact hj, ?_⟩
  exact q _ _ _ _ ((k1.trans k2).trans kk) (o2.set kk (o := .lst (xs.set j v)) ⟨_, upd_same, (RpAll.set ((rv.kp k1).kp k2) j ru).kp kk⟩) (((r.kp k1).kp k2).kp kk) h2
/-- low <= x <= high as a test -/
theorem xt_chain {O : Bool → Om → Prop} (h : XE X E XC a g W fun d W1 => XE X E XC b g W1 fun e W2 => ∃ i j, d = .int i ∧ e = .int j ∧ (i ≤ j → XE X E XC c g W2 fun f W3 => ∃ k, f = .int k ∧ O (decide (j ≤ k)) W3) ∧ (¬ i ≤ j → O false W2))
    (hm : lastMarks [.LtE, .LtE] [b, c] = false := by with_unfolding_all rfl) : XT X E XC (.Compare a [.LtE, .LtE] [b, c] pos) g W O := by
  refine xt_of (pt_chain op_le op_le pe_W pe_W pe_W hm) (exT_test fun σ H r k el Q q => ?_)
  refine h σ H r k el _ fun x H1 d W1 k1 o1 r1 h1 => ?_
  refine h1 σ H1 (r.kp k1) o1 (el.kp k1) _ fun y H2 e W2 k2 o2 r2 ⟨i, j, e1, e2, ha, hb⟩ => ?_
  subst e1 e2
  cases r1
  cases r2
  refine ⟨i, j, rfl, rfl, decide (i ≤ j), rfl, ?_⟩
  by_cases hij : i ≤ j
  · rw [if_pos (decide_eq_true hij)]
    refine ha hij σ H2 ((r.kp k1).kp k2) o2 ((el.kp k1).kp k2) _ fun z H3 f W3 k3 o3 r3 ⟨m, e3, h3⟩ => ?_
    subst e3
    cases r3
    exact ⟨j, m, rfl, rfl, q _ H3 _ W3 ((k1.trans k2).trans k3) o3 (.bl _) ⟨_, rfl, h3⟩⟩
  · rw [decide_eq_false hij, if_neg Bool.false_ne_true]
    exact q _ H2 _ W2 (k1.trans k2) o2 (.bl _) ⟨_, rfl, hb hij⟩
/-! ### is, is not of truth values -/
theorem op2_isB {K : PySem.W.Frag} : Op2 K rIsB (fun d e W O => ∃ a b : Bool, d = .bl a ∧ e = .bl b ∧ O (.bl (decide (a = b))) W) := by
  intro x y d e H W O Q rx ry o q ⟨i, j, e1, e2, h⟩
  subst e1 e2
  cases rx
  cases ry
  exact ⟨i, j, rfl, rfl, q _ H _ W (Kp.refl H) o (.bl _) h⟩
theorem op2_notB {K : PySem.W.Frag} : Op2 K rNotB (fun d e W O => ∃ a b : Bool, d = .bl a ∧ e = .bl b ∧ O (.bl (!decide (a = b))) W) := by
  intro x y d e H W O Q rx ry o q ⟨i, j, e1, e2, h⟩
  subst e1 e2
  cases rx
  cases ry
  exact ⟨i, j, rfl, rfl, q _ H _ W (Kp.refl H) o (.bl _) h⟩
theorem xe_isB (h : XE X E XC a g W fun d W1 => XE X E XC b g W1 fun e W2 => ∃ i j : Bool, d = .bl i ∧ e = .bl j ∧ O (.bl (decide (i = j))) W2) : XE X E XC (.Compare a [.Is] [b] pos) g W O :=
  xe_of (pe_cmpR op_isBl pe_W pe_W (nomark _)) (ex_op op2_isB h)
theorem xe_notB (h : XE X E XC a g W fun d W1 => XE X E XC b g W1 fun e W2 => ∃ i j : Bool, d = .bl i ∧ e = .bl j ∧ O (.bl (!decide (i = j))) W2) : XE X E XC (.Compare a [.IsNot] [b] pos) g W O :=
  xe_of (pe_cmpR op_notBl pe_W pe_W (nomark _)) (ex_op op2_notB h)
theorem xt_isB {O : Bool → Om → Prop} (h : XE X E XC a g W fun d W1 => XE X E XC b g W1 fun e W2 => ∃ i j : Bool, d = .bl i ∧ e = .bl j ∧ O (decide (i = j)) W2) : XT X E XC (.Compare a [.Is] [b] pos) g W O :=
  xt_of (pt_cmpR op_isBl pe_W pe_W (nomark _)) (exT_test (ex_op op2_isB (h.imp fun d W1 h1 => h1.imp fun e W2 ⟨i, j, e1, e2, h2⟩ => ⟨i, j, e1, e2, _, rfl, h2⟩)))
theorem xt_notB {O : Bool → Om → Prop} (h : XE X E XC a g W fun d W1 => XE X E XC b g W1 fun e W2 => ∃ i j : Bool, d = .bl i ∧ e = .bl j ∧ O (!decide (i = j)) W2) : XT X E XC (.Compare a [.IsNot] [b] pos) g W O :=
  xt_of (pt_cmpR op_notBl pe_W pe_W (nomark _)) (exT_test (ex_op op2_notB (h.imp fun d W1 h1 => h1.imp fun e W2 ⟨i, j, e1, e2, h2⟩ => ⟨i, j, e1, e2, _, rfl, h2⟩)))
/-! ### in, not in a list or tuple of ints -/
theorem inV_int {n : Int} : ∀ ns : List Int, inV (.int n) (ns.map V.int) = ns.contains n
  | [] => rfl
  | m :: r => by
    show ((m == n) || inV (.int n) (r.map V.int)) = (m :: r).contains n
    rw [inV_int r, List.contains_cons, Bool.beq_comm]
theorem flat_ints : ∀ ns : List Int, (ns.map V.int).all flatV = true
  | [] => rfl
  | m :: r => by rw [List.map_cons, List.all_cons, flat_ints r]; rfl
theorem op2_inI {K : PySem.W.Frag} {neg : Bool} : Op2 K (rIn K neg) (fun d e W O => ∃ (n : Int) (ns : List Int), d = .int n ∧ SeqD W e (ns.map D.int) ∧ O (.bl (if neg then !ns.contains n else ns.contains n)) W) := by
  intro x y d e H W O Q rx ry o q ⟨n, ns, e1, hs, h⟩
  subst e1
  cases rx
  obtain ⟨a, xs, rfl, hx, rx⟩ := seqD_sq o ry hs
  rw [rx.ints] at hx
  exact ⟨a, _, rfl, hx, rfl, flat_ints ns, by rw [inV_int]; exact q _ H _ W (Kp.refl H) o (.bl _) h⟩
theorem xe_inI (h : XE X E XC a g W fun d W1 => XE X E XC b g W1 fun e W2 => ∃ (n : Int) (ns : List Int), d = .int n ∧ SeqD W2 e (ns.map D.int) ∧ O (.bl (ns.contains n)) W2) (hm : behindInMarks .In b = false := by with_unfolding_all rfl) : XE X E XC (.Compare a [.In] [b] pos) g W O :=
  xe_of (pe_cmpR op_in_seq pe_W pe_W hm) (ex_op op2_inI h)
theorem xt_inI {O : Bool → Om → Prop} (h : XE X E XC a g W fun d W1 => XE X E XC b g W1 fun e W2 => ∃ (n : Int) (ns : List Int), d = .int n ∧ SeqD W2 e (ns.map D.int) ∧ O (ns.contains n) W2) (hm : behindInMarks .In b = false := by with_unfolding_all rfl) : XT X E XC (.Compare a [.In] [b] pos) g W O :=
  xt_of (pt_cmpR op_in_seq pe_W pe_W hm) (exT_test (ex_op op2_inI (h.imp fun d W1 h1 => h1.imp fun e W2 ⟨i, j, e1, e2, h2⟩ => ⟨i, j, e1, e2, _, rfl, h2⟩)))
theorem xt_notInI {O : Bool → Om → Prop} (h : XE X E XC a g W fun d W1 => XE X E XC b g W1 fun e W2 => ∃ (n : Int) (ns : List Int), d = .int n ∧ SeqD W2 e (ns.map D.int) ∧ O (!ns.contains n) W2) (hm : behindInMarks .NotIn b = false := by with_unfolding_all rfl) : XT X E XC (.Compare a [.NotIn] [b] pos) g W O :=
  xt_of (pt_cmpR op_notIn_seq pe_W pe_W hm) (exT_test (ex_op op2_inI (h.imp fun d W1 h1 => h1.imp fun e W2 ⟨i, j, e1, e2, h2⟩ => ⟨i, j, e1, e2, _, rfl, h2⟩)))
/-! ### list(range(a, b)), list(range(n)) -/
theorem rgV_rp {K : PySem.W.Frag} {H : Hp} (i j : Int) : RpAll K H (rgV i j) (rangeD i (j - i).toNat) := by
  unfold rgV rangeD
  generalize (List.range (j - i).toNat) = l
  induction l with
  | nil => exact .nil
  | cons x r ih => exact .cons (.int _) ih
theorem xe_listRg2 {e f : Expr} {p p2 pos2 : Pos} (hm : X.mg "list" = none) (hr : X.mg "range" = none) (h : XE X E XC e g W fun d W1 => XE X E XC f g W1 fun d2 W2 => ∃ i j : Int, d = .int i ∧ d2 = .int j ∧ RgOk i j ∧ ∀ l, W2 l = none → O (.p l) (updO W2 l (.lst (rangeD i (j - i).toNat))))
    (hc : X.calm = true := by rfl) (hg : Gl X "list" := by rfl) (hg2 : Gl X "range" := by rfl) (na : starEach [.Call (.Name "range" p2) [e, f] [] pos2] X.env = (false, eval (.Call (.Name "range" p2) [e, f] [] pos2) X.env) :: starEach [] X.env := by rfl)
    (ha : starEach [e, f] X.env = (false, eval e X.env) :: starEach [f] X.env := by rfl) (hb : starEach [f] X.env = (false, eval f X.env) :: starEach [] X.env := by rfl) (hp : (backTo pos2 (starEach [f] X.env)).any (·.1) = false := by rfl) :
    XE X E XC (.Call (.Name "list" p) [.Call (.Name "range" p2) [e, f] [] pos2] [] pos) g W O := by
  refine xe_of (pe_listRg hc hg hm (prg_2 hg2 hr pe_W pe_W ha hb hp) na) fun σ H r k el Q q => ?_
  refine h σ H r k el _ fun x H1 d W1 k1 o1 r1 h1 => ?_
  refine h1 σ H1 (r.kp k1) o1 (el.kp k1) _ fun y H2 e W2 k2 o2 r2 ⟨i, j, e1, e2, hok, h2⟩ => ?_
  subst e1 e2
  cases r1
  cases r2
  exact ⟨i, j, rfl, rfl, hok, fun p hp => q _ _ _ _ ((k1.trans k2).trans (Kp.new hp)) (o2.new (o := .lst (rangeD i (j - i).toNat)) hp ⟨_, upd_same, rgV_rp i j⟩) (.p p) (h2 p (o2.free hp))⟩
/-! ### max, min of a list of ints -/
theorem xe_maxL {p : Pos} (hm : X.mg "max" = none) (h : XE X E XC a g W fun d W1 => ∃ (l : Addr) (ns : List Int), d = .p l ∧ W1 l = some (.lst (ns.map D.int)) ∧ 0 < ns.length ∧ ∀ m, m ∈ ns → (∀ y, y ∈ ns → y ≤ m) → O (.int m) W1) (hc : X.calm = true := by rfl) (hg : Gl X "max" := by rfl) (hs : starEach [a] X.env = (false, eval a X.env) :: starEach [] X.env := by rfl) (hp : (backTo pos (starEach [] X.env)).any (·.1) = false := by rfl) :
    XE X E XC (.Call (.Name "max" p) [a] [] pos) g W O := by
  refine xe_callB (cr_max hc) hm (by decide +kernel) (xa1 (h.imp fun d W1 h1 => ?_) hs) hg (hs := hs) (hp := hp)
  intro vs H2 Q2 r2 o2 q2
  obtain ⟨l, ns, rfl, hl, hn, h2⟩ := h1
  cases r2 with
  | cons rv rn =>
    cases rn
    cases rv
    obtain ⟨xs, h3, h4⟩ := o2 l _ hl
    rw [h4.ints] at h3
    exact ⟨l, ns, rfl, .of h3, hn, fun m h5 h6 => q2 _ H2 _ W1 (Kp.refl _) o2 (.int _) (h2 m h5 h6)⟩
theorem xe_minL {p : Pos} (hm : X.mg "min" = none) (h : XE X E XC a g W fun d W1 => ∃ (l : Addr) (ns : List Int), d = .p l ∧ W1 l = some (.lst (ns.map D.int)) ∧ 0 < ns.length ∧ ∀ m, m ∈ ns → (∀ y, y ∈ ns → m ≤ y) → O (.int m) W1) (hc : X.calm = true := by rfl) (hg : Gl X "min" := by rfl) (hs : starEach [a] X.env = (false, eval a X.env) :: starEach [] X.env := by rfl) (hp : (backTo pos (starEach [] X.env)).any (·.1) = false := by rfl) :
    XE X E XC (.Call (.Name "min" p) [a] [] pos) g W O := by
  refine xe_callB (cr_min hc) hm (by decide +kernel) (xa1 (h.imp fun d W1 h1 => ?_) hs) hg (hs := hs) (hp := hp)
  intro vs H2 Q2 r2 o2 q2
  obtain ⟨l, ns, rfl, hl, hn, h2⟩ := h1
  cases r2 with
  | cons rv rn =>
    cases rn
    cases rv
    obtain ⟨xs, h3, h4⟩ := o2 l _ hl
    rw [h4.ints] at h3
    exact ⟨l, ns, rfl, .of h3, hn, fun m h5 h6 => q2 _ H2 _ W1 (Kp.refl _) o2 (.int _) (h2 m h5 h6)⟩
end
/-! ### == of data, by plain equality -/
mutual
/-- no truth value within: then == is equality -/
def nob : PyData → Bool
  | .none => true
  | .int _ => true
  | .str _ => true
  | .list xs => nobs xs
  | .tuple xs => nobs xs
  | _ => false
def nobs : List PyData → Bool
  | [] => true
  | x :: xs => nob x && nobs xs
end
mutual
theorem eqv_iff : ∀ (x y : PyData), nob x = true → nob y = true → (PyData.eqv x y = true ↔ x = y)
  | .none, y, _, hy => by cases y <;> simp_all [PyData.eqv, nob]
  | .int i, y, _, hy => by cases y <;> simp_all [PyData.eqv, nob]
  | .str i, y, _, hy => by cases y <;> simp_all [PyData.eqv, nob]
  | .list xs, y, hx, hy => by
    cases y with
    | list ys => rw [PyData.eqv, eqvs_iff xs ys (by simpa [nob] using hx) (by simpa [nob] using hy)]; simp
    | _ => simp_all [PyData.eqv, nob]
  | .tuple xs, y, hx, hy => by
    cases y with
    | tuple ys => rw [PyData.eqv, eqvs_iff xs ys (by simpa [nob] using hx) (by simpa [nob] using hy)]; simp
    | _ => simp_all [PyData.eqv, nob]
  | .bool _, _, hx, _ => by simp [nob] at hx
  | .dict _, _, hx, _ => by simp [nob] at hx
theorem eqvs_iff : ∀ (xs ys : List PyData), nobs xs = true → nobs ys = true → (PyData.eqvAll xs ys = true ↔ xs = ys)
  | [], [], _, _ => by simp [PyData.eqvAll]
  | [], _ :: _, _, _ => by simp [PyData.eqvAll]
  | _ :: _, [], _, _ => by simp [PyData.eqvAll]
  | x :: xs, y :: ys, hx, hy => by
    simp only [nobs, Bool.and_eq_true] at hx hy
    rw [PyData.eqvAll, Bool.and_eq_true, eqv_iff x y hx.1 hy.1, eqvs_iff xs ys hx.2 hy.2]
    simp
end
end SR
namespace SR
open PySem PySem.Spec PyProof.Rows L2
/-! ### == of plain data: equality -/
inductive Pln : Nat → D → Prop
  | int {n : Nat} (i : Int) : Pln n (.int i)
  | non {n : Nat} : Pln n .non
  | str {n : Nat} {x : Str} : PyData.strOk x = true → Pln n (.str x)
  | tup {n : Nat} {xs : List D} : (∀ x ∈ xs, Pln n x) → Pln (n + 1) (.tup xs)
structure PlnP (n : Nat) (y : PyData) : Prop where
  lay : PyData.canLay0 y = true
  dep : y.depth ≤ n
  nb : nob y = true
theorem toPs_of {n : Nat} : ∀ {xs : List D}, (∀ x ∈ xs, ∃ y, toP x = some y ∧ PlnP n y) → ∃ ys, toPs xs = some ys ∧ PyData.canLayAll0 ys = true ∧ PyData.depthAll ys ≤ n ∧ nobs ys = true
  | [], _ => ⟨[], by simp [toPs], by simp [PyData.canLayAll0], by simp [PyData.depthAll], by simp [nobs]⟩
  | x :: xs, h => by
    obtain ⟨y, h1, h2⟩ := h x List.mem_cons_self
    obtain ⟨ys, h3, h4, h5, h6⟩ := toPs_of fun z hz => h z (List.mem_cons_of_mem _ hz)
    refine ⟨y :: ys, by simp only [toPs, h1, h3], ?_, ?_, ?_⟩
    · rw [PyData.canLayAll0, h2.lay, h4]; rfl
    · rw [PyData.depthAll]; have := h2.dep; omega
    · rw [nobs, h2.nb, h6]; rfl
theorem Pln.toP {n : Nat} {d : D} (h : Pln n d) : ∃ y, SR.toP d = some y ∧ PlnP n y := by
  induction h with
  | int i => exact ⟨.int i, by simp [SR.toP], by simp [PyData.canLay0], by simp [PyData.depth], by simp [nob]⟩
  | non => exact ⟨.none, by simp [SR.toP], by simp [PyData.canLay0], by simp [PyData.depth], by simp [nob]⟩
  | @str n x hx => exact ⟨.str x, by simp [SR.toP], by simpa [PyData.canLay0] using hx, by simp [PyData.depth], by simp [nob]⟩
  | @tup n xs h ih =>
    obtain ⟨ys, h3, h4, h5, h6⟩ := toPs_of ih
    refine ⟨.tuple ys, by simp only [SR.toP, h3, Option.map_some], ?_, ?_, ?_⟩
    · rw [PyData.canLay0]; exact h4
    · rw [PyData.depth]; omega
    · rw [nob]; exact h6
theorem toPs_len : ∀ {xs : List D} {ys : List PyData}, toPs xs = some ys → xs.length = ys.length
  | [], _, h => by simp [toPs] at h; subst h; rfl
  | x :: xs, ys, h => by
    simp only [toPs] at h
    split at h
    · rename_i y zs _ h2
      simp only [Option.some.injEq] at h
      subst h
      rw [List.length_cons, List.length_cons, toPs_len h2]
    · cases h
theorem toPs_cons {x : D} {xs : List D} {ys : List PyData} (h : toPs (x :: xs) = some ys) : ∃ y zs, ys = y :: zs ∧ SR.toP x = some y ∧ toPs xs = some zs := by
  simp only [toPs] at h
  split at h
  · rename_i y zs h1 h2
    simp only [Option.some.injEq] at h
    exact ⟨y, zs, h.symm, h1, h2⟩
  · cases h
theorem toPs_inj {n : Nat} : ∀ {xs zs : List D} {ys : List PyData}, (∀ x ∈ xs, ∀ e y m, Pln m e → SR.toP x = some y → SR.toP e = some y → x = e) → (∀ z ∈ zs, Pln n z) → toPs xs = some ys → toPs zs = some ys → xs = zs
  | [], [], _, _, _, _, _ => rfl
  | [], z :: zs, ys, _, _, h1, h2 => by
    have a := toPs_len h1; have b := toPs_len h2
    rw [List.length_cons] at b; simp at a; omega
  | x :: xs, [], ys, _, _, h1, h2 => by
    have a := toPs_len h1; have b := toPs_len h2
    rw [List.length_cons] at a; simp at b; omega
  | x :: xs, z :: zs, ys, hi, hz, h1, h2 => by
    obtain ⟨y, r, rfl, a1, a2⟩ := toPs_cons h1
    obtain ⟨y2, r2, e, b1, b2⟩ := toPs_cons h2
    cases e
    rw [hi x List.mem_cons_self z y n (hz z List.mem_cons_self) a1 b1, toPs_inj (fun u hu => hi u (List.mem_cons_of_mem _ hu)) (fun u hu => hz u (List.mem_cons_of_mem _ hu)) a2 b2]
theorem Pln.inj {n : Nat} {d : D} (h : Pln n d) : ∀ e y m, Pln m e → SR.toP d = some y → SR.toP e = some y → d = e := by
  induction h with
  | int i =>
    intro e y m he h1 h2
    simp only [SR.toP, Option.some.injEq] at h1
    subst h1
    cases he with
    | int j => simp only [SR.toP, Option.some.injEq, PyData.int.injEq] at h2; rw [h2]
    | non => simp [SR.toP] at h2
    | str _ => simp [SR.toP] at h2
    | @tup k xs _ => simp only [SR.toP] at h2; cases q : toPs xs <;> rw [q] at h2 <;> simp at h2
  | non =>
    intro e y m he h1 h2
    simp only [SR.toP, Option.some.injEq] at h1
    subst h1
    cases he with
    | int j => simp [SR.toP] at h2
    | non => rfl
    | str _ => simp [SR.toP] at h2
    | @tup k xs _ => simp only [SR.toP] at h2; cases q : toPs xs <;> rw [q] at h2 <;> simp at h2
  | str hx =>
    intro e y m he h1 h2
    simp only [SR.toP, Option.some.injEq] at h1
    subst h1
    cases he with
    | int j => simp [SR.toP] at h2
    | non => simp [SR.toP] at h2
    | str _ => simp only [SR.toP, Option.some.injEq, PyData.str.injEq] at h2; rw [h2]
    | @tup k xs _ => simp only [SR.toP] at h2; cases q : toPs xs <;> rw [q] at h2 <;> simp at h2
  | @tup n xs h ih =>
    intro e y m he h1 h2
    simp only [SR.toP] at h1
    cases q : toPs xs with
    | none => rw [q] at h1; cases h1
    | some ys =>
      rw [q] at h1
      simp only [Option.map_some, Option.some.injEq] at h1
      subst h1
      cases he with
      | int j => simp [SR.toP] at h2
      | non => simp [SR.toP] at h2
      | str _ => simp [SR.toP] at h2
      | @tup k zs hz =>
        simp only [SR.toP] at h2
        cases q2 : toPs zs with
        | none => rw [q2] at h2; cases h2
        | some ws =>
          rw [q2] at h2
          simp only [Option.map_some, Option.some.injEq, PyData.tuple.injEq] at h2
          subst h2
          rw [toPs_inj ih hz q q2]
theorem PlnP.shaped {n : Nat} {y : PyData} (h : PlnP n y) (hn : n ≤ 64) : SeqAt.shaped y = true := by
  unfold SeqAt.shaped
  rw [h.lay, Bool.true_and]
  exact decide_eq_true (by have := h.dep; omega)
theorem Pln.topP {n : Nat} {d : D} (W : Om) (h : Pln n d) : ∃ y, SR.topP W d = some y ∧ SR.toP d = some y ∧ PlnP n y := by
  obtain ⟨y, h1, h2⟩ := h.toP
  exact ⟨y, by cases h <;> exact h1, h1, h2⟩
section
variable {X : Cx} {E : XK} {XC : XCt} {g : Ga} {W : Om} {a b c : Expr} {pos : Pos} {O : OD}
theorem eqD_pln {n m : Nat} {d e : D} (hd : Pln n d) (he : Pln m e) (hn : n ≤ 64) (hm : m ≤ 64) (h1 : d = e → O (.bl true) W) (h2 : d ≠ e → O (.bl false) W) : EqD d e W O := by
  obtain ⟨y, a1, a2, a3⟩ := hd.topP W
  obtain ⟨z, b1, b2, b3⟩ := he.topP W
  refine ⟨y, z, a1, b1, a3.shaped hn, b3.shaped hm, ?_⟩
  cases q : PyData.eqv y z with
  | true =>
    have := (eqv_iff y z a3.nb b3.nb).mp q
    subst this
    exact h1 (hd.inj e y m he a2 b2)
  | false =>
    refine h2 fun z' => ?_
    subst z'
    rw [a2] at b2
    cases b2
    rw [(eqv_iff y y a3.nb a3.nb).mpr rfl] at q
    cases q
theorem neD_pln {n m : Nat} {d e : D} (hd : Pln n d) (he : Pln m e) (hn : n ≤ 64) (hm : m ≤ 64) (h1 : d = e → O (.bl false) W) (h2 : d ≠ e → O (.bl true) W) : NeD d e W O := by
  obtain ⟨y, z, a, b, c, d, h⟩ := eqD_pln (O := fun d W => ∀ r, d = .bl r → O (.bl (!r)) W) (W := W) hd he hn hm (fun e r er => by cases er; exact h1 e) (fun e r er => by cases er; exact h2 e)
  exact ⟨y, z, a, b, c, d, h _ rfl⟩
/-- two lists of plain data -/
theorem topP_lst {n : Nat} {l : Addr} {xs : List D} (hl : W l = some (.lst xs)) (h : ∀ x ∈ xs, Pln n x) : ∃ ys, SR.topP W (.p l) = some (.list ys) ∧ toPs xs = some ys ∧ PlnP (n + 1) (.list ys) := by
  obtain ⟨ys, h3, h4, h5, h6⟩ := toPs_of fun x hx => (h x hx).toP
  refine ⟨ys, by simp only [SR.topP, hl, h3, Option.map_some], h3, ?_, ?_, ?_⟩
  · rw [PyData.canLay0]; exact h4
  · rw [PyData.depth]; omega
  · rw [nob]; exact h6
theorem eqD_lst {n m : Nat} {l k : Addr} {xs ys : List D} (hl : W l = some (.lst xs)) (hk : W k = some (.lst ys)) (hx : ∀ x ∈ xs, Pln n x) (hy : ∀ y ∈ ys, Pln m y) (hn : n ≤ 60) (hm : m ≤ 60) (h1 : xs = ys → O (.bl true) W) (h2 : xs ≠ ys → O (.bl false) W) : EqD (.p l) (.p k) W O := by
  obtain ⟨us, a1, a2, a3⟩ := topP_lst hl hx
  obtain ⟨vs, b1, b2, b3⟩ := topP_lst hk hy
  refine ⟨_, _, a1, b1, a3.shaped (by omega), b3.shaped (by omega), ?_⟩
  cases q : PyData.eqv (.list us) (.list vs) with
  | true =>
    have := (eqv_iff _ _ a3.nb b3.nb).mp q
    cases this
    exact h1 (toPs_inj (fun x hx' => (hx x hx').inj) hy a2 b2)
  | false =>
    refine h2 fun z' => ?_
    subst z'
    rw [a2] at b2
    cases b2
    rw [(eqv_iff _ _ a3.nb a3.nb).mpr rfl] at q
    cases q
theorem neD_lst {n m : Nat} {l k : Addr} {xs ys : List D} (hl : W l = some (.lst xs)) (hk : W k = some (.lst ys)) (hx : ∀ x ∈ xs, Pln n x) (hy : ∀ y ∈ ys, Pln m y) (hn : n ≤ 60) (hm : m ≤ 60) (h1 : xs = ys → O (.bl false) W) (h2 : xs ≠ ys → O (.bl true) W) : NeD (.p l) (.p k) W O := by
  obtain ⟨y, z, a, b, c, d, h⟩ := eqD_lst (O := fun d W => ∀ r, d = .bl r → O (.bl (!r)) W) hl hk hx hy hn hm (fun e r er => by cases er; exact h1 e) (fun e r er => by cases er; exact h2 e)
  exact ⟨y, z, a, b, c, d, h _ rfl⟩
end
theorem pln_ints (n : Nat) (ms : List Int) : Pln (n + 1) (.tup (ms.map D.int)) := .tup fun x hx => by
  obtain ⟨m, _, rfl⟩ := List.mem_map.mp hx
  exact .int m
end SR
namespace SR
open PySem PySem.Spec PyProof.Rows L2
/-! ### min of a tuple of ints -/
theorem min_tup {prog : Program} {w : World} {A : Around} {E : Value → Shared → Prop} {s : Shared} {t : Addr} {its : List Value} {ns : List Int} {Q : Value → Shared → Prop} (hh : A.handled = none) (ht : IsTup s.heap t its.toArray) (hi : IntsAre its ns) (hne : 0 < ns.length)
    (h : ∀ h' tk M t', (∀ b o, s.heap.get? b = some o → h'.get? b = some o) → M ∈ ns → (∀ a, a ∈ ns → M ≤ a) → Q (.int M t') { s with heap := h', toks := tk }) : wpAny (model prog w) A (call (.builtin "min") [.ref t]) Q E s := by
  obtain ⟨xs, e⟩ := hi.allInts.items
  have hn : numsOf (intItems xs).toList = ns := by rw [← e]; exact hi.numsOf
  rw [nums_intItems] at hn
  subst hn
  rw [e] at ht
  have hsz : 0 < xs.size := by simpa using hne
  have hlt : t < s.heap.objs.size := ht.lt
  have htT : s.heap.IsTuple t (intItems xs) := ht
  refine call_min_walk (wpAny_pyIter_tuple htT ?_)
  refine ⟨_, _, _, _, _, _, _, rfl, Walks.tuple (A := A.in1) hh _ t (Nat.ne_of_lt hlt) (intItems xs), ⟨⟨_, Heap.get?_push_size _ rfl, rfl, rfl⟩, ht.push _⟩, ?_, by simpa [intItems] using hsz, CmpOf.ints_lt (numAt xs) (fun _ _ => intItems_at), fun v h' tk hP hk => ?_⟩
  · intro b hb
    have hsz : (s.heap.push { cls := .type "tuple_iterator", data := .fields #[.ref t, .int 0 0] }).objs.size = s.heap.objs.size + 1 := Heap.size_push _ _
    simp only [List.mem_cons, List.not_mem_nil, or_false] at hb
    rcases hb with rfl | rfl
    · show _ < (s.heap.push _).objs.size
      rw [hsz]; exact Nat.lt_succ_self _
    · show _ < (s.heap.push _).objs.size
      rw [hsz]; exact Nat.lt_succ_of_lt hlt
  · have hv : (intItems xs)[argBest (fun i j => decide (numAt xs i < numAt xs j)) (xs.size - 1)]? = some v := by simpa [intItems] using hP
    obtain ⟨tt, rfl⟩ := intItems_at hv
    obtain ⟨h1, h2⟩ := argBest_lt (numAt xs) (xs.size - 1)
    refine h h' tk _ tt (fun b o e => hk b o (by simpa using Nat.ne_of_lt (Heap.lt_size e)) (Heap.get?_push_of_some _ e)) ?_ fun a ha => ?_
    · rw [numAt_eq]; exact PySem.getD_mem (by rw [List.length_map, Array.length_toList]; omega)
    · obtain ⟨j, hj, rfl⟩ := mem_getD ha
      rw [List.length_map, Array.length_toList] at hj
      rw [← numAt_eq]; exact h2 j (by omega)
section
variable {X : Cx} {E : XK} {XC : XCt} {g : Ga} {W : Om} {a b c : Expr} {pos : Pos} {O : OD}
def rMinT (K : PySem.W.Frag) : List V → Hp → VK → Prop := fun vs H Q => ∃ (a : Addr) (ns : List Int), vs = [V.ref a] ∧ SqT K H a (ns.map V.int) ∧ 0 < ns.length ∧ ∀ m, m ∈ ns → (∀ y, y ∈ ns → m ≤ y) → Q (.int m) H
theorem cr_minT (hc : X.calm = true) : CallR X (.builtin "min") (rMinT X.K) := by
  intro pins s σ H vs us Q I r h
  obtain ⟨a, ns, rfl, hs, hne, q⟩ := h
  obtain ⟨its, rv, hl, _⟩ := I.tuple hs
  rw [Vals.ref1 r]
  exact min_tup (I.ok.hd hc) hl rv.ints hne fun h' tk m t' hk h1 h2 => ⟨.int _, H, I.kept hk, ⟨_, rfl⟩, q m h1 h2⟩
theorem xe_minT {p : Pos} (hm : X.mg "min" = none) (h : XE X E XC a g W fun d W1 => ∃ ns : List Int, d = .tup (ns.map D.int) ∧ 0 < ns.length ∧ ∀ m, m ∈ ns → (∀ y, y ∈ ns → m ≤ y) → O (.int m) W1) (hc : X.calm = true := by rfl) (hg : Gl X "min" := by rfl) (hs : starEach [a] X.env = (false, eval a X.env) :: starEach [] X.env := by rfl) (hp : (backTo pos (starEach [] X.env)).any (·.1) = false := by rfl) :
    XE X E XC (.Call (.Name "min" p) [a] [] pos) g W O := by
  refine xe_callB (cr_minT hc) hm (by decide +kernel) (xa1 (h.imp fun d W1 h1 => ?_) hs) hg (hs := hs) (hp := hp)
  intro vs H2 Q2 r2 o2 q2
  obtain ⟨ns, rfl, hn, h2⟩ := h1
  cases r2 with
  | cons rv rn =>
    cases rn
    cases rv with
    | @tup l xs _ h3 h4 =>
      rw [h4.ints] at h3
      exact ⟨l, ns, rfl, .of h3, hn, fun m h5 h6 => q2 _ H2 _ W1 (Kp.refl _) o2 (.int _) (h2 m h5 h6)⟩
end
end SR
namespace SR
open PySem PySem.Spec PyProof.Rows L2
/-- what the dict holds at k -/
def lookN (kvs : List (NestedKey × D)) (k : NestedKey) : Option D := (kvs.find? fun p => decide (p.1 = k)).map (·.2)
def putN (kvs : List (NestedKey × D)) (k : NestedKey) (d : D) : List (NestedKey × D) :=
  if (lookN kvs k).isSome then kvs.map fun p => if p.1 = k then (p.1, d) else p else kvs ++ [(k, d)]
theorem length_putN (kvs : List (NestedKey × D)) (k : NestedKey) (d : D) : (putN kvs k d).length ≤ kvs.length + 1 := by
  unfold putN; split
  · rw [List.length_map]; omega
  · simp
section
variable {P : Program} {w : World} {K : PySem.W.Frag} {H H' : Hp} {h : Heap} {a : Addr}
mutual
theorem nested_of (ok : HOk P w H h) : ∀ (k : NestedKey) {v : V} {u : Value}, Rp K H v (kD k) → RelV v u → NestedIs h k u
  | .none, v, u, r, ru => by
    unfold kD at r; cases r
    cases (show u = Value.none from ru); exact .none
  | .num i, v, u, r, ru => by
    unfold kD at r; cases r
    obtain ⟨t, rfl⟩ := ru; exact .int i t
  | .text x, v, u, r, ru => by
    unfold kD at r; cases r
    obtain ⟨t, rfl⟩ := ru; exact .text x t
  | .tup ks, v, u, r, ru => by
    unfold kD at r
    cases r with
    | @tup a xs _ h1 h2 =>
      cases (show u = Value.ref a from ru)
      obtain ⟨_, its, rv, o, e1, e2, n, e3⟩ := (show ObjOk P w H h a (.tup xs) from ok a _ h1)
      exact .tup e1 e2 e3 (nested_all ok ks h2 rv)
theorem nested_all (ok : HOk P w H h) : ∀ (ks : List NestedKey) {xs : List V} {us : List Value}, RpAll K H xs (kDs ks) → Vals xs us → NestedAll h ks us
  | [], xs, us, r, ru => by
    unfold kDs at r; cases r; cases ru; exact .nil
  | k :: ks, xs, us, r, ru => by
    unfold kDs at r
    cases r with
    | cons r1 r2 =>
      cases ru with
      | cons u1 u2 => exact .cons (nested_of ok k r1 u1) (nested_all ok ks r2 u2)
end
theorem kt_val {kvs : List (NestedKey × D)} {xs : List (NestedKey × Addr × Value)} (r : KTn K H kvs xs) (k : NestedKey) :
    (lookN kvs k = none ∧ atKey xs k = none) ∨ ∃ d q v, lookN kvs k = some d ∧ atKey xs k = some q ∧ RelV v q.2 ∧ Rp K H v d := by
  induction r with
  | nil => exact .inl ⟨rfl, rfl⟩
  | @cons p q ps qs hq t ih =>
    obtain ⟨e, _, _, v, rv, rd⟩ := hq
    by_cases hk : p.1 = k
    · refine .inr ⟨p.2, q.2, v, ?_, ?_, rv, rd⟩
      · simp [lookN, List.find?_cons, hk]
      · simp [atKey, List.find?_cons, ← e, hk]
    · have e1 : lookN (p :: ps) k = lookN ps k := by simp [lookN, List.find?_cons, hk]
      have e2 : atKey (q :: qs) k = atKey qs k := by simp [atKey, List.find?_cons, ← e, hk]
      rw [e1, e2]; exact ih
theorem kt_put {kvs : List (NestedKey × D)} {xs : List (NestedKey × Addr × Value)} (r : KTn K H kvs xs) {k : NestedKey} {b : Addr} {v : V} {u : Value} {d : D} (hk : k.depth ≤ 8) (rb : Rp K H (.ref b) (kD k)) (rv : RelV v u) (rd : Rp K H v d) :
    KTn K H (putN kvs k d) (storedH xs k b u) := by
  unfold putN storedH
  have hs : (lookN kvs k).isSome = (atKey xs k).isSome := by
    rcases kt_val r k with ⟨a, b⟩ | ⟨_, _, _, a, b, _⟩ <;> rw [a, b] <;> rfl
  rw [hs]
  split
  · have rep : ∀ {l : List (NestedKey × D)} {m : List (NestedKey × Addr × Value)}, KTn K H l m → KTn K H (l.map fun p => if p.1 = k then (p.1, d) else p) (m.map (putAt k u)) := by
      intro l m q
      induction q with
      | nil => exact .nil
      | @cons p q ps qs hq t ih =>
        refine .cons ?_ ih
        obtain ⟨e, h8, ra, v', rv', rd'⟩ := hq
        show (fun (p : NestedKey × D) (q : NestedKey × Addr × Value) => p.1 = q.1 ∧ p.1.depth ≤ 8 ∧ Rp K H (.ref q.2.1) (kD p.1) ∧ ∃ v, RelV v q.2.2 ∧ Rp K H v p.2) (if p.1 = k then (p.1, d) else p) (putAt k u q)
        unfold putAt
        by_cases hk : p.1 = k
        · rw [if_pos hk, if_pos (e ▸ hk)]
          exact ⟨e, h8, ra, v, rv, rd⟩
        · rw [if_neg hk, if_neg (e ▸ hk)]
          exact ⟨e, h8, ra, v', rv', rd'⟩
    exact rep r
  · have app : ∀ {l : List (NestedKey × D)} {m : List (NestedKey × Addr × Value)}, KTn K H l m → KTn K H (l ++ [(k, d)]) (m ++ [(k, b, u)]) := by
      intro l m q
      induction q with
      | nil => exact .cons ⟨rfl, hk, rb, v, rv, rd⟩ .nil
      | cons hq t ih => exact .cons hq ih
    exact app r
theorem dictH (ok : HOk P w H h) {kvs : List (NestedKey × D)} {xs : List (NestedKey × Addr × Value)} (e : Rd H a (.ext (DIs w a xs))) (r : KTn K H kvs xs) :
    h.DictOfH (nestedKind P w) a xs ∧ xs.length ≤ sizeLine ∧ (a == sysModules) = false := by
  obtain ⟨⟨h1, h2, o, es, ep, h3, h4, h5, h6, h7⟩, h8⟩ := (show ObjOk P w H h a (.ext (DIs w a xs)) from e.ok ok)
  refine ⟨⟨o, es, ep, h3, h4, h5, h6, ?_, h7⟩, h1, h2⟩
  clear h6 h7 h1 e h8
  induction r with
  | nil => intro x hx; exact nomatch hx
  | @cons p q ps qs hq t ih =>
    intro x hx
    rcases List.mem_cons.mp hx with z | hx
    · subst z
      rw [← hq.1]
      exact ⟨nested_of ok _ hq.2.2.1 rfl, hq.2.1⟩
    · exact ih x hx
theorem dIs_of {xs : List (NestedKey × Addr × Value)} (d : h.DictOfH (nestedKind P w) a xs) (hz : xs.length ≤ sizeLine) (hm : (a == sysModules) = false) : ObjOk P w H h a (.ext (DIs w a xs)) := by
  obtain ⟨o, es, ep, h3, h4, h5, h6, _, h7⟩ := d
  exact ⟨⟨hz, hm, o, es, ep, h3, h4, h5, h6, h7⟩, ⟨o, h3⟩, fun _ _ q k => q.stay k⟩
end
/-- a key by its datum -/
def KeyD (d : D) (k : NestedKey) : Prop := d = kD k ∧ k.depth ≤ 8 ∧ ∃ ks, k = .tup ks
theorem rp_key {K : PySem.W.Frag} {H : Hp} {v : V} {d : D} {k : NestedKey} (r : Rp K H v d) (x : KeyD d k) : ∃ b, v = .ref b ∧ Rp K H (.ref b) (kD k) := by
  obtain ⟨rfl, _, ks, rfl⟩ := x
  have r0 := r
  unfold kD at r
  cases r with
  | @tup a xs _ h1 h2 => exact ⟨a, rfl, r0⟩
/-- the dict at a, as it may be read -/
def DRd (w : World) (W : Om) (a : Addr) (kvs : List (NestedKey × D)) : Prop := W a = some (.dic w kvs) ∨ W a = some (.fdic w kvs)
theorem DRd.rd {K : PySem.W.Frag} {H : Hp} {w : World} {W : Om} {a : Addr} {kvs : List (NestedKey × D)} (o : HpOk K H W) (h : DRd w W a kvs) : ∃ xs, Rd H a (.ext (DIs w a xs)) ∧ KTn K H kvs xs := by
  rcases h with h | h
  · obtain ⟨xs, e, r⟩ := o a _ h; exact ⟨xs, .inl e, r⟩
  · obtain ⟨ob, xs, e, r⟩ := o a _ h; exact ⟨xs, .inr ⟨ob, e⟩, r⟩

section
variable {X : Cx} {o i e f value : Expr} {pos pos' apos cpos : Pos} {td ty tv tx : TE}
def KAt (X : Cx) (H : Hp) (x y : V) (a : Addr) (kvs : List (NestedKey × D)) (xs : List (NestedKey × Addr × Value)) (k : NestedKey) (b : Addr) : Prop :=
  x = .ref a ∧ y = .ref b ∧ Rd H a (.ext (DIs X.w a xs)) ∧ KTn X.K H kvs xs ∧ Rp X.K H (.ref b) (kD k) ∧ k.depth ≤ 8
/-- d[k] -/
def tKGet (X : Cx) (td ty : TE) : TE := fun σ H Q => td σ H fun x H1 => ty σ H1 fun y H2 => ∃ a kvs xs k b d, KAt X H2 x y a kvs xs k b ∧ lookN kvs k = some d ∧ ∀ v, Rp X.K H2 v d → Q v H2
theorem pe_kget (hu : X.A.units + 9 < cLine) (ho : PE X o td) (hi : PE X i ty) (hs : NoSl i) : PE X (.Subscript o i pos) (tKGet X td ty) := by
  refine ⟨fun pins s σ H Q I h => ?_⟩
  refine subD_of PySem.F.slot_dict_getitem.lookup hs (thn (ho.run pins s σ H _ I h) fun u s1 ⟨x, H1, I1, rx, q1⟩ => thn (hi.run pins s1 σ H1 _ I1 q1) fun iv s2 ⟨y, H2, I2, ry, a, kvs, xs, k, b, d, ⟨ex, ey, hr, kt, rb, h8⟩, hl, q2⟩ => ?_)
  subst ex ey
  obtain rfl : u = Value.ref a := rx
  obtain rfl : iv = Value.ref b := ry
  obtain ⟨dd, hz, hm⟩ := dictH I2.hok hr kt
  refine ⟨dd.typeIs, ?_⟩
  rcases kt_val kt k with ⟨z, _⟩ | ⟨d', q, v, z, hq, rv, rd⟩
  · rw [hl] at z; cases z
  · rw [hl] at z; cases z
    exact wpAny_getItem_heap (knd := nestedKind X.prog X.w) (by show X.A.units + 1 + 8 < cLine; omega) ⟨nested_of I2.hok k rb rfl, h8⟩ dd hq ⟨v, H2, I2.tok _, rv, q2 v rd⟩
/-- k in d, k not in d -/
def tKIn (X : Cx) (ng : Bool) (ty td : TE) : TE := fun σ H Q => ty σ H fun y H1 => td σ H1 fun x H2 => ∃ a kvs xs k b, KAt X H2 x y a kvs xs k b ∧ Q (.bl (if ng = true then !(lookN kvs k).isSome else (lookN kvs k).isSome)) H2
theorem at_some {K : PySem.W.Frag} {H : Hp} {kvs : List (NestedKey × D)} {xs : List (NestedKey × Addr × Value)} (r : KTn K H kvs xs) (k : NestedKey) : (atKey xs k).isSome = (lookN kvs k).isSome := by
  rcases kt_val r k with ⟨a, b⟩ | ⟨_, _, _, a, b, _⟩ <;> rw [a, b] <;> rfl
theorem pc_kin (hu : X.A.units + 9 < cLine) (hi : PE X i ty) (ho : PE X o td) : PC X .In i o (tKIn X false ty td) := by
  refine ⟨fun pins s σ H Q I h => ?_⟩
  refine thn (hi.run pins s σ H _ I h) fun iv s1 ⟨y, H1, I1, ry, q1⟩ => thn (ho.run pins s1 σ H1 _ I1 q1) fun u s2 ⟨x, H2, I2, rx, a, kvs, xs, k, b, ⟨ex, ey, hr, kt, rb, h8⟩, q2⟩ => ?_
  subst ex ey
  obtain rfl : u = Value.ref a := rx
  obtain rfl : iv = Value.ref b := ry
  obtain ⟨dd, hz, hm⟩ := dictH I2.hok hr kt
  refine wpAny_in_heap (knd := nestedKind X.prog X.w) (by show X.A.units + 1 + 8 < cLine; omega) ⟨nested_of I2.hok k rb rfl, h8⟩ hm dd ?_
  rw [at_some kt k]
  exact ⟨.bl _, H2, I2.tok _, rfl, q2⟩
theorem pc_knotin (hu : X.A.units + 9 < cLine) (hi : PE X i ty) (ho : PE X o td) : PC X .NotIn i o (tKIn X true ty td) := by
  refine ⟨fun pins s σ H Q I h => ?_⟩
  refine thn (hi.run pins s σ H _ I h) fun iv s1 ⟨y, H1, I1, ry, q1⟩ => thn (ho.run pins s1 σ H1 _ I1 q1) fun u s2 ⟨x, H2, I2, rx, a, kvs, xs, k, b, ⟨ex, ey, hr, kt, rb, h8⟩, q2⟩ => ?_
  subst ex ey
  obtain rfl : u = Value.ref a := rx
  obtain rfl : iv = Value.ref b := ry
  obtain ⟨dd, hz, hm⟩ := dictH I2.hok hr kt
  refine wpAny_notIn_heap (knd := nestedKind X.prog X.w) (by show X.A.units + 1 + 8 < cLine; omega) ⟨nested_of I2.hok k rb rfl, h8⟩ hm dd ?_
  rw [at_some kt k]
  exact ⟨.bl _, H2, I2.tok _, rfl, q2⟩
/-- d[k] = v -/
def sKPut (X : Cx) (td ty tv : TE) : TS := fun D σ H => tv σ H fun v H1 => td σ H1 fun x H2 => ty σ H2 fun y H3 => ∃ a kvs xs k b d, KAt X H3 x y a kvs xs k b ∧ H3 a = some (.ext (DIs X.w a xs)) ∧ Rp X.K H3 v d ∧ kvs.length < sizeLine ∧
  ∀ xs', KTn X.K H3 (putN kvs k d) xs' → D.nx σ (upd H3 a (.ext (DIs X.w a xs')))
theorem k_setItem {pins : List (Addr × Obj)} {σ : St} {H : Hp} {s : Shared} {A : Around} {E : Value → Shared → Prop} {a b : Addr} {kvs : List (NestedKey × D)} {xs : List (NestedKey × Addr × Value)} {k : NestedKey} {v : V} {r : Value} {d : D} {Q : Unit → Shared → Prop}
    (hu : A.units + 9 < cLine) (I : Inv X pins σ H s) (hr : H a = some (.ext (DIs X.w a xs))) (kt : KTn X.K H kvs xs) (rb : Rp X.K H (.ref b) (kD k)) (h8 : k.depth ≤ 8) (rv : RelV v r) (rd : Rp X.K H v d) (hl : kvs.length < sizeLine)
    (h : ∀ xs' s', KTn X.K H (putN kvs k d) xs' → Inv X pins σ (upd H a (.ext (DIs X.w a xs'))) s' → Q () s') : wpAny (model X.prog X.w) A (setItem (.ref a) (.ref b) r) Q E s := by
  obtain ⟨dd, hz, hm⟩ := dictH I.hok (.inl hr) kt
  have hlen : kvs.length = xs.length := Paired.length kt
  refine wpAny_setItem_heap (knd := nestedKind X.prog X.w) (hsz := hz) (by show A.units + 1 + 8 < cLine; omega) ⟨nested_of I.hok k rb rfl, h8⟩ dd fun h' dd' hs => ?_
  have he : ∃ q, h'.get? a = some q := let ⟨q, _, _, hq, _⟩ := dd'; ⟨q, hq⟩
  have kt' := kt_put kt h8 rb rv rd
  have hl' : (storedH xs k b r).length ≤ sizeLine := by
    rw [← Paired.length kt']
    have := length_putN kvs k d
    omega
  exact h _ _ kt' (d_write I (by rw [hr]; exact True.intro) hs he (dIs_of dd' hl' hm))
theorem ps_kput (hu : X.A.units + 9 < cLine) (ho : PE X o td) (hi : PE X i ty) (hv : PE X value tv) (hs : swapsWith value (some (.Subscript o i pos')) pos.line X.env = pure false) :
    PS X (.Assign [.Subscript o i pos'] value pos) (sKPut X td ty tv) := by
  refine ⟨fun pins s σ H D I h => ?_⟩
  refine wpAny_Assign_Subscript (thn (hv.run pins s σ H _ I h) fun r s1 ⟨v, H1, I1, rv, q1⟩ => thn (ho.run pins s1 σ H1 _ I1 q1) fun u s2 ⟨x, H2, I2, rx, q2⟩ => thn (hi.run pins s2 σ H2 _ I2 q2) fun iv s3 ⟨y, H3, I3, ry, a, kvs, xs, k, b, d, ⟨ex, ey, _, kt, rb, h8⟩, hr, rd, hl, q3⟩ => ?_) hs
  subst ex ey
  obtain rfl : u = Value.ref a := rx
  obtain rfl : iv = Value.ref b := ry
  exact k_setItem hu I3 hr kt rb h8 rv rd hl fun xs' s' kt' I' => ⟨σ, _, I', q3 xs' kt'⟩
/-- d.get(k, x) -/
def tKGet2 (X : Cx) (td ty tx : TE) : TE := fun σ H Q => td σ H fun x H1 => (∃ a kvs xs, x = .ref a ∧ Rd H1 a (.ext (DIs X.w a xs)) ∧ KTn X.K H1 kvs xs) ∧ ty σ H1 fun y H2 => tx σ H2 fun z H3 => ∃ a kvs xs k b dz, KAt X H3 x y a kvs xs k b ∧ Rp X.K H3 z dz ∧ ∀ v, Rp X.K H3 v ((lookN kvs k).getD dz) → Q v H3
theorem pe_kget2 (hu : X.A.units + 9 < cLine) (ho : PE X o td) (he : PE X e ty) (hf : PE X f tx) (m : M2 X o "get" apos e f cpos) : PE X (.Call (.Attribute o "get" apos) [e, f] [] cpos) (tKGet2 X td ty tx) := by
  refine ⟨fun pins s σ H Q I h => ?_⟩
  refine wpAny_Call_method m.base m.few m.line PySem.F.plainAttrs_dict PySem.F.slot_dict_get PySem.F.type_dict_get (thn (ho.run pins s σ H _ I h) fun u s1 ⟨x, H1, I1, rx, ⟨a, kvs, xs, ex, hr, kt⟩, q1⟩ => ?_)
  subst ex
  obtain rfl : u = Value.ref a := rx
  obtain ⟨dd, hz, hm⟩ := dictH I1.hok hr kt
  refine ⟨dd.typeIs, fun b q => ?_, ?_⟩
  · cases q
    obtain ⟨ob, _, _, h1, h2, _⟩ := dd
    exact ⟨ob, h1, h2.2.1⟩
  rw [m.trees]
  refine Calls.callWith_builtin rfl (Calls.evalArgs_plain (Calls.spliced_cons (thn (he.run pins s1 σ H1 _ I1 q1) fun iv s2 ⟨y, H2, I2, ry, q2⟩ =>
    Calls.spliced_cons (thn (hf.run pins s2 σ H2 _ I2 q2) fun fv s3 ⟨z, H3, I3, rz, a', kvs, xs, k, b, dz, ⟨ex, ey, hr, kt, rb, h8⟩, rdz, q3⟩ => Calls.spliced_nil ?_))))
  cases ex
  subst ey
  obtain rfl : iv = Value.ref b := ry
  obtain ⟨dd, hz, hm⟩ := dictH I3.hok hr kt
  refine call_meetsIn PySem.F.slot_dict_get dd.typeIs PySem.F.entry_dict_get (PySem.F.args_dict_get_3 _ _ _) (meetsH_dict_get_default (nestedKind X.prog X.w) a b hm fv) ⟨by show X.A.units + 1 + 8 < cLine; omega, k, xs, ⟨nested_of I3.hok k rb rfl, h8⟩, dd, ?_⟩
  rcases kt_val kt k with ⟨z1, z2⟩ | ⟨d', q, v, z1, z2, rv, rd⟩
  · rw [z2]; rw [z1] at q3
    exact ⟨z, H3, I3.tok _, rz, q3 z rdz⟩
  · rw [z2]; rw [z1] at q3
    exact ⟨v, H3, I3.tok _, rv, q3 v rd⟩
/-- {} -/
def tKNew (X : Cx) : TE := fun _ H Q => ∀ p, H p = none → Q (.ref p) (upd H p (.ext (DIs X.w p [])))
theorem dIs_new {P : Program} {w : World} {H : Hp} (h : Heap) (hb : sysModules < h.objs.size) : ObjOk P w H (h.push { cls := .type "dict", data := .dict #[] }) h.objs.size (.ext (DIs w h.objs.size [])) :=
  dIs_of (P := P) (Heap.DictOfH.new h) (Nat.zero_le _) (beq_eq_false_iff_ne.mpr (Ne.symm (Nat.ne_of_lt hb)))
theorem pe_knew : PE X (.Dict [] [] pos) (tKNew X) := ⟨fun pins s σ H Q I h =>
  wpAny_Dict_empty ⟨.ref s.heap.objs.size, _, I.laid (a := s.heap.objs.size) (o := .ext (DIs X.w s.heap.objs.size [])) (t' := s.toks) (fun _ _ q => Heap.get?_push_of_some _ q) (Nat.le_refl _) (dIs_new s.heap I.big), rfl, h _ (I.hok.fresh (Nat.le_refl _))⟩⟩
/-- {k: v} -/
def tKOne (X : Cx) (tk tv : TE) : TE := fun σ H Q => ∀ p, H p = none → tk σ (upd H p (.ext (DIs X.w p []))) fun y H1 => tv σ H1 fun v H2 => H2 p = some (.ext (DIs X.w p [])) ∧ ∃ k b d, y = .ref b ∧ Rp X.K H2 (.ref b) (kD k) ∧ k.depth ≤ 8 ∧ Rp X.K H2 v d ∧
  ∀ xs', KTn X.K H2 [(k, d)] xs' → Q (.ref p) (upd H2 p (.ext (DIs X.w p xs')))
theorem pe_kone {kx vx : Expr} (hu : X.A.units + 9 < cLine) (hk : PE X kx ty) (hv : PE X vx tv) : PE X (.Dict [some kx] [vx] pos) (tKOne X ty tv) := by
  refine ⟨fun pins s σ H Q I h => ?_⟩
  have I1 := I.laid (a := s.heap.objs.size) (o := .ext (DIs X.w s.heap.objs.size [])) (h' := s.heap.push { cls := .type "dict", data := .dict #[] }) (t' := s.toks) (fun _ _ q => Heap.get?_push_of_some _ q) (Nat.le_refl _) (dIs_new s.heap I.big)
  have h1 := h _ (I.hok.fresh (Nat.le_refl s.heap.objs.size))
  rw [arm_eval_Dict, zip_pairTrees [some kx] [vx] X.env pos rfl rfl, dictDisplay_pairs _ (by simp [pairTrees]) (by simp [pairTrees])]
  refine wpAny_bind (wpAny_standAt (wpAny_bind (wpAny_subDictH (knd := nestedKind X.prog X.w) (by show X.A.units + 8 < cLine; omega) (by simp [pairTrees]) ?_)))
  refine pairTrees_cons_walk (thn (hk.run pins _ σ _ _ I1 h1) fun kv s1 ⟨y, H1, I2, ry, q1⟩ => thn (hv.run pins s1 σ H1 _ I2 q1) fun vv s2 ⟨v, H2, I3, rv, hp, k, b, d, ey, rb, h8, rd, q2⟩ => pairTrees_nil_walk ?_)
  subst ey
  obtain rfl : kv = Value.ref b := ry
  have kt0 : KTn X.K H2 [] [] := .nil
  obtain ⟨dd, hz, hm⟩ := dictH I3.hok (.inl hp) kt0
  refine ⟨[(k, b, vv)], ⟨rfl, rfl, ⟨nested_of I3.hok k rb rfl, h8⟩, True.intro⟩, dd, fun h' tk dd' hs => wpAny_pure ?_⟩
  have he : ∃ q, h'.get? s.heap.objs.size = some q := let ⟨q, _, _, hq, _⟩ := dd'; ⟨q, hq⟩
  have kt' : KTn X.K H2 [(k, d)] [(k, b, vv)] := .cons ⟨rfl, h8, rb, v, rv, rd⟩ .nil
  exact ⟨.ref s.heap.objs.size, _, d_write (t' := tk) I3 (by rw [hp]; exact True.intro) hs he (dIs_of (xs := [(k, b, vv)]) dd' (by show 1 ≤ sizeLine; decide) hm), rfl, q2 _ kt'⟩
end
end SR
namespace SR
open PySem PySem.Spec PyProof.Rows L2
section
variable {X : Cx} {E : XK} {XC : XCt} {g : Ga} {W : Om} {a b c : Expr} {pos : Pos} {O : OD}
theorem kAt_of {H : Hp} {W : Om} {x y : V} {d : D} {p : Addr} {kvs : List (NestedKey × D)} {k : NestedKey} (o : HpOk X.K H W) (rx : Rp X.K H x (.p p)) (ry : Rp X.K H y d) (hd : DRd X.w W p kvs) (hk : KeyD d k) :
    ∃ xs b, KAt X H x y p kvs xs k b := by
  cases rx
  obtain ⟨b, e, rb⟩ := rp_key ry hk
  obtain ⟨xs, h1, h2⟩ := hd.rd o
  exact ⟨xs, b, rfl, e, h1, h2, rb, hk.2.1⟩
/-- d[k] -/
theorem xe_kget (hu : X.A.units + 9 < cLine) (h : XE X E XC a g W fun d W1 => XE X E XC b g W1 fun e W2 => ∃ p kvs k v, d = .p p ∧ KeyD e k ∧ DRd X.w W2 p kvs ∧ lookN kvs k = some v ∧ O v W2) (hs : NoSl b := by intro _ _; rfl) : XE X E XC (.Subscript a b pos) g W O := by
  refine xe_of (pe_kget hu pe_W pe_W hs) fun σ H r k el Q q => ?_
  refine h σ H r k el _ fun x H1 d W1 k1 o1 r1 h1 => ?_
  refine h1 σ H1 (r.kp k1) o1 (el.kp k1) _ fun y H2 e W2 k2 o2 r2 ⟨p, kvs, kk, v, e1, hk, hd, hl, h2⟩ => ?_
  subst e1
  obtain ⟨xs, b, ka⟩ := kAt_of o2 (r1.kp k2) r2 hd hk
  exact ⟨p, kvs, xs, kk, b, v, ka, hl, fun u ru => q u H2 v W2 (k1.trans k2) o2 ru h2⟩
/-- k not in d -/
theorem xt_knotin {O : Bool → Om → Prop} (hu : X.A.units + 9 < cLine) (h : XE X E XC a g W fun e W1 => XE X E XC b g W1 fun d W2 => ∃ p kvs k, d = .p p ∧ KeyD e k ∧ DRd X.w W2 p kvs ∧ O (!(lookN kvs k).isSome) W2) (hm : behindInMarks .NotIn b = false := by with_unfolding_all rfl) :
    XT X E XC (.Compare a [.NotIn] [b] pos) g W O := by
  refine xt_of (pt_cmp (pc_knotin hu pe_W pe_W) hm) fun σ H r k el Q q => ?_
  refine h σ H r k el _ fun y H1 e W1 k1 o1 r1 h1 => ?_
  refine h1 σ H1 (r.kp k1) o1 (el.kp k1) _ fun x H2 d W2 k2 o2 r2 ⟨p, kvs, kk, e1, hk, hd, h2⟩ => ?_
  subst e1
  obtain ⟨xs, b, ka⟩ := kAt_of o2 r2 (r1.kp k2) hd hk
  exact ⟨p, kvs, xs, kk, b, ka, _, rfl, q _ H2 W2 (k1.trans k2) o2 h2⟩
/-- d[k] = v -/
theorem xs_kput {C : EndD} {pos' : Pos} (hu : X.A.units + 9 < cLine) (h : XE X E XC c g W fun v W0 => XE X E XC a g W0 fun d W1 => XE X E XC b g W1 fun e W2 => ∃ p kvs k, d = .p p ∧ KeyD e k ∧ W2 p = some (.dic X.w kvs) ∧ kvs.length < sizeLine ∧ C.nx g (updO W2 p (.dic X.w (putN kvs k v))))
    (hs : swapsWith c (some (.Subscript a b pos')) pos.line X.env = pure false := by rfl) : XS X E XC (.Assign [.Subscript a b pos'] c pos) g W C := by
  refine xs_of (ps_kput hu pe_W pe_W pe_W hs) fun D σ H r k el l => ?_
  refine h σ H r k el _ fun v H0 dv W0 k0 o0 r0 h0 => ?_
  refine h0 σ H0 (r.kp k0) o0 (el.kp k0) _ fun x H1 d W1 k1 o1 r1 h1 => ?_
  refine h1 σ H1 ((r.kp k0).kp k1) o1 ((el.kp k0).kp k1) _ fun y H2 e W2 k2 o2 r2 ⟨p, kvs, kk, e1, hk, hd, hl, h2⟩ => ?_
  subst e1
  have rx := r1.kp k2
  cases rx
  obtain ⟨b, eb, rb⟩ := rp_key r2 hk
  obtain ⟨xs, hx, kt⟩ := o2 p _ hd
  refine ⟨p, kvs, xs, kk, b, dv, ⟨rfl, eb, .inl hx, kt, rb, hk.2.1⟩, hx, (r0.kp k1).kp k2, hl, fun xs' kt' => ?_⟩
  have kk2 : Kp H2 (upd H2 p (.ext (DIs X.w p xs'))) := Kp.at hx (fun _ z => by cases z) (fun _ _ z => by cases z)
  exact l.nx _ _ _ _ (((k0.trans k1).trans k2).trans kk2) (o2.set kk2 (o := .dic X.w (putN kvs kk dv)) ⟨xs', upd_same, kt'.kp kk2⟩) ((((r.kp k0).kp k1).kp k2).kp kk2) h2
/-- d.get(k, x) -/
theorem xe_kget2 {apos : Pos} (hu : X.A.units + 9 < cLine) (h : XE X E XC a g W fun d W1 => ∃ p kvs, d = .p p ∧ DRd X.w W1 p kvs ∧ XE X E XC b g W1 fun e W2 => XE X E XC c g W2 fun z W3 => ∃ kvs k, KeyD e k ∧ DRd X.w W3 p kvs ∧ O ((lookN kvs k).getD z) W3)
    (m : M2 X a "get" apos b c pos := by exact ⟨rfl, rfl, rfl, rfl⟩) : XE X E XC (.Call (.Attribute a "get" apos) [b, c] [] pos) g W O := by
  refine xe_of (pe_kget2 hu pe_W pe_W pe_W m) fun σ H r k el Q q => ?_
  refine h σ H r k el _ fun x H1 d W1 k1 o1 r1 ⟨p, kvs1, e1, hd1, h1⟩ => ?_
  subst e1
  obtain ⟨xs1, hr1, kt1⟩ := hd1.rd o1
  refine ⟨⟨p, kvs1, xs1, by cases r1; rfl, hr1, kt1⟩, ?_⟩
  refine h1 σ H1 (r.kp k1) o1 (el.kp k1) _ fun y H2 e W2 k2 o2 r2 h2 => ?_
  refine h2 σ H2 ((r.kp k1).kp k2) o2 ((el.kp k1).kp k2) _ fun z H3 dz W3 k3 o3 r3 ⟨kvs, kk, hk, hd, h3⟩ => ?_
  obtain ⟨xs, b, ka⟩ := kAt_of o3 ((r1.kp k2).kp k3) (r2.kp k3) hd hk
  exact ⟨p, kvs, xs, kk, b, dz, ka, r3, fun u ru => q u H3 _ W3 ((k1.trans k2).trans k3) o3 ru h3⟩
/-- {} -/
theorem xe_knew (h : ∀ p, W p = none → O (.p p) (updO W p (.dic X.w []))) : XE X E XC (.Dict [] [] pos) g W O := by
  refine xe_of pe_knew fun σ H r k el Q q => ?_
  intro p hp
  exact q _ _ _ _ (Kp.new hp) (k.new (o := .dic X.w []) hp ⟨[], upd_same, .nil⟩) (.p p) (h p (k.free hp))
/-- {k: v} -/
theorem xe_kone (hu : X.A.units + 9 < cLine) (h : ∀ p, W p = none → XE X E XC a g (updO W p (.dic X.w [])) fun e W1 => XE X E XC b g W1 fun v W2 => ∃ k, KeyD e k ∧ W2 p = some (.dic X.w []) ∧ O (.p p) (updO W2 p (.dic X.w [(k, v)]))) : XE X E XC (.Dict [some a] [b] pos) g W O := by
  refine xe_of (pe_kone hu pe_W pe_W) fun σ H r k el Q q => ?_
  intro p hp
  have kn : Kp H (upd H p (.ext (DIs X.w p []))) := Kp.new hp
  refine h p (k.free hp) σ _ (r.kp kn) (k.new (o := .dic X.w []) hp ⟨[], upd_same, .nil⟩) (el.kp kn) _ fun y H1 e W1 k1 o1 r1 h1 => ?_
  refine h1 σ H1 ((r.kp kn).kp k1) o1 ((el.kp kn).kp k1) _ fun v H2 d W2 k2 o2 r2 ⟨kk, hk, hd, h2⟩ => ?_
  obtain ⟨xs, hx, kt⟩ := o2 p _ hd
  cases kt
  obtain ⟨b, eb, rb⟩ := rp_key (r1.kp k2) hk
  refine ⟨hx, kk, b, d, eb, rb, hk.2.1, r2, fun xs' kt' => ?_⟩
  have kk2 : Kp H2 (upd H2 p (.ext (DIs X.w p xs'))) := Kp.at hx (fun _ z => by cases z) (fun _ _ z => by cases z)
  exact q _ _ _ _ (((kn.trans k1).trans k2).trans kk2) (o2.set kk2 (o := .dic X.w [(kk, d)]) ⟨xs', upd_same, kt'.kp kk2⟩) (.p p) h2
/-- a dict that changes no more -/
theorem xs_lock {C : EndD} {st : Stmt} (p : Addr) (kvs : List (NestedKey × D)) (hp : W p = some (.dic X.w kvs)) (h : XS X E XC st g (updO W p (.fdic X.w kvs)) C) : XS X E XC st g W C := by
  intro D σ H r k el l pins s I
  obtain ⟨xs, hx, kt⟩ := k p _ hp
  obtain ⟨od, I2⟩ := I.lock hx True.intro
  have kk : Kp H (upd H p (.frz od (.ext (DIs X.w p xs)))) := Kp.at hx (fun _ z => by cases z) (fun _ _ z => by cases z)
  exact h D σ _ (r.kp kk) (k.set kk (o := .fdic X.w kvs) ⟨od, xs, upd_same, kt.kp kk⟩) (el.kp kk) (l.kp kk) pins s I2
theorem xe_lock {e : Expr} (p : Addr) (kvs : List (NestedKey × D)) (hp : W p = some (.dic X.w kvs)) (h : XE X E XC e g (updO W p (.fdic X.w kvs)) O) : XE X E XC e g W O := by
  intro σ H r k el Q q pins s I
  obtain ⟨xs, hx, kt⟩ := k p _ hp
  obtain ⟨od, I2⟩ := I.lock hx True.intro
  have kk : Kp H (upd H p (.frz od (.ext (DIs X.w p xs)))) := Kp.at hx (fun _ z => by cases z) (fun _ _ z => by cases z)
  exact h σ _ (r.kp kk) (k.set kk (o := .fdic X.w kvs) ⟨od, xs, upd_same, kt.kp kk⟩) (el.kp kk) _ (q.kp kk) pins s I2
end
/-! ### walking a dict that changes no more -/
def Frz (w : World) (d : Addr) (o : Obj) (xs : List (NestedKey × Addr × Value)) (H : Hp) : Prop := H d = some (.frz o (.ext (DIs w d xs)))
theorem frzN {X : Cx} {pins : List (Addr × Obj)} {σ : St} {H : Hp} {s : Shared} {d : Addr} {o : Obj} {xs : List (NestedKey × Addr × Value)} (I : Inv X pins σ H s) (h : Frz X.w d o xs H) :
    (d == sysModules) = false ∧ s.heap.get? d = some o ∧ o.ExactDict ∧ ∃ (es : Array DictEntry) (ep : Nat), o.data = .dict es ep ∧ es.size = xs.length ∧ ∀ (i : Nat) e, xs[i]? = some e → ∃ en, es[i]? = some en ∧ en.key = .ref e.2.1 ∧ en.val = e.2.2 := by
  obtain ⟨hd, ⟨⟨hz, hs, o', es, ep, ho, hx, hdt, he, _⟩, _⟩⟩ := I.hok d _ h
  rw [hd] at ho
  cases ho
  refine ⟨hs, hd, hx, es, ep, hdt, ?_, fun i e q => ?_⟩
  · rw [← Array.length_toList, he, List.length_map]
  · refine ⟨⟨e.1.hash X.w, .ref e.2.1, e.2.2⟩, ?_, rfl, rfl⟩
    rw [← Array.getElem?_toList, he, List.getElem?_map, q]
    rfl
def Itn (w : World) (d : Addr) (o : Obj) (xs : List (NestedKey × Addr × Value)) : It :=
  ⟨fun i H => Frz w d o xs H ∧ i < xs.length, fun i H x H' => H' = H ∧ ∃ e, xs[i]? = some e ∧ x = .ref e.2.1, fun i H => Frz w d o xs H ∧ xs.length ≤ i⟩
def Itm (w : World) (d : Addr) (o : Obj) (xs : List (NestedKey × Addr × Value)) : It :=
  ⟨fun i H => Frz w d o xs H ∧ i < xs.length, fun i H x H' => ∃ T e, xs[i]? = some e ∧ x = .ref T ∧ H T = none ∧ ∃ v, RelV v e.2.2 ∧ H' = upd H T (.tup [.ref e.2.1, v]), fun i H => Frz w d o xs H ∧ xs.length ≤ i⟩
section
variable {P : Program} {w : World} {K : PySem.W.Frag} {tg : Expr} {d : Addr} {o : Obj} {es : Array DictEntry} {ep : Nat} {xs : List (NestedKey × Addr × Value)}
theorem turn_keysN (it : Addr) (hod : o.data = .dict es ep) : Turn P w K tg (Itn w d o xs) [it] it (fun i h => h.IsKeyIter it d i xs.length ep) where
  mem := by simp
  obj := fun i h st b hb => by
    have e : b = it := by simpa using hb
    subst e
    obtain ⟨oi, e, c, dd⟩ := st
    exact ⟨oi, e, fun v z => by rw [dd] at z; cases z⟩
  keep := fun i h h' st k => st.at fun oi e => k it (by simp) oi e
  item := by
    intro X hP hw hK hc i pins s σ H E I hf st hg
    subst hP hw hK
    obtain ⟨hd, hi⟩ := hg
    obtain ⟨f0, f1, f2, f3, f4, f5⟩ := hf it (by simp)
    obtain ⟨hs, hgd, hx, es', ep', hdt, hsz, ent⟩ := frzN I hd
    obtain ⟨rfl, rfl⟩ := dict_ep hod hdt
    obtain ⟨e0, he0⟩ : ∃ p, xs[i]? = some p := ⟨xs[i], List.getElem?_eq_getElem hi⟩
    obtain ⟨en, hen, hkey, _⟩ := ent i e0 he0
    refine next_key_item st hgd hdt hsz hen fun h' st' sb => ?_
    have I1 : Inv X pins σ H { s with heap := h' } := I.turned (t' := s.toks) (fun b ob hb e => (sb.2 b hb).trans e) f0 f1 f3 f4 f5
    obtain ⟨oi, e, c, dd⟩ := id st'
    exact ⟨en.key, rfl, go_of (s := { s with heap := h' }) e c dd (by decide) ⟨.ref e0.2.1, H, I1, hkey, ⟨rfl, e0, he0, rfl⟩, st', fun b hb => (hf b hb).1⟩⟩
  done := by
    intro X hP hw hK hc i pins s σ H E I hf st hg
    subst hP hw hK
    obtain ⟨hd, hi⟩ := hg
    obtain ⟨f0, f1, f2, f3, f4, f5⟩ := hf it (by simp)
    obtain ⟨hs, hgd, hx, es', ep', hdt, hsz, ent⟩ := frzN I hd
    obtain ⟨rfl, rfl⟩ := dict_ep hod hdt
    exact next_key_end (I.ok.hd hc) st hgd hdt hsz hi fun h' eb => ⟨rfl, I.turned (t' := s.toks) (fun b ob hb e => eb b ob hb e) f0 f1 f3 f4 f5⟩
  self := fun A i s Q E st h => by
    refine wpAny_pyIter_slot st.typeIs F.slot_dict_keyiterator_iter (wpAny_call_entry F.slot_dict_keyiterator_iter st.typeIs F.entry_dict_keyiterator_iter ?_ (F.args_dict_keyiterator_iter_1 _))
    show wpAny _ _ (ret (.ref it)) _ _ s
    exact wpAny_pure ⟨_, rfl, "dict_keyiterator", _, st.typeIs, F.slot_dict_keyiterator_next.lookup, h⟩
theorem relV_any (u : Value) (h : ∃ v, RelV v u) : ∃ v, RelV v u := h
theorem turn_itemsN {elts : List Expr} {kk : Nat} {tpos : Pos} (it : Addr) (hod : o.data = .dict es ep) (hv : ∀ e ∈ xs, ∃ v, RelV v e.2.2) :
    Turn P w K (.Tuple elts kk tpos) (Itm w d o xs) [it] it (fun i h => ∃ ok ov, IsItemIter h it d i xs.length ep ok ov) where
  mem := by simp
  obj := fun i h st b hb => by
    have e : b = it := by simpa using hb
    subst e
    obtain ⟨ok, ov, e⟩ := st
    exact ⟨_, e, fun v z => nomatch z⟩
  keep := fun i h h' st k => let ⟨ok, ov, e⟩ := st; ⟨ok, ov, k it (by simp) _ e⟩
  item := by
    intro X hP hw hK hc i pins s σ H E I hf st hg
    subst hP hw hK
    obtain ⟨hd, hi⟩ := hg
    obtain ⟨hs, hgd, hx, es', ep', hdt, hsz, ent⟩ := frzN I hd
    obtain ⟨rfl, rfl⟩ := dict_ep hod hdt
    obtain ⟨e0, he0⟩ : ∃ p, xs[i]? = some p := ⟨xs[i], List.getElem?_eq_getElem hi⟩
    obtain ⟨en, hen, hkey, hval⟩ := ent i e0 he0
    obtain ⟨v, rv⟩ := hv e0 (List.mem_of_getElem? he0)
    obtain ⟨ok, ov, he⟩ := st
    rw [← hsz] at he
    have hlt : it < s.heap.objs.size := Heap.lt_size he
    have hi' : i < es'.size := by rw [hsz]; exact hi
    have hen' : es'[i] = en := by
      rw [Array.getElem?_eq_getElem hi'] at hen
      exact Option.some.inj hen
    refine DT.nextI he ⟨o, hgd, hx, hdt⟩ hi' fun h' ho hT hz hk => ?_
    rw [hen', hkey, hval] at ho hT
    refine ⟨_, rfl, wpAny_letOwnedTupleGo_items (s := { s with heap := h' }) ho fun h'' he' sb => ?_⟩
    have hT2 : h''.get? s.heap.objs.size = some { cls := .type "tuple", data := .seq #[.ref e0.2.1, e0.2.2] } := (sb.2 _ (Nat.ne_of_gt hlt)).trans hT
    have new : ObjOk X.prog X.w (upd H s.heap.objs.size (.tup [.ref e0.2.1, v])) h'' s.heap.objs.size (.tup [.ref e0.2.1, v]) :=
      ⟨by show 2 ≤ sizeLine; decide, [.ref e0.2.1, e0.2.2], .cons rfl (.cons rv .nil), ⟨_, hT2, rfl, _, rfl⟩⟩
    have I1 : Inv X pins σ (upd H s.heap.objs.size (.tup [.ref e0.2.1, v])) { s with heap := h'' } :=
      I.turnedNew (t' := s.toks) (ch := [it]) (fun b ob hb e => (sb.2 b (by simpa using hb)).trans (hk b ob (by simpa using hb) e)) hf (Nat.le_refl _) new
    refine ⟨.ref s.heap.objs.size, _, I1, rfl, ⟨_, e0, he0, rfl, I.hok.fresh (Nat.le_refl _), v, rv, rfl⟩, ⟨_, _, by rw [← hsz]; exact he'⟩, fun b hb => ?_⟩
    have e : b = it := by simpa using hb
    rw [e, upd_ne (Nat.ne_of_lt hlt)]
    exact (hf it (by simp)).1
  done := by
    intro X hP hw hK hc i pins s σ H E I hf st hg
    subst hP hw hK
    obtain ⟨hd, hi⟩ := hg
    obtain ⟨f0, f1, f2, f3, f4, f5⟩ := hf it (by simp)
    obtain ⟨hs, hgd, hx, es', ep', hdt, hsz, ent⟩ := frzN I hd
    obtain ⟨rfl, rfl⟩ := dict_ep hod hdt
    obtain ⟨ok, ov, he⟩ := st
    rw [← hsz] at he
    exact DT.endI (I.ok.hd hc) he ⟨o, hgd, hx, hdt⟩ (by rw [hsz]; exact hi) fun h' eb => ⟨rfl, I.turned (t' := s.toks) (fun b ob hb e => eb b ob hb e) f0 f1 f3 f4 f5⟩
  self := fun A i s Q E st h => let ⟨_, _, e⟩ := st; PySem.W.kcp_self e h
end
def iKeysN (X : Cx) (td : TE) : TI := fun σ H R => td σ H fun x H1 => ∃ d o xs, x = .ref d ∧ Frz X.w d o xs H1 ∧ R (Itn X.w d o xs) H1
def iItemsN (X : Cx) (td : TE) : TI := fun σ H R => td σ H fun x H1 => ∃ d o xs, x = .ref d ∧ Frz X.w d o xs H1 ∧ (∀ e ∈ xs, ∃ v, RelV v e.2.2) ∧ R (Itm X.w d o xs) H1
section
variable {X : Cx} {tg e : Expr} {td : TE} {apos cpos : Pos}
theorem pi_keysN (he : PE X e td) : PI X tg e (iKeysN X td) := by
  refine ⟨fun pins s σ H R I h => ?_⟩
  refine thn (he.run pins s σ H _ I h) fun u s1 ⟨x, H1, I1, rx, d, o, xs, ex, hd, q⟩ => ?_
  subst ex
  obtain rfl : u = Value.ref d := rx
  obtain ⟨hs, hgd, hx, es, ep, hdt, hsz, ent⟩ := frzN I1 hd
  refine iter_keys hs hgd hx hdt (pi_one (tk := s1.toks) I1 _ (turn_keysN _ hdt) ⟨_, Heap.get?_push_size _ rfl, rfl, ?_⟩ q)
  rw [hsz] <;> rfl
theorem pi_itemsN {elts : List Expr} {kk : Nat} {tpos : Pos} (he : PE X e td) (hbase : attributeBase e "items" X.env (eval e X.env) = eval e X.env := by rfl) (hline : (apos.endLine == cpos.line) = true := by rfl) :
    PI X (.Tuple elts kk tpos) (.Call (.Attribute e "items" apos) [] [] cpos) (iItemsN X td) := by
  refine ⟨fun pins s σ H R I h => ?_⟩
  refine wpAny_Call_method (T := "dict") (id := "dict.items") hbase rfl hline F.plainAttrs_dict F.slot_dict_items F.type_dict_items (thn (he.run pins s σ H _ I h) fun u s1 ⟨x, H1, I1, rx, d, o, xs, ex, hd, hv, q⟩ => ?_)
  subst ex
  obtain rfl : u = Value.ref d := rx
  obtain ⟨hs, hgd, hx, es, ep, hdt, hsz, ent⟩ := frzN I1 hd
  have raw : DT.Raw s1.heap d es ep := ⟨o, hgd, hx, hdt⟩
  refine ⟨raw.typeIs, fun b q => by cases q; exact ⟨o, hgd, hx.2.1⟩, ?_⟩
  have I2 : Inv X pins σ H1 { s1 with heap := s1.heap.push { cls := .type "dict_items", data := .fields #[.ref d] } } := I1.kept (t' := s1.toks) fun b ob q => Heap.get?_push_of_some _ q
  have fin : wpAny (model X.prog X.w) X.A (pyIter (.ref s1.heap.objs.size)) (PIE X pins σ (.Tuple elts kk tpos) R) X.xe { s1 with heap := s1.heap.push { cls := .type "dict_items", data := .fields #[.ref d] } } := by
    refine DT.iterI (d := d) ⟨_, Heap.get?_push_size _ rfl, rfl, rfl⟩ (raw.push _) (pi_one (tk := s1.toks) I2 _ (turn_itemsN _ hdt hv) ⟨.none, .none, ?_⟩ q)
    rw [hsz]
    exact Heap.get?_push_size _ rfl
  show wpAny _ _ (callWith cpos (.builtin "dict.items") [.ref d] [] []) _ X.xe s1
  exact method_meetsIn F.slot_dict_items F.entry_dict_items rfl (PySem.evalArgs_none ⟨rfl, raw.typeIs, F.args_dict_items_1 _, _, DT.meetsItems (es := es) (ep := ep) hs, raw, fin⟩)
end
end SR
namespace SR
open PySem PySem.Spec PyProof.Rows L2
theorem updO_comm {W : Om} {a b : Addr} {o u : Ob} (h : a ≠ b) : updO (updO W a o) b u = updO (updO W b u) a o := by
  funext c
  unfold updO
  by_cases h1 : c = b
  · subst h1
    rw [if_pos rfl, if_neg (Ne.symm h), if_pos rfl]
  · rw [if_neg h1, if_neg h1]
theorem sub_upd {W W' : Om} {a : Addr} {o : Ob} (s : Sub W W') (h : W' a = some o) : Sub (updO W a o) W' := fun b u e => by
  by_cases hb : b = a
  · subst hb; rw [updO_same] at e; cases e; exact h
  · rw [updO_ne hb] at e; exact s b u e
theorem sub_in {W W' : Om} {a : Addr} {o : Ob} (s : Sub W W') (h : W a = none) : Sub W (updO W' a o) := fun b u e => by
  rw [updO_ne (neO e h)]; exact s b u e
section
variable {X : Cx} {E : XK} {XC : XCt} {g : Ga} {W : Om} {a b c : Expr} {pos : Pos} {O : OD}
/-- long tuples -/
def AddT : R2D := fun d e W O => ∃ xs ys, d = .tup xs ∧ e = .tup ys ∧ xs.length + ys.length ≤ sizeLine ∧ O (.tup (xs ++ ys)) W
theorem op2_addT (K : PySem.W.Frag) : Op2 K (rAddA K) AddT := by
  intro x y d e H W O Q rx ry o q ⟨xs, ys, e1, e2, hz, h⟩
  subst e1 e2
  cases rx with
  | @tup l xs ds hl hx =>
    cases ry with
    | @tup m ys es hm hy =>
      refine .inr (.inl ⟨l, m, xs, ys, rfl, rfl, .of hl, .of hm, by rw [hx.length, hy.length]; exact hz, fun e => ?_, fun _ e => ?_, fun _ _ p hp => ?_⟩)
      · subst e
        cases hx
        exact q _ H _ W (Kp.refl H) o (.tup hm hy) h
      · subst e
        cases hy
        exact q _ H _ W (Kp.refl H) o (.tup hl (by rw [List.append_nil]; exact hx)) h
      · exact q _ _ _ W (Kp.new hp) (o.more hp) (.tup upd_same ((hx.append hy).kp (Kp.new hp))) h
theorem xe_addT (h : XE X E XC a g W fun d W1 => XE X E XC b g W1 fun e W2 => AddT d e W2 O) : XE X E XC (.BinOp a .Add b pos) g W O :=
  xe_of (pe_op (r := rAddA X.K) (op_add.or (op_catA.or (op_add_str.or op_cat))) pe_W pe_W) (ex_op (op2_addT X.K) h)
theorem relV_det {v v' : V} {u : Value} (h : L2.RelV v u) (k : L2.RelV v' u) : v = v' := by
  cases v <;> cases v' <;> simp only [L2.RelV] at h k <;> first
    | rfl
    | (obtain ⟨t, rfl⟩ := h; obtain ⟨t2, k⟩ := k; cases k; rfl)
    | (obtain ⟨t, rfl⟩ := h; obtain ⟨t2, k⟩ := k; cases k; done)
    | (obtain ⟨t, rfl⟩ := h; cases k; done)
    | (subst h; obtain ⟨t2, k⟩ := k; cases k; done)
    | (subst h; cases k; rfl)
    | (subst h; cases k)
theorem kt_get {K : PySem.W.Frag} {H : Hp} : ∀ {kvs : List (NestedKey × D)} {xs : List (NestedKey × Addr × Value)} {i : Nat} {e : NestedKey × Addr × Value}, KTn K H kvs xs → xs[i]? = some e → ∃ p, kvs[i]? = some p ∧ Rp K H (.ref e.2.1) (kD p.1) ∧ ∀ v, RelV v e.2.2 → Rp K H v p.2
  | _, _, _, _, .nil, q => by simp at q
  | _, _, 0, e, .cons (a := p) h _, q => by
    simp at q; subst q
    obtain ⟨_, _, h3, v, h4, h5⟩ := h
    refine ⟨p, by simp, h3, fun v' h6 => ?_⟩
    have : v' = v := relV_det h6 h4
    rw [this]; exact h5
  | _, _, i + 1, e, .cons _ t, q => by
    obtain ⟨p, h1, h2⟩ := kt_get (i := i) t (by simpa using q)
    exact ⟨p, by simpa using h1, h2⟩
theorem xi_keys {tg iter : Expr} {O : List D → (Om → Prop) → Om → Prop} (h : XE X E XC iter g W fun d W1 => ∃ p kvs, d = .p p ∧ W1 p = some (.fdic X.w kvs) ∧ O (kvs.map fun e => kD e.1) (fun _ => True) W1) : XI X E XC tg iter g W O := by
  refine ⟨_, pi_keysN pe_W, fun σ H r k el R q => ?_⟩
  refine h σ H r k el _ fun v H1 d W1 k1 o1 r1 ⟨p, kvs, e, hp, h1⟩ => ?_
  subst e
  cases r1
  obtain ⟨od, xs, hx, kt⟩ := o1 p _ hp
  have hl : kvs.length = xs.length := Paired.length kt
  refine ⟨p, od, xs, rfl, hx, q _ H1 _ _ W1 k1 o1 (fun i H2 W2 k2 o2 _ => ?_) h1⟩
  have hx2 : Frz X.w p od xs H2 := k2.f _ _ _ hx
  have kt2 := kt.kp k2
  refine ⟨fun hi => ⟨⟨hx2, by rw [List.length_map] at hi; omega⟩, fun x H' ⟨e1, en, h2, e2⟩ => ?_⟩, fun hi => ⟨hx2, by rw [List.length_map] at hi; omega⟩⟩
  subst e1 e2
  obtain ⟨pr, h3, h4, _⟩ := kt_get kt2 h2
  exact ⟨Kp.refl _, o2, kD pr.1, by rw [List.getElem?_map, h3]; rfl, h4⟩
theorem xi_items {elts : List Expr} {kk : Nat} {tpos apos : Pos} {O : List D → (Om → Prop) → Om → Prop} (h : XE X E XC a g W fun d W1 => ∃ p kvs, d = .p p ∧ W1 p = some (.fdic X.w kvs) ∧ O (kvs.map fun e => .tup [kD e.1, e.2]) (fun _ => True) W1)
    (hbase : attributeBase a "items" X.env (eval a X.env) = eval a X.env := by rfl) (hline : (apos.endLine == pos.line) = true := by rfl) : XI X E XC (.Tuple elts kk tpos) (.Call (.Attribute a "items" apos) [] [] pos) g W O := by
  refine ⟨_, pi_itemsN pe_W hbase hline, fun σ H r k el R q => ?_⟩
  refine h σ H r k el _ fun v H1 d W1 k1 o1 r1 ⟨p, kvs, e, hp, h1⟩ => ?_
  subst e
  cases r1
  obtain ⟨od, xs, hx, kt⟩ := o1 p _ hp
  have hl : kvs.length = xs.length := Paired.length kt
  have hv : ∀ e ∈ xs, ∃ v, RelV v e.2.2 := by
    have : ∀ {l : List (NestedKey × D)} {m : List (NestedKey × Addr × Value)}, KTn X.K H1 l m → ∀ e ∈ m, ∃ v, RelV v e.2.2 := by
      intro l m t
      induction t with
      | nil => intro e he; cases he
      | cons hq _ ih =>
        intro e he
        rcases List.mem_cons.mp he with rfl | he
        · exact ⟨_, hq.2.2.2.choose_spec.1⟩
        · exact ih e he
    exact this kt
  refine ⟨p, od, xs, rfl, hx, hv, q _ H1 _ _ W1 k1 o1 (fun i H2 W2 k2 o2 _ => ?_) h1⟩
  have hx2 : Frz X.w p od xs H2 := k2.f _ _ _ hx
  have kt2 := kt.kp k2
  refine ⟨fun hi => ⟨⟨hx2, by rw [List.length_map] at hi; omega⟩, fun x H' ⟨T, en, h2, e2, hT, u, ru, e3⟩ => ?_⟩, fun hi => ⟨hx2, by rw [List.length_map] at hi; omega⟩⟩
  subst e2 e3
  obtain ⟨pr, h3, h4, h5⟩ := kt_get kt2 h2
  have kn : Kp H2 (upd H2 T (.tup [.ref en.2.1, u])) := Kp.new hT
  exact ⟨kn, o2.more hT, .tup [kD pr.1, pr.2], by rw [List.getElem?_map, h3]; rfl, .tup upd_same (.cons (h4.kp kn) (.cons ((h5 u ru).kp kn) .nil))⟩
/-- a loop whose invariant knows what is walked -/
theorem xs_forL {C : EndD} {tg iter : Expr} {body : List Stmt}
    (h : XI X E XC tg iter g W fun ds ok W1 => ∃ I : Nat → Ga → Om → Prop, I 0 g W1 ∧ (∀ i g' W', I i g' W' → ok W') ∧
      (∀ i d g' W', ds[i]? = some d → I i g' W' → XG X tg d g' W' fun g2 W2 => XB X E XC body g2 W2 { C with nx := I (i + 1), ct := I (i + 1), bk := C.nx }) ∧ (∀ g' W', I ds.length g' W' → C.nx g' W'))
    (hp : PassesOwn (model X.prog X.w) X.A X.env X.xe := by exact PassesOwn.never) (hc : X.calm = true := by rfl) (hs : ∀ x, foldedSetIterable iter X.env x = pure x := by intro _; rfl) : XS X E XC (.For tg iter body [] pos) g W C := by
  obtain ⟨wi, hi, hw⟩ := h
  refine xs_of (ps_for hp hc hi pg_W pss_W hs) fun D σ H r k el l => ?_
  refine hw σ H r k el _ fun J H1 ds ok W1 k1 o1 it ⟨I, h0, hok, hturn, hend⟩ => ?_
  refine ⟨fun i m σ H => m = ds.length - i ∧ i ≤ ds.length ∧ ∃ g' W', Kp H1 H ∧ HpOk X.K H W' ∧ RpS X.K H σ g' ∧ I i g' W', ⟨ds.length, rfl, Nat.zero_le _, g, W1, Kp.refl _, o1, r.kp k1, h0⟩, ?_⟩
  rintro i m σ2 H2 ⟨rfl, hil, g', W', k2, o2, r2, hI⟩
  obtain ⟨hgo, hst⟩ := it i H2 W' k2 o2 (hok i g' W' hI)
  by_cases hlt : i < ds.length
  · obtain ⟨go, hy⟩ := hgo hlt
    refine .inr ⟨go, fun σ3 H3 => ∃ g3 W3, Kp H1 H3 ∧ HpOk X.K H3 W3 ∧ RpS X.K H3 σ3 g3 ∧ I (i + 1) g3 W3, fun σ3 H3 h3 => ⟨ds.length - (i + 1), by omega, rfl, hlt, h3⟩, fun x H' y => ?_⟩
    obtain ⟨k3, o3, d, hd, rx⟩ := hy x H' y
    refine hturn i d g' W' hd hI x σ2 H' (r2.kp k3) o3 rx _ fun σ4 H4 g4 W4 k4 o4 r4 h4 => ?_
    have kk : Kp H H4 := ((k1.trans k2).trans k3).trans k4
    refine h4 _ σ4 H4 r4 o4 (el.kp kk) ⟨fun σ5 H5 g5 W5 k5 o5 r5 h5 => ⟨g5, W5, ((k2.trans k3).trans k4).trans k5, o5, r5, h5⟩, l.rt.kp kk, l.nx.kp kk, fun σ5 H5 g5 W5 k5 o5 r5 h5 => ⟨g5, W5, ((k2.trans k3).trans k4).trans k5, o5, r5, h5⟩⟩
  · have e : i = ds.length := by omega
    subst e
    exact .inl ⟨hst (Nat.le_refl _), l.nx σ2 H2 g' W' (k1.trans k2) o2 r2 (hend g' W' hI)⟩
end
end SR
/-! Plain facts: stores and days. -/
namespace SR
structure Sto where
  room : Int
  wait : Int
  fill : Bool
  level : Int
  size : Int
structure Sto.ok (s : Sto) : Prop where
  r1 : 1 ≤ s.room
  r12 : s.room ≤ 12
  w1 : 1 ≤ s.wait
  w3 : s.wait ≤ 3
  l0 : 0 ≤ s.level
  l12 : s.level ≤ 12
  sz : if s.fill = true then s.level + 1 ≤ s.size ∧ s.size ≤ 18 else 1 ≤ s.size ∧ s.size ≤ 6
theorem Sto.ok.s1 {s : Sto} (h : s.ok) : 1 ≤ s.size := by
  have := h.sz; have := h.l0
  split at * <;> omega
theorem Sto.ok.s18 {s : Sto} (h : s.ok) : s.size ≤ 18 := by
  have := h.sz; have := h.l0
  split at * <;> omega
/-- what is ordered for a position -/
def amount (s : Sto) (p : Int) : Int := if p > s.level then 0 else if s.fill = true then s.size - p else ((s.level - p) / s.size + 1) * s.size
/-- a situation: the stock, what is coming -/
structure Sit where
  stock : Int
  coming : List Int
  deriving DecidableEq
structure DRow where
  came : Int
  spilled : Int
  missed : Int
  stock : Int
  ordered : Int
  deriving DecidableEq
def withOrder (s : Sto) (x : Int) (c : List Int) : Sit := ⟨x, c ++ [amount s (x + c.sum)]⟩
def begunS (s : Sto) (start : Int) : Sit := withOrder s start (List.replicate (s.wait - 1).toNat 0)
/-- a day -/
def dayRow (s : Sto) (x : Sit) (d : Int) : DRow :=
  let c := x.coming.headD 0
  let there := min s.room (x.stock + c)
  let missed := max 0 (d - there)
  ⟨c, x.stock + c - there, missed, there - d + missed, amount s (there - d + missed + x.coming.tail.sum)⟩
def dayS (s : Sto) (x : Sit) (d : Int) : Sit := ⟨(dayRow s x d).stock, x.coming.tail ++ [(dayRow s x d).ordered]⟩
def runS (s : Sto) : Sit → List Int → Sit
  | x, [] => x
  | x, d :: r => runS s (dayS s x d) r
def rowsS (s : Sto) : Sit → List Int → List DRow
  | _, [] => []
  | x, d :: r => dayRow s x d :: rowsS s (dayS s x d) r
theorem runS_append (s : Sto) : ∀ (x : Sit) (a b : List Int), runS s x (a ++ b) = runS s (runS s x a) b
  | _, [], _ => rfl
  | x, d :: r, b => runS_append s (dayS s x d) r b
theorem rowsS_append (s : Sto) : ∀ (x : Sit) (a b : List Int), rowsS s x (a ++ b) = rowsS s x a ++ rowsS s (runS s x a) b
  | _, [], _ => rfl
  | x, d :: r, b => by
    show dayRow s x d :: rowsS s (dayS s x d) (r ++ b) = dayRow s x d :: (rowsS s (dayS s x d) r ++ rowsS s (runS s (dayS s x d) r) b)
    rw [rowsS_append s (dayS s x d) r b]
theorem runS_snoc (s : Sto) (x : Sit) (a : List Int) (d : Int) : runS s x (a ++ [d]) = dayS s (runS s x a) d := runS_append s x a [d]
theorem rowsS_snoc (s : Sto) (x : Sit) (a : List Int) (d : Int) : rowsS s x (a ++ [d]) = rowsS s x a ++ [dayRow s (runS s x a) d] := rowsS_append s x a [d]
theorem rowsS_len (s : Sto) : ∀ (x : Sit) (a : List Int), (rowsS s x a).length = a.length
  | _, [] => rfl
  | x, d :: r => by show (rowsS s (dayS s x d) r).length + 1 = r.length + 1; rw [rowsS_len s _ r]
theorem rowsS_take (s : Sto) : ∀ (x : Sit) (a : List Int) (n : Nat), rowsS s x (a.take n) = (rowsS s x a).take n
  | _, [], n => by simp [rowsS]
  | _, _ :: _, 0 => rfl
  | x, d :: r, n + 1 => by
    show dayRow s x d :: rowsS s (dayS s x d) (r.take n) = dayRow s x d :: (rowsS s (dayS s x d) r).take n
    rw [rowsS_take s _ r n]
/-- a situation of a store: as many as the wait are coming -/
structure SitOk (s : Sto) (x : Sit) : Prop where
  len : x.coming.length = s.wait.toNat
  x0 : 0 ≤ x.stock
  xr : x.stock ≤ s.room
  c0 : ∀ c ∈ x.coming, 0 ≤ c
theorem amount_nn {s : Sto} (h : s.ok) (p : Int) (hp : 0 ≤ p) : 0 ≤ amount s p := by
  unfold amount
  have h1 := h.s1
  have h2 := h.sz
  split
  · omega
  · split
    · rw [if_pos (by assumption)] at h2; omega
    · refine Int.mul_nonneg ?_ (by omega)
      have : 0 ≤ (s.level - p) / s.size := Int.ediv_nonneg (by omega) (by omega)
      omega
theorem sum_nn : ∀ {l : List Int}, (∀ c ∈ l, 0 ≤ c) → 0 ≤ l.sum
  | [], _ => Int.le_refl _
  | a :: r, h => by
    have := sum_nn fun c hc => h c (List.mem_cons_of_mem _ hc)
    have := h a List.mem_cons_self
    rw [List.sum_cons]; omega
theorem withOrder_ok {s : Sto} (h : s.ok) {x : Int} {c : List Int} (hc : c.length + 1 = s.wait.toNat) (h0 : 0 ≤ x) (h1 : x ≤ s.room) (hn : ∀ y ∈ c, 0 ≤ y) : SitOk s (withOrder s x c) := by
  refine ⟨by show (c ++ [_]).length = _; rw [List.length_append]; exact hc, h0, h1, fun y hy => ?_⟩
  rcases List.mem_append.mp hy with e | e
  · exact hn y e
  · simp at e
    subst e
    exact amount_nn h _ (by have := sum_nn hn; omega)
theorem begunS_ok {s : Sto} (h : s.ok) {x : Int} (h0 : 0 ≤ x) (h1 : x ≤ s.room) : SitOk s (begunS s x) := by
  refine withOrder_ok h ?_ h0 h1 fun y hy => ?_
  · have := h.w1
    rw [List.length_replicate]; omega
  · rw [List.eq_of_mem_replicate hy]; omega
theorem dayS_eq (s : Sto) (x : Sit) (d : Int) : dayS s x d = withOrder s (dayRow s x d).stock x.coming.tail := rfl
theorem SitOk.head {s : Sto} (h : s.ok) {x : Sit} (k : SitOk s x) : ∃ c r, x.coming = c :: r ∧ 0 ≤ c ∧ r.length + 1 = s.wait.toNat ∧ ∀ y ∈ r, 0 ≤ y := by
  have hl := k.len
  have := h.w1
  cases e : x.coming with
  | nil => rw [e] at hl; simp at hl; omega
  | cons c r =>
    have hc := k.c0
    rw [e] at hl hc
    exact ⟨c, r, rfl, hc c List.mem_cons_self, hl, fun y hy => hc y (List.mem_cons_of_mem _ hy)⟩
theorem dayS_ok {s : Sto} (h : s.ok) {x : Sit} (k : SitOk s x) {d : Int} (hd : 0 ≤ d) : SitOk s (dayS s x d) := by
  obtain ⟨c, r, e, hc, hl, hr⟩ := k.head h
  have := k.x0; have := k.xr; have := h.r1
  rw [dayS_eq, e]
  refine withOrder_ok h hl ?_ ?_ hr
  · unfold dayRow; rw [e]; simp only [List.headD_cons]; omega
  · unfold dayRow; rw [e]; simp only [List.headD_cons]; omega
theorem runS_ok {s : Sto} (h : s.ok) : ∀ {x : Sit} {ms : List Int}, SitOk s x → (∀ m ∈ ms, 0 ≤ m) → SitOk s (runS s x ms)
  | _, [], k, _ => k
  | x, d :: r, k, hm => runS_ok h (x := dayS s x d) (ms := r) (dayS_ok h k (hm d List.mem_cons_self)) fun m hm' => hm m (List.mem_cons_of_mem _ hm')
end SR
/-! Plain facts: what comes in, goes out and is left. -/
namespace SR
def sumBy (f : DRow → Int) (rs : List DRow) : Int := (rs.map f).sum
theorem sumBy_nil (f : DRow → Int) : sumBy f [] = 0 := rfl
theorem sumBy_cons (f : DRow → Int) (r : DRow) (rs : List DRow) : sumBy f (r :: rs) = f r + sumBy f rs := by
  unfold sumBy
  rw [List.map_cons, List.sum_cons]
theorem day_stock (s : Sto) (x : Sit) (d : Int) : (dayRow s x d).stock = x.stock + (dayRow s x d).came - (dayRow s x d).spilled - d + (dayRow s x d).missed := by
  unfold dayRow
  simp only
  omega
theorem head_tail_sum : ∀ l : List Int, l.headD 0 + l.tail.sum = l.sum
  | [] => rfl
  | a :: r => by rw [List.headD_cons, List.tail_cons, List.sum_cons]
theorem day_coming (s : Sto) (x : Sit) (d : Int) : (dayRow s x d).came + (dayS s x d).coming.sum = x.coming.sum + (dayRow s x d).ordered := by
  show x.coming.headD 0 + (x.coming.tail ++ [(dayRow s x d).ordered]).sum = _
  rw [List.sum_append, ← head_tail_sum x.coming]
  simp
  omega
theorem balance1 (s : Sto) : ∀ (x : Sit) (ms : List Int), x.stock + sumBy DRow.came (rowsS s x ms) = sumBy DRow.spilled (rowsS s x ms) + ms.sum - sumBy DRow.missed (rowsS s x ms) + (runS s x ms).stock
  | x, [] => by simp [rowsS, runS, sumBy]
  | x, d :: r => by
    have ih := balance1 s (dayS s x d) r
    have h1 := day_stock s x d
    show x.stock + sumBy DRow.came (dayRow s x d :: rowsS s (dayS s x d) r) = sumBy DRow.spilled (dayRow s x d :: rowsS s (dayS s x d) r) + (d :: r).sum - sumBy DRow.missed (dayRow s x d :: rowsS s (dayS s x d) r) + (runS s (dayS s x d) r).stock
    rw [sumBy_cons, sumBy_cons, sumBy_cons, List.sum_cons]
    have h2 : (dayS s x d).stock = (dayRow s x d).stock := rfl
    omega
theorem balance2 (s : Sto) : ∀ (x : Sit) (ms : List Int), sumBy DRow.came (rowsS s x ms) + (runS s x ms).coming.sum = x.coming.sum + sumBy DRow.ordered (rowsS s x ms)
  | x, [] => by simp [rowsS, runS, sumBy]
  | x, d :: r => by
    have ih := balance2 s (dayS s x d) r
    have h1 := day_coming s x d
    show sumBy DRow.came (dayRow s x d :: rowsS s (dayS s x d) r) + (runS s (dayS s x d) r).coming.sum = x.coming.sum + sumBy DRow.ordered (dayRow s x d :: rowsS s (dayS s x d) r)
    rw [sumBy_cons, sumBy_cons]
    omega
structure RowOk (s : Sto) (r : DRow) : Prop where
  c0 : 0 ≤ r.came
  s0 : 0 ≤ r.spilled
  m0 : 0 ≤ r.missed
  x0 : 0 ≤ r.stock
  xr : r.stock ≤ s.room
  o0 : 0 ≤ r.ordered
theorem dayRow_ok {s : Sto} (h : s.ok) {x : Sit} (k : SitOk s x) {d : Int} (hd : 0 ≤ d) : RowOk s (dayRow s x d) := by
  obtain ⟨c, r, e, hc, hl, hr⟩ := k.head h
  have := k.x0; have := k.xr; have := h.r1
  have k2 := dayS_ok h k hd
  have h1 : (dayS s x d).stock = (dayRow s x d).stock := rfl
  refine ⟨?_, ?_, ?_, by rw [← h1]; exact k2.x0, by rw [← h1]; exact k2.xr, ?_⟩
  · unfold dayRow; rw [e]; exact hc
  · unfold dayRow; rw [e]; simp only [List.headD_cons]; omega
  · unfold dayRow; simp only; omega
  · exact k2.c0 _ (by show _ ∈ x.coming.tail ++ [_]; simp)
theorem rowsS_ok {s : Sto} (h : s.ok) : ∀ {x : Sit} {ms : List Int}, SitOk s x → (∀ m ∈ ms, 0 ≤ m) → ∀ r ∈ rowsS s x ms, RowOk s r
  | _, [], _, _, r, hr => by cases hr
  | x, d :: ms, k, hm, r, hr => by
    rcases List.mem_cons.mp hr with rfl | hr
    · exact dayRow_ok h k (hm d List.mem_cons_self)
    · exact rowsS_ok h (x := dayS s x d) (ms := ms) (dayS_ok h k (hm d List.mem_cons_self)) (fun m hm' => hm m (List.mem_cons_of_mem _ hm')) r hr
end SR
/-! Plain facts: a graph walked level by level, in the order of the demands. -/
namespace SR
theorem snoc_ind {α : Type} {P : List α → Prop} (h0 : P []) (hs : ∀ ds d, P ds → P (ds ++ [d])) (ds : List α) : P ds := by
  have key : ∀ n (l : List α), l.length = n → P l := by
    intro n
    induction n with
    | zero => intro l h; rw [List.eq_nil_of_length_eq_zero h]; exact h0
    | succ n ih =>
      intro l h
      have hne : l ≠ [] := by intro e; subst e; simp at h
      rw [← List.dropLast_concat_getLast hne]
      exact hs _ _ (ih _ (by rw [List.length_dropLast, h]; rfl))
  exact key _ ds rfl
/-- the order of tuples of whole numbers -/
def llt : List Int → List Int → Prop
  | _, [] => False
  | [], _ :: _ => True
  | a :: x, b :: y => a < b ∨ a = b ∧ llt x y
instance llt_dec : ∀ x y, Decidable (llt x y)
  | [], [] => isFalse id
  | _ :: _, [] => isFalse id
  | [], _ :: _ => isTrue True.intro
  | a :: x, b :: y => by
    unfold llt
    have := llt_dec x y
    exact inferInstance
theorem llt_irrefl : ∀ x, ¬ llt x x
  | [], h => h
  | a :: x, h => by
    rcases h with h | h
    · omega
    · exact llt_irrefl x h.2
theorem llt_trans : ∀ {x y z : List Int}, llt x y → llt y z → llt x z
  | [], [], _, h, _ => h.elim
  | _ :: _, [], _, h, _ => h.elim
  | _, _ :: _, [], _, h => h.elim
  | [], _ :: _, _ :: _, _, _ => True.intro
  | a :: x, b :: y, c :: z, h, k => by
    rcases h with h | ⟨rfl, h⟩
    · rcases k with k | ⟨rfl, k⟩
      · exact .inl (by omega)
      · exact .inl h
    · rcases k with k | ⟨rfl, k⟩
      · exact .inl k
      · exact .inr ⟨rfl, llt_trans h k⟩
theorem llt_tri : ∀ x y : List Int, llt x y ∨ x = y ∨ llt y x
  | [], [] => .inr (.inl rfl)
  | [], _ :: _ => .inl True.intro
  | _ :: _, [] => .inr (.inr True.intro)
  | a :: x, b :: y => by
    by_cases h : a < b
    · exact .inl (.inl h)
    · by_cases h2 : b < a
      · exact .inr (.inr (.inl h2))
      · have : a = b := by omega
        subst this
        rcases llt_tri x y with k | k | k
        · exact .inl (.inr ⟨rfl, k⟩)
        · exact .inr (.inl (by rw [k]))
        · exact .inr (.inr (.inr ⟨rfl, k⟩))
theorem llt_app : ∀ {x y : List Int} (u v : List Int), x.length = y.length → llt x y → llt (x ++ u) (y ++ v)
  | [], [], _, _, _, h => h.elim
  | a :: x, b :: y, u, v, hl, h => by
    rcases h with h | ⟨rfl, h⟩
    · exact .inl h
    · exact .inr ⟨rfl, llt_app u v (by simpa using hl) h⟩
theorem llt_same : ∀ (x : List Int) {u v : List Int}, llt u v → llt (x ++ u) (x ++ v)
  | [], _, _, h => h
  | a :: x, _, _, h => .inr ⟨rfl, llt_same x h⟩
/-- shorter ones first, else by the order of tuples -/
def slt (x y : List Int) : Prop := x.length < y.length ∨ x.length = y.length ∧ llt x y
def sle (x y : List Int) : Prop := x = y ∨ slt x y
theorem slt_trans {x y z : List Int} (h : slt x y) (k : slt y z) : slt x z := by
  rcases h with h | ⟨h1, h2⟩ <;> rcases k with k | ⟨k1, k2⟩
  · exact .inl (by omega)
  · exact .inl (by omega)
  · exact .inl (by omega)
  · exact .inr ⟨by omega, llt_trans h2 k2⟩
theorem slt_irrefl (x : List Int) : ¬ slt x x := by
  rintro (h | ⟨_, h⟩)
  · omega
  · exact llt_irrefl x h
theorem slt_tri (x y : List Int) : slt x y ∨ x = y ∨ slt y x := by
  by_cases h : x.length < y.length
  · exact .inl (.inl h)
  · by_cases h2 : y.length < x.length
    · exact .inr (.inr (.inl h2))
    · rcases llt_tri x y with k | k | k
      · exact .inl (.inr ⟨by omega, k⟩)
      · exact .inr (.inl k)
      · exact .inr (.inr (.inr ⟨by omega, k⟩))
theorem sle_refl (x : List Int) : sle x x := .inl rfl
theorem sle_trans {x y z : List Int} (h : sle x y) (k : sle y z) : sle x z := by
  rcases h with rfl | h
  · exact k
  · rcases k with rfl | k
    · exact .inr h
    · exact .inr (slt_trans h k)
theorem slt_of_sle {x y z : List Int} (h : sle x y) (k : slt y z) : slt x z := by
  rcases h with rfl | h
  · exact k
  · exact slt_trans h k
theorem sle_anti {x y : List Int} (h : sle x y) (k : sle y x) : x = y := by
  rcases h with h | h
  · exact h
  · rcases k with k | k
    · exact k.symm
    · exact (slt_irrefl x (slt_trans h k)).elim
theorem sle_len {x y : List Int} (h : sle x y) : x.length ≤ y.length := by
  rcases h with rfl | h | h <;> omega
theorem sle_snoc {x y : List Int} (d : Int) (h : sle x y) : sle (x ++ [d]) (y ++ [d]) := by
  rcases h with rfl | h | ⟨h1, h2⟩
  · exact .inl rfl
  · exact .inr (.inl (by simp; omega))
  · exact .inr (.inr ⟨by simp; omega, llt_app _ _ h1 h2⟩)
section
variable {N : Type} [DecidableEq N] (nx : N → Int → N) (al : N → List Int) (b0 : N)
/-- where demands lead -/
def goN (ds : List Int) : N := ds.foldl nx b0
theorem goN_snoc (ds : List Int) (d : Int) : goN nx b0 (ds ++ [d]) = nx (goN nx b0 ds) d := by
  unfold goN; rw [List.foldl_append]; rfl
/-- each demand is possible where it comes -/
def OkN (ds : List Int) : Prop := ∀ i (h : i < ds.length), ds[i] ∈ al (goN nx b0 (ds.take i))
theorem okN_nil : OkN nx al b0 [] := fun i h => absurd h (Nat.not_lt_zero i)
theorem okN_snoc (ds : List Int) (d : Int) : OkN nx al b0 (ds ++ [d]) ↔ OkN nx al b0 ds ∧ d ∈ al (goN nx b0 ds) := by
  constructor
  · intro h
    refine ⟨fun i hi => ?_, ?_⟩
    · have := h i (by simp; omega)
      rw [List.getElem_append_left hi, List.take_append_of_le_length (by omega)] at this
      exact this
    · have := h ds.length (by simp)
      rw [List.getElem_append_right (Nat.le_refl _), List.take_left] at this
      simpa using this
  · rintro ⟨h1, h2⟩ i hi
    by_cases hl : i < ds.length
    · rw [List.getElem_append_left hl, List.take_append_of_le_length (by omega)]
      exact h1 i hl
    · have e : i = ds.length := by simp at hi; omega
      subst e
      rw [List.getElem_append_right (Nat.le_refl _), List.take_left]
      simpa using h2
abbrev Ent (N : Type) := N × List Int
def keyIn (M : List (Ent N)) (n : N) : Bool := M.any fun e => decide (e.1 = n)
def addC (M : List (Ent N)) (c : Ent N) : List (Ent N) := if keyIn M c.1 = true then M else M ++ [c]
def candN (e : Ent N) : List (Ent N) := (al e.1).map fun d => (nx e.1 d, e.2 ++ [d])
def candsN (L : List (Ent N)) : List (Ent N) := L.flatMap (candN nx al)
theorem keyIn_iff {M : List (Ent N)} {n : N} : keyIn M n = true ↔ ∃ ds, (n, ds) ∈ M := by
  unfold keyIn
  rw [List.any_eq_true]
  constructor
  · rintro ⟨⟨m, ds⟩, h, e⟩
    simp at e; subst e
    exact ⟨ds, h⟩
  · rintro ⟨ds, h⟩
    exact ⟨_, h, by simp⟩
theorem addC_mem {M : List (Ent N)} {c e : Ent N} (h : e ∈ M) : e ∈ addC M c := by
  unfold addC; split
  · exact h
  · exact List.mem_append_left _ h
theorem foldC_mem : ∀ (C : List (Ent N)) {M : List (Ent N)} {e : Ent N}, e ∈ M → e ∈ C.foldl addC M
  | [], _, _, h => h
  | c :: C, _, _, h => foldC_mem C (addC_mem h)
/-- what a row of candidates adds -/
theorem foldC_new : ∀ (C M : List (Ent N)), ∃ L, C.foldl addC M = M ++ L ∧ L.Sublist C ∧ ((M.map (·.1)).Nodup → ((M ++ L).map (·.1)).Nodup)
  | [], M => ⟨[], by simp, List.Sublist.refl _, fun h => by simpa using h⟩
  | c :: C, M => by
    by_cases h : keyIn M c.1 = true
    · obtain ⟨L, h1, h2, h3⟩ := foldC_new C M
      exact ⟨L, by rw [List.foldl_cons, addC, if_pos h]; exact h1, h2.cons _, h3⟩
    · obtain ⟨L, h1, h2, h3⟩ := foldC_new C (M ++ [c])
      refine ⟨c :: L, by rw [List.foldl_cons, addC, if_neg h, h1]; simp, h2.cons₂ _, fun hn => ?_⟩
      have := h3 (by
        rw [List.map_append, List.nodup_append]
        refine ⟨hn, by simp, fun a ha b hb => ?_⟩
        obtain ⟨e, he, rfl⟩ := List.mem_map.mp ha
        simp at hb
        subst hb
        intro z
        exact h (keyIn_iff.mpr ⟨e.2, by rw [← z]; exact he⟩))
      simpa using this
/-- each candidate's node is there behind it, by demands that are not later -/
theorem foldC_all : ∀ (C M : List (Ent N)), (∀ e ∈ M, ∀ c ∈ C, slt e.2 c.2) → C.Pairwise (fun a b => slt a.2 b.2) → ∀ c ∈ C, ∃ ds, (c.1, ds) ∈ C.foldl addC M ∧ sle ds c.2
  | [], _, _, _, c, h => by cases h
  | a :: C, M, hM, hp, c, h => by
    obtain ⟨p1, p2⟩ := List.pairwise_cons.mp hp
    rw [List.foldl_cons]
    rcases List.mem_cons.mp h with rfl | h
    · by_cases hk : keyIn M c.1 = true
      · obtain ⟨ds, hd⟩ := keyIn_iff.mp hk
        exact ⟨ds, foldC_mem C (addC_mem hd), .inr (hM _ hd c List.mem_cons_self)⟩
      · refine ⟨c.2, foldC_mem C ?_, .inl rfl⟩
        rw [addC, if_neg hk]; simp
    · refine foldC_all C (addC M a) (fun e he c' hc' => ?_) p2 c h
      unfold addC at he
      split at he
      · exact hM e he c' (List.mem_cons_of_mem _ hc')
      · rcases List.mem_append.mp he with he | he
        · exact hM e he c' (List.mem_cons_of_mem _ hc')
        · simp at he; subst he; exact p1 c' hc'
/-- what holds between two levels: M all so far, its end L the level, m its days -/
structure BI (M L : List (Ent N)) (m : Nat) : Prop where
  nd : (M.map (·.1)).Nodup
  st : (b0, []) ∈ M
  ok : ∀ e ∈ M, OkN nx al b0 e.2 ∧ goN nx b0 e.2 = e.1
  le : ∀ e ∈ M, e.2.length ≤ m
  sub : ∀ e ∈ L, e ∈ M
  lev : ∀ e ∈ L, e.2.length = m
  asc : L.Pairwise (fun a b => slt a.2 b.2)
  cl : ∀ e ∈ M, e ∉ L → ∀ d ∈ al e.1, ∃ ds, (nx e.1 d, ds) ∈ M ∧ sle ds (e.2 ++ [d])
theorem bi_start : BI nx al b0 [(b0, [])] [(b0, [])] 0 :=
  ⟨by simp, by simp, fun e he => by simp at he; subst he; exact ⟨okN_nil nx al b0, rfl⟩, fun e he => by simp at he; subst he; exact Nat.le_refl _, fun e he => he,
    fun e he => by simp at he; subst he; rfl, by simp, fun e he hn => (hn he).elim⟩
theorem cands_asc (hal : ∀ n, (al n).Pairwise (· < ·)) (m : Nat) : ∀ L : List (Ent N), (∀ e ∈ L, e.2.length = m) → L.Pairwise (fun a b => slt a.2 b.2) → (candsN nx al L).Pairwise (fun a b => slt a.2 b.2)
  | [], _, _ => List.Pairwise.nil
  | e :: L, hl, hp => by
    obtain ⟨p1, p2⟩ := List.pairwise_cons.mp hp
    unfold candsN
    rw [List.flatMap_cons, List.pairwise_append]
    refine ⟨?_, cands_asc hal m L (fun x hx => hl x (List.mem_cons_of_mem _ hx)) p2, fun a ha b hb => ?_⟩
    · unfold candN
      rw [List.pairwise_map]
      refine (hal e.1).imp fun {a b} hab => .inr ⟨by simp, llt_same _ (.inl hab)⟩
    · obtain ⟨d, _, rfl⟩ := List.mem_map.mp ha
      obtain ⟨x, hx, hb⟩ := List.mem_flatMap.mp hb
      obtain ⟨d2, _, rfl⟩ := List.mem_map.mp hb
      have h1 := hl e List.mem_cons_self
      have h2 := hl x (List.mem_cons_of_mem _ hx)
      rcases p1 x hx with h | ⟨h, k⟩
      · omega
      · exact .inr ⟨by simp [h1, h2], llt_app _ _ h k⟩
theorem bi_step {M L : List (Ent N)} {m : Nat} (hal : ∀ n, (al n).Pairwise (· < ·)) (h : BI nx al b0 M L m) :
    ∃ L', (candsN nx al L).foldl addC M = M ++ L' ∧ BI nx al b0 (M ++ L') L' (m + 1) := by
  obtain ⟨L', e, hs, hn⟩ := foldC_new (candsN nx al L) M
  have hc : ∀ c ∈ candsN nx al L, ∃ x ∈ L, ∃ d ∈ al x.1, c = (nx x.1 d, x.2 ++ [d]) := fun c hc => by
    obtain ⟨x, hx, h2⟩ := List.mem_flatMap.mp hc
    obtain ⟨d, hd, rfl⟩ := List.mem_map.mp h2
    exact ⟨x, hx, d, hd, rfl⟩
  have hl : ∀ c ∈ candsN nx al L, c.2.length = m + 1 := fun c hc' => by
    obtain ⟨x, hx, d, hd, rfl⟩ := hc c hc'
    simp [h.lev x hx]
  have hasc := cands_asc nx al hal m L h.lev h.asc
  have hall := foldC_all (candsN nx al L) M (fun x hx c hc' => .inl (by have := h.le x hx; have := hl c hc'; omega)) hasc
  refine ⟨L', e, hn h.nd, ?_, fun x hx => ?_, fun x hx => ?_, fun x hx => List.mem_append_right _ hx, fun x hx => hl x (hs.subset hx), hasc.sublist hs, fun x hx hnx d hd => ?_⟩
  · exact List.mem_append_left _ h.st
  · rcases List.mem_append.mp hx with hx | hx
    · exact h.ok x hx
    · obtain ⟨y, hy, d, hd, rfl⟩ := hc x (hs.subset hx)
      obtain ⟨o1, o2⟩ := h.ok y (h.sub y hy)
      exact ⟨(okN_snoc nx al b0 _ _).mpr ⟨o1, by rw [o2]; exact hd⟩, by rw [goN_snoc, o2]⟩
  · rcases List.mem_append.mp hx with hx | hx
    · have := h.le x hx; omega
    · exact Nat.le_of_eq (hl x (hs.subset hx))
  · rcases List.mem_append.mp hx with hx | hx
    · by_cases hxl : x ∈ L
      · obtain ⟨ds, h1, h2⟩ := hall (nx x.1 d, x.2 ++ [d]) (List.mem_flatMap.mpr ⟨x, hxl, List.mem_map.mpr ⟨d, hd, rfl⟩⟩)
        exact ⟨ds, by rw [e] at h1; exact h1, h2⟩
      · obtain ⟨ds, h1, h2⟩ := h.cl x hx hxl d hd
        exact ⟨ds, List.mem_append_left _ h1, h2⟩
    · exact (hnx hx).elim
/-- all is met, by the first demands -/
structure Met (M : List (Ent N)) : Prop where
  nd : (M.map (·.1)).Nodup
  ok : ∀ e ∈ M, OkN nx al b0 e.2 ∧ goN nx b0 e.2 = e.1
  all : ∀ ds, OkN nx al b0 ds → ∃ es, (goN nx b0 ds, es) ∈ M ∧ sle es ds
theorem bi_end {M : List (Ent N)} {m : Nat} (h : BI nx al b0 M [] m) : Met nx al b0 M := by
  refine ⟨h.nd, h.ok, snoc_ind (fun _ => ?_) fun ds d ih ho => ?_⟩
  · exact ⟨[], h.st, .inl rfl⟩
  · obtain ⟨h1, h2⟩ := (okN_snoc nx al b0 ds d).mp ho
    obtain ⟨es, h3, h4⟩ := ih h1
    obtain ⟨fs, h5, h6⟩ := h.cl _ h3 (by simp) d h2
    exact ⟨fs, by rw [goN_snoc]; exact h5, sle_trans h6 (sle_snoc d h4)⟩
end
end SR
/-! Plain facts: the nodes of the program: a situation and the demands of the last days. -/
namespace SR
structure Node where
  s : Sit
  r : List Int
  deriving DecidableEq
/-- the demands that matter for further ones -/
def recB (b : Bd) (ds : List Int) : List Int := ds.drop (ds.length - (b.days - 1).toNat)
def alB (b : Bd) (r : List Int) : List Int := (irange b.low b.high).filter fun d => fitB b (r ++ [d])
def stepN (st : Sto) (b : Bd) (n : Node) (d : Int) : Node := ⟨dayS st n.s d, recB b (n.r ++ [d])⟩
def alN (b : Bd) (n : Node) : List Int := alB b n.r
def begN (st : Sto) (x : Int) : Node := ⟨begunS st x, []⟩
def nodeB (st : Sto) (x : Int) (b : Bd) (ds : List Int) : Node := ⟨runS st (begunS st x) ds, recB b ds⟩
theorem irange_asc (lo hi : Int) : (irange lo hi).Pairwise (· < ·) := by
  unfold irange
  rw [List.pairwise_map]
  refine List.pairwise_lt_range.imp fun {a b} h => ?_
  omega
theorem alN_asc (b : Bd) (n : Node) : (alN b n).Pairwise (· < ·) := (irange_asc _ _).sublist List.filter_sublist
theorem recB_snoc (b : Bd) (ds : List Int) (d : Int) : recB b (recB b ds ++ [d]) = recB b (ds ++ [d]) := by
  unfold recB
  generalize (b.days - 1).toNat = n
  by_cases h : n ≤ ds.length
  · rw [show ds ++ [d] = ds.take (ds.length - n) ++ (ds.drop (ds.length - n) ++ [d]) by rw [← List.append_assoc, List.take_append_drop]]
    generalize hq : ds.drop (ds.length - n) ++ [d] = q
    have hl : q.length = n + 1 := by rw [← hq, List.length_append, List.length_drop, List.length_singleton]; omega
    have e1 : (ds.take (ds.length - n)).length = ds.length - n := by rw [List.length_take]; omega
    rw [List.drop_append, e1, List.length_append, e1, hl, List.drop_eq_nil_of_le (as := ds.take (ds.length - n)) (by omega), List.nil_append]
    congr 1
    omega
  · rw [show ds.length - n = 0 by omega, List.drop_zero]
theorem goN_eq (st : Sto) (x : Int) (b : Bd) : ∀ ds, goN (stepN st b) (begN st x) ds = nodeB st x b ds := by
  refine snoc_ind ?_ fun ds d ih => ?_
  · unfold goN nodeB recB begN runS; simp
  · rw [goN_snoc, ih]
    unfold stepN nodeB
    rw [runS_snoc, recB_snoc]
theorem winS_drop (b : Bd) (ds : List Int) (o k : Nat) : winS b (ds.drop o) k = winS b ds (o + k) := by
  unfold winS
  refine sumTo_congr fun j _ => ?_
  rw [List.getD_eq_getElem?_getD, List.getD_eq_getElem?_getD, List.getElem?_drop, Nat.add_assoc]
theorem fit_drop {b : Bd} (hb : b.ok) {ds : List Int} (h : fitB b ds = true) (o : Nat) : fitB b (ds.drop o) = true := by
  rw [fitB_iff hb.d1] at h ⊢
  refine ⟨fun m hm => h.1 m (List.mem_of_mem_drop hm), fun k hk => ?_⟩
  rw [winS_drop]
  rw [List.length_drop] at hk
  exact h.2 _ (by omega)
/-- only the last demands matter -/
theorem fit_rec {b : Bd} (hb : b.ok) {ds : List Int} (h : fitB b ds = true) (d : Int) : fitB b (recB b ds ++ [d]) = fitB b (ds ++ [d]) := by
  have hr := fit_drop hb h (ds.length - (b.days - 1).toNat)
  have e : fitB b (recB b ds ++ [d]) = true ↔ fitB b (ds ++ [d]) = true := by
    unfold recB
    rw [fit_snoc hb hr, fit_snoc hb h]
    have := hb.d1
    refine and_congr Iff.rfl ⟨fun q k hk hl => ?_, fun q k hk hl => ?_⟩
    · have := q (k - (ds.length - (b.days - 1).toNat)) (by rw [List.length_drop]; omega) (by rw [List.length_drop]; omega)
      rw [winS_drop, show ds.length - (b.days - 1).toNat + (k - (ds.length - (b.days - 1).toNat)) = k by omega] at this
      exact this
    · rw [winS_drop]
      rw [List.length_drop] at hk hl
      exact q _ (by omega) (by omega)
  cases h1 : fitB b (recB b ds ++ [d]) <;> cases h2 : fitB b (ds ++ [d]) <;> simp_all
theorem okN_iff {st : Sto} {x : Int} {b : Bd} (hb : b.ok) : ∀ ds, OkN (stepN st b) (alN b) (begN st x) ds ↔ fitB b ds = true := by
  refine snoc_ind ?_ fun ds d ih => ?_
  · exact ⟨fun _ => rfl, fun _ => okN_nil _ _ _⟩
  · rw [okN_snoc, ih, goN_eq]
    unfold alN alB nodeB
    rw [List.mem_filter, mem_irange]
    constructor
    · rintro ⟨h1, _, h2⟩
      rw [← fit_rec hb h1]; exact h2
    · intro h
      have h1 := fit_init hb h
      exact ⟨h1, fit_range hb h1 h, by rw [fit_rec hb h1]; exact h⟩
abbrev MetB (st : Sto) (x : Int) (b : Bd) (M : List (Ent Node)) : Prop := Met (stepN st b) (alN b) (begN st x) M
theorem metB_mem {st : Sto} {x : Int} {b : Bd} (hb : b.ok) {M : List (Ent Node)} (h : MetB st x b M) {n : Node} {ds : List Int} (hm : (n, ds) ∈ M) : fitB b ds = true ∧ n = nodeB st x b ds := by
  obtain ⟨h1, h2⟩ := h.ok _ hm
  exact ⟨(okN_iff hb ds).mp h1, by rw [← goN_eq]; exact h2.symm⟩
theorem metB_all {st : Sto} {x : Int} {b : Bd} (hb : b.ok) {M : List (Ent Node)} (h : MetB st x b M) {ds : List Int} (hf : fitB b ds = true) : ∃ es, (nodeB st x b ds, es) ∈ M ∧ sle es ds := by
  have := h.all ds ((okN_iff hb ds).mpr hf)
  rw [goN_eq] at this
  exact this
/-! ### how many there can be -/
theorem amount_le {s : Sto} (h : s.ok) (p : Int) (hp : 0 ≤ p) : amount s p ≤ 18 := by
  unfold amount
  have h1 := h.s1
  have h2 := h.sz
  have h3 := h.l12
  split
  · omega
  · split
    · rw [if_pos (by assumption)] at h2; omega
    · rw [if_neg (by assumption)] at h2
      have e : (s.level - p) / s.size * s.size ≤ s.level - p := Int.ediv_mul_le _ (by omega)
      rw [Int.add_mul]; omega
structure NodeOk (st : Sto) (b : Bd) (n : Node) : Prop where
  sit : SitOk st n.s
  c18 : ∀ c ∈ n.s.coming, c ≤ 18
  rl : n.r.length ≤ (b.days - 1).toNat
  rf : ∀ m ∈ n.r, b.low ≤ m ∧ m ≤ b.high
theorem begN_ok {st : Sto} (h : st.ok) {b : Bd} {x : Int} (h0 : 0 ≤ x) (h1 : x ≤ st.room) : NodeOk st b (begN st x) := by
  refine ⟨begunS_ok h h0 h1, fun c hc => ?_, by simp [begN], fun m hm => by simp [begN] at hm⟩
  unfold begN begunS withOrder at hc
  rcases List.mem_append.mp hc with e | e
  · rw [List.eq_of_mem_replicate e]; omega
  · simp at e; subst e
    exact amount_le h _ (by omega)
theorem stepN_ok {st : Sto} (h : st.ok) {b : Bd} (hb : b.ok) {n : Node} (k : NodeOk st b n) {d : Int} (h0 : b.low ≤ d) (h1 : d ≤ b.high) : NodeOk st b (stepN st b n d) := by
  have hd : 0 ≤ d := by have := hb.l0; omega
  have ks := dayS_ok h k.sit hd
  refine ⟨ks, fun c hc => ?_, ?_, fun m hm => ?_⟩
  · show c ≤ 18
    have hc' : c ∈ n.s.coming.tail ++ [(dayRow st n.s d).ordered] := hc
    rcases List.mem_append.mp hc' with e | e
    · exact k.c18 c (List.mem_of_mem_tail e)
    · simp at e; subst e
      refine amount_le h _ ?_
      have h2 : (dayS st n.s d).stock = (dayRow st n.s d).stock := rfl
      have h3 := ks.x0
      have h4 : 0 ≤ n.s.coming.tail.sum := sum_nn fun c hc => k.sit.c0 c (List.mem_of_mem_tail hc)
      rw [h2] at h3
      show 0 ≤ (dayRow st n.s d).stock + n.s.coming.tail.sum
      omega
  · show (recB b (n.r ++ [d])).length ≤ _
    unfold recB; rw [List.length_drop]; omega
  · have := List.mem_of_mem_drop hm
    rcases List.mem_append.mp this with e | e
    · exact k.rf m e
    · simp at e; subst e; exact ⟨h0, h1⟩
/-- lists of digits as a number -/
def codeL (B : Nat) : List Int → Nat
  | [] => 0
  | a :: r => (a.toNat + 1) + B * codeL B r
theorem codeL_inj {B : Nat} : ∀ {x y : List Int}, (∀ a ∈ x, 0 ≤ a ∧ a.toNat + 1 < B) → (∀ a ∈ y, 0 ≤ a ∧ a.toNat + 1 < B) → codeL B x = codeL B y → x = y
  | [], [], _, _, _ => rfl
  | [], b :: y, _, hy, h => by unfold codeL at h; omega
  | a :: x, [], hx, _, h => by unfold codeL at h; omega
  | a :: x, b :: y, hx, hy, h => by
    unfold codeL at h
    have ha := hx a List.mem_cons_self
    have hb := hy b List.mem_cons_self
    have e : a.toNat + 1 = b.toNat + 1 := by
      have := congrArg (· % B) h
      simp only [Nat.add_mul_mod_self_left, Nat.mod_eq_of_lt ha.2, Nat.mod_eq_of_lt hb.2] at this
      exact this
    have e2 : codeL B x = codeL B y := by
      rw [e] at h
      have := Nat.add_left_cancel h
      exact Nat.eq_of_mul_eq_mul_left (by omega) this
    rw [codeL_inj (fun c hc => hx c (List.mem_cons_of_mem _ hc)) (fun c hc => hy c (List.mem_cons_of_mem _ hc)) e2, show a = b by omega]
theorem codeL_lt {B : Nat} (hB : 2 ≤ B) : ∀ {x : List Int}, (∀ a ∈ x, 0 ≤ a ∧ a.toNat + 1 < B) → codeL B x < B ^ x.length
  | [], _ => by simp [codeL]
  | a :: x, hx => by
    unfold codeL
    have ha := hx a List.mem_cons_self
    have ih := codeL_lt hB fun c hc => hx c (List.mem_cons_of_mem _ hc)
    rw [List.length_cons, Nat.pow_succ, Nat.mul_comm (B ^ x.length) B]
    calc a.toNat + 1 + B * codeL B x < B + B * codeL B x := by omega
      _ = B * (codeL B x + 1) := by rw [Nat.mul_add]; omega
      _ ≤ B * B ^ x.length := Nat.mul_le_mul_left _ ih
/-- lists of one length -/
def codeF (B : Nat) : List Int → Nat
  | [] => 0
  | a :: r => a.toNat + B * codeF B r
theorem codeF_inj {B : Nat} : ∀ {x y : List Int}, x.length = y.length → (∀ a ∈ x, 0 ≤ a ∧ a.toNat < B) → (∀ a ∈ y, 0 ≤ a ∧ a.toNat < B) → codeF B x = codeF B y → x = y
  | [], [], _, _, _, _ => rfl
  | a :: x, b :: y, hl, hx, hy, h => by
    unfold codeF at h
    have ha := hx a List.mem_cons_self
    have hb := hy b List.mem_cons_self
    have e : a.toNat = b.toNat := by
      have := congrArg (· % B) h
      simp only [Nat.add_mul_mod_self_left, Nat.mod_eq_of_lt ha.2, Nat.mod_eq_of_lt hb.2] at this
      exact this
    have e2 : codeF B x = codeF B y := by
      rw [e] at h
      exact Nat.eq_of_mul_eq_mul_left (by omega) (Nat.add_left_cancel h)
    rw [codeF_inj (by simpa using hl) (fun c hc => hx c (List.mem_cons_of_mem _ hc)) (fun c hc => hy c (List.mem_cons_of_mem _ hc)) e2, show a = b by omega]
theorem codeF_lt {B : Nat} (hB : 1 ≤ B) : ∀ {x : List Int}, (∀ a ∈ x, 0 ≤ a ∧ a.toNat < B) → codeF B x < B ^ x.length
  | [], _ => by simp [codeF]
  | a :: x, hx => by
    unfold codeF
    have ha := hx a List.mem_cons_self
    have ih := codeF_lt hB fun c hc => hx c (List.mem_cons_of_mem _ hc)
    rw [List.length_cons, Nat.pow_succ, Nat.mul_comm (B ^ x.length) B]
    calc a.toNat + B * codeF B x < B + B * codeF B x := by omega
      _ = B * (codeF B x + 1) := by rw [Nat.mul_add]; omega
      _ ≤ B * B ^ x.length := Nat.mul_le_mul_left _ ih
def codeN (n : Node) : Nat := n.s.stock.toNat + 13 * (codeF 19 n.s.coming + 6859 * codeL 6 n.r)
theorem nd_lt : ∀ (B : Nat) {l : List Nat}, l.Nodup → (∀ x ∈ l, x < B) → l.length ≤ B
  | 0, l, _, h => by
    cases l with
    | nil => simp
    | cons a r => exact absurd (h a List.mem_cons_self) (Nat.not_lt_zero a)
  | B + 1, l, hn, h => by
    have h1 := nd_lt B (l := l.erase B) (hn.erase B) fun x hx => by
      have h2 := h x (List.mem_of_mem_erase hx)
      have h3 : x ≠ B := fun e => by subst e; exact (hn.not_mem_erase) hx
      omega
    have := List.length_erase_le (a := B) (l := l)
    by_cases hb : B ∈ l
    · rw [List.length_erase_of_mem hb] at h1; omega
    · rw [List.erase_of_not_mem hb] at h1; omega
def maxN : Nat := 3210012
theorem nodes_few {st : Sto} (h : st.ok) {b : Bd} (hb : b.ok) {l : List Node} (hn : l.Nodup) (hk : ∀ n ∈ l, NodeOk st b n) : l.length ≤ maxN := by
  have dc : ∀ n ∈ l, ∀ a ∈ n.s.coming, 0 ≤ a ∧ a.toNat < 19 := fun n hn a ha => by
    have := (hk n hn).sit.c0 a ha; have := (hk n hn).c18 a ha; omega
  have dr : ∀ n ∈ l, ∀ a ∈ n.r, 0 ≤ a ∧ a.toNat + 1 < 6 := fun n hn a ha => by
    have := (hk n hn).rf a ha; have := hb.l0; have := hb.h4; omega
  have ds : ∀ n ∈ l, 0 ≤ n.s.stock ∧ n.s.stock.toNat < 13 := fun n hn => by
    have := (hk n hn).sit.x0; have := (hk n hn).sit.xr; have := h.r12; omega
  have lc : ∀ n ∈ l, codeF 19 n.s.coming < 6859 := fun n hn => by
    refine Nat.lt_of_lt_of_le (codeF_lt (by omega) (dc n hn)) (Nat.le_trans (Nat.pow_le_pow_right (by omega) (j := 3) ?_) (by decide))
    have := (hk n hn).sit.len; have := h.w3; omega
  have lr : ∀ n ∈ l, codeL 6 n.r < 36 := fun n hn => by
    refine Nat.lt_of_lt_of_le (codeL_lt (by omega) (dr n hn)) (Nat.le_trans (Nat.pow_le_pow_right (by omega) (j := 2) ?_) (by decide))
    have := (hk n hn).rl; have := hb.d3; omega
  have inj : ∀ n ∈ l, ∀ m ∈ l, codeN n = codeN m → n = m := fun n hn m hm e => by
    unfold codeN at e
    have a1 := ds n hn; have a2 := ds m hm; have a3 := lc n hn; have a4 := lc m hm
    have e1 : n.s.stock.toNat = m.s.stock.toNat := by omega
    have e2 : codeF 19 n.s.coming = codeF 19 m.s.coming := by omega
    have e3 : codeL 6 n.r = codeL 6 m.r := by omega
    have f2 := codeF_inj (by rw [(hk n hn).sit.len, (hk m hm).sit.len]) (dc n hn) (dc m hm) e2
    have f3 := codeL_inj (dr n hn) (dr m hm) e3
    have f1 : n.s.stock = m.s.stock := by omega
    obtain ⟨⟨x, c⟩, r⟩ := n
    obtain ⟨⟨x2, c2⟩, r2⟩ := m
    simp only at f1 f2 f3
    rw [f1, f2, f3]
  have lt : ∀ n ∈ l, codeN n < maxN := fun n hn => by
    have a1 := ds n hn; have a3 := lc n hn; have a5 := lr n hn
    unfold codeN maxN; omega
  have hnd : (l.map codeN).Nodup := by
    clear hk dc dr ds lc lr lt
    induction l with
    | nil => simp
    | cons a r ih =>
      obtain ⟨n1, n2⟩ := List.nodup_cons.mp hn
      rw [List.map_cons, List.nodup_cons]
      refine ⟨fun hm => ?_, ih n2 fun n hn m hm => inj n (List.mem_cons_of_mem _ hn) m (List.mem_cons_of_mem _ hm)⟩
      obtain ⟨m, hm, e⟩ := List.mem_map.mp hm
      exact n1 (by rw [inj a List.mem_cons_self m (List.mem_cons_of_mem _ hm) e.symm]; exact hm)
  have := nd_lt maxN hnd fun x hx => by
    obtain ⟨n, hn, rfl⟩ := List.mem_map.mp hx
    exact lt n hn
  rw [List.length_map] at this
  exact this
end SR
namespace SR
open PySem PySem.Spec PyProof.Rows L2
/-! ### the order of plain data -/
def rLtD (K : PySem.W.Frag) : R2 := fun x y H Q => ∃ da db, Dp K H x da ∧ Dp K H y db ∧ PySem.W.alike da db = true ∧ da ≠ .none ∧ da.depth ≤ 60 ∧ Q (.bl (PySem.W.dataLt da db)) H
section
variable {X : Cx} {E : XK} {XC : XCt} {g : Ga} {W : Om} {a b c : Expr} {pos : Pos} {O : OD}
theorem op_ltD (hu : X.A.units + 64 < cLine) : OpR X (compareOp .Lt) (rLtD X.K) := by
  intro pins s σ H x y v u Q I rx ry h
  obtain ⟨d, e, hd, he, ha, hn, hz, q⟩ := h
  obtain ⟨as, r1⟩ := Dp.reads I d x v hd rx
  obtain ⟨bs, r2⟩ := Dp.reads I e y u he ry
  exact PySem.W.lt_data r1 r2 ha hn (by have := Nat.min_le_left d.depth e.depth; omega) ⟨.bl _, H, I, rfl, q⟩
def LtD : R2D := fun d e W O => ∃ y z, toP d = some y ∧ toP e = some z ∧ PySem.W.alike y z = true ∧ y ≠ .none ∧ y.depth ≤ 60 ∧ O (.bl (PySem.W.dataLt y z)) W
theorem op2_ltD (K : PySem.W.Frag) : Op2 K (rLtD K) LtD := fun x y d e H W O Q rx ry o q ⟨y1, z1, h1, h2, h3, h4, h5, h⟩ =>
  ⟨y1, z1, toP_dp h1 rx, toP_dp h2 ry, h3, h4, h5, q _ H _ W (Kp.refl H) o (.bl _) h⟩
theorem xt_ltD {O : Bool → Om → Prop} (hu : X.A.units + 64 < cLine) (h : XE X E XC a g W fun d W1 => XE X E XC b g W1 fun e W2 => LtD d e W2 (asB O)) : XT X E XC (.Compare a [.Lt] [b] pos) g W O :=
  xt_of (pt_cmpR (op_ltD hu) pe_W pe_W (nomark _ (by decide) (by decide))) (exT_test (ex_op (op2_ltD X.K) h))
/-- the least of a list of alike data -/
def rMinD (K : PySem.W.Frag) : List V → Hp → VK → Prop := fun vs H Q => ∃ (a : Addr) (xs : List V) (y : PyData) (ys : List PyData), vs = [V.ref a] ∧ SqL K H a xs ∧ DpAll K H xs (y :: ys) ∧ PySem.W.AlikeAll (y :: ys) ∧ PyData.depthAll (y :: ys) ≤ 60 ∧
  ∀ (i : Nat) v, xs[i]? = some v → (y :: ys)[i]? = some (PySem.W.minD y ys) → Q v H
theorem dpAll_get {K : PySem.W.Frag} {H : Hp} : ∀ {xs : List V} {ys : List PyData} {i : Nat} {v : V}, DpAll K H xs ys → xs[i]? = some v → ∃ y, ys[i]? = some y ∧ Dp K H v y
  | _, _, _, _, .nil, e => by simp at e
  | _, _, 0, _, .cons h _, e => by simp at e; subst e; exact ⟨_, by simp, h⟩
  | _, _, i + 1, v, .cons _ t, e => by
    obtain ⟨y, h1, h2⟩ := dpAll_get (i := i) t (by simpa using e)
    exact ⟨y, by simpa using h1, h2⟩
theorem minD_mem : ∀ (x : PyData) (xs : List PyData), PySem.W.minD x xs ∈ x :: xs
  | x, [] => by simp [PySem.W.minD]
  | x, y :: xs => by
    unfold PySem.W.minD
    rw [List.foldl_cons]
    have ih := minD_mem (if PySem.W.dataLt y x = true then y else x) xs
    unfold PySem.W.minD at ih
    rcases List.mem_cons.mp ih with e | e
    · rw [e]; split <;> simp
    · exact List.mem_cons_of_mem _ (List.mem_cons_of_mem _ e)
theorem cr_minD (hc : X.calm = true) (hu : X.A.units + 64 < cLine) : CallR X (.builtin "min") (rMinD X.K) := by
  intro pins s σ H vs us Q I r h
  obtain ⟨a, xs, y, ys, rfl, hs, hd, ha, hz, q⟩ := h
  obtain ⟨its, rv, hl, _⟩ := I.list hs
  rw [Vals.ref1 r]
  obtain ⟨as, hr⟩ := Dp.readsAll I (y :: ys) xs its hd rv
  refine PySem.W.min_list_data (I.ok.hd hc) hl.isList hr ha (by omega) fun i v h' tk bs hi hrd hk => ?_
  have hi' : its[i]? = some v := by simpa using hi
  obtain ⟨x, hx, rx⟩ : ∃ x, xs[i]? = some x ∧ RelV x v := by
    have hlen := Vals.length rv
    have hil := (List.getElem?_eq_some_iff.mp hi').1
    obtain ⟨u, e1, e2⟩ := Vals.get rv (List.getElem?_eq_getElem (l := xs) (i := i) (by omega))
    rw [hi'] at e1
    cases e1
    exact ⟨_, List.getElem?_eq_getElem (by omega), e2⟩
  obtain ⟨z, hz1, hz2⟩ := dpAll_get hd hx
  have I2 : Inv X pins σ H { s with heap := h', toks := tk } := I.kept hk
  obtain ⟨cs, r3⟩ := Dp.reads I2 z x v hz2 rx
  have e := PySem.W.alike_unique z (PySem.W.minD y ys) v _ _ (ha.1 z (List.mem_of_getElem? hz1) _ (minD_mem y ys)) r3 hrd
  exact ⟨x, H, I2, rx, q i x hx (by rw [hz1, e])⟩
theorem xe_minD {p : Pos} (hu : X.A.units + 64 < cLine) (hm : X.mg "min" = none) (h : XE X E XC a g W fun d W1 => ∃ l ds y ys, d = .p l ∧ W1 l = some (.lst ds) ∧ toPs ds = some (y :: ys) ∧ PySem.W.AlikeAll (y :: ys) ∧ PyData.depthAll (y :: ys) ≤ 60 ∧ ∀ (i : Nat) d, ds[i]? = some d → (y :: ys)[i]? = some (PySem.W.minD y ys) → O d W1)
    (hc : X.calm = true := by rfl) (hg : Gl X "min" := by rfl) (hs : starEach [a] X.env = (false, eval a X.env) :: starEach [] X.env := by rfl) (hp : (backTo pos (starEach [] X.env)).any (·.1) = false := by rfl) :
    XE X E XC (.Call (.Name "min" p) [a] [] pos) g W O := by
  refine xe_callB (cr_minD hc hu) hm (by decide +kernel) (xa1 (h.imp fun d W1 h1 => ?_) hs) hg (hs := hs) (hp := hp)
  intro vs H2 Q2 r2 o2 q2
  obtain ⟨l, ds, y, ys, rfl, hl, ht, ha, hz, h2⟩ := h1
  cases r2 with
  | cons rv rn =>
    cases rn
    cases rv
    obtain ⟨xs, hx, rx⟩ := o2 l _ hl
    refine ⟨l, xs, y, ys, rfl, .of hx, toPs_dp ht rx, ha, hz, fun i v hv hy => ?_⟩
    obtain ⟨d, hd, rd⟩ := rx.get' hv
    exact q2 _ H2 _ W1 (Kp.refl _) o2 rd (h2 i d hd hy)
end
/-! ### tuples of whole numbers -/
open PySem.W in
theorem lt_ints : ∀ x y : List Int, PyProof.Rows.lexLt itemOrd (keyToksAll (x.map .int)) (keyToksAll (y.map .int)) = decide (llt x y)
  | [], [] => by simp [llt]; rfl
  | [], b :: y => by
    simp only [List.map_nil, List.map_cons, llt, decide_true]
    rw [toks_all_cons]
    rfl
  | a :: x, [] => by
    simp only [List.map_nil, List.map_cons, llt, decide_false]
    rw [toks_all_cons]
    rfl
  | a :: x, b :: y => by
    simp only [List.map_cons]
    by_cases h : a = b
    · subst h
      rw [dataLt_all_yes (by simp [alike]) (by simp [PyData.eqv]), lt_ints x y]
      simp [llt]
    · rw [dataLt_all_no (by simp [alike]) (by simpa [PyData.eqv] using h), dataLt_int]
      simp [llt, h]
theorem eqv_ints : ∀ x y : List Int, PyData.eqvAll (x.map .int) (y.map .int) = decide (x = y)
  | [], [] => by simp [PyData.eqvAll]
  | [], b :: y => by simp [PyData.eqvAll]
  | a :: x, [] => by simp [PyData.eqvAll]
  | a :: x, b :: y => by
    rw [List.map_cons, List.map_cons, PyData.eqvAll, eqv_ints x y]
    by_cases h : a = b <;> simp [PyData.eqv, h]
open PySem.W in
theorem alike_ints : ∀ x y : List Int, alikeAll (x.map .int) (y.map .int) = true
  | [], _ => by simp [alikeAll]
  | a :: x, [] => by simp [alikeAll]
  | a :: x, b :: y => by
    rw [List.map_cons, List.map_cons, alikeAll, alike_ints x y]
    simp [alike]
open PySem.W in
/-- (a, xs) < (b, ys) -/
theorem lt_pair (a b : Int) (x y : List Int) : dataLt (.tuple [.int a, .tuple (x.map .int)]) (.tuple [.int b, .tuple (y.map .int)]) = decide (a < b ∨ a = b ∧ llt x y) := by
  rw [dataLt_tuple]
  by_cases h : a = b
  · subst h
    rw [dataLt_all_yes (by simp [alike]) (by simp [PyData.eqv])]
    by_cases h2 : x = y
    · subst h2
      rw [dataLt_all_yes (by simp [alike, alike_ints]) (by simp [PyData.eqv, eqv_ints])]
      have := llt_irrefl x
      simp [this]; rfl
    · rw [dataLt_all_no (by simp [alike, alike_ints]) (by simp [PyData.eqv, eqv_ints, h2]), dataLt_tuple, lt_ints]
      simp
  · rw [dataLt_all_no (by simp [alike]) (by simpa [PyData.eqv] using h), dataLt_int]
    simp [h]
open PySem.W in
/-- (a, c, xs) < (b, d, ys) -/
theorem lt_triple (a b c d : Int) (x y : List Int) : dataLt (.tuple [.int a, .int c, .tuple (x.map .int)]) (.tuple [.int b, .int d, .tuple (y.map .int)]) = decide (a < b ∨ a = b ∧ (c < d ∨ c = d ∧ llt x y)) := by
  rw [dataLt_tuple]
  by_cases h : a = b
  · subst h
    rw [dataLt_all_yes (by simp [alike]) (by simp [PyData.eqv]), ← dataLt_tuple, lt_pair]
    simp
  · rw [dataLt_all_no (by simp [alike]) (by simpa [PyData.eqv] using h), dataLt_int]
    simp [h]
end SR
/-! Plain facts: the first of the least; the greatest sums. -/
namespace SR
open PySem.W in
/-- the least by an order that is told of the data -/
theorem minD_of {α : Type} (f : α → PySem.PyData) (lt : α → α → Bool) (hlt : ∀ a b, dataLt (f a) (f b) = lt a b) (htr : ∀ a b c, lt a b = false → lt b c = false → lt a c = false) (hir : ∀ a, lt a a = false) (has : ∀ a b, lt a b = true → lt b a = false) :
    ∀ (x : α) (xs : List α), ∃ m, m ∈ x :: xs ∧ minD (f x) (xs.map f) = f m ∧ ∀ y ∈ x :: xs, lt y m = false
  | x, [] => ⟨x, by simp, rfl, fun y hy => by simp at hy; subst hy; exact hir y⟩
  | x, y :: xs => by
    obtain ⟨m, h1, h2, h3⟩ := minD_of f lt hlt htr hir has (if lt y x = true then y else x) xs
    refine ⟨m, ?_, ?_, fun z hz => ?_⟩
    · rcases List.mem_cons.mp h1 with e | e
      · rw [e]; split <;> simp
      · exact List.mem_cons_of_mem _ (List.mem_cons_of_mem _ e)
    · rw [← h2]
      unfold minD
      rw [List.map_cons, List.foldl_cons, hlt]
      split <;> rfl
    · have hb := h3 _ List.mem_cons_self
      rcases List.mem_cons.mp hz with rfl | hz
      · by_cases c : lt y z = true
        · rw [if_pos c] at hb
          exact htr z y m (has y z c) hb
        · rw [if_neg c] at hb; exact hb
      · rcases List.mem_cons.mp hz with rfl | hz
        · by_cases c : lt z x = true
          · rw [if_pos c] at hb; exact hb
          · rw [if_neg c] at hb
            exact htr z x m (by simpa using c) hb
        · exact h3 z (List.mem_cons_of_mem _ hz)
instance slt_dec (x y : List Int) : Decidable (slt x y) := by unfold slt; exact inferInstance
/-- a row of the extreme stock: a number, demands -/
structure XRow where
  v : Int
  ds : List Int
def XRow.lt (a b : XRow) : Bool := decide (a.v < b.v ∨ a.v = b.v ∧ slt a.ds b.ds)
theorem XRow.ir (a : XRow) : a.lt a = false := by
  unfold XRow.lt
  simp [slt_irrefl]
theorem XRow.as (a b : XRow) (h : a.lt b = true) : b.lt a = false := by
  unfold XRow.lt at *
  simp only [decide_eq_true_eq, decide_eq_false_iff_not] at *
  rintro (k | ⟨k1, k2⟩)
  · rcases h with h | h <;> omega
  · rcases h with h | h
    · omega
    · exact slt_irrefl _ (slt_trans h.2 k2)
theorem XRow.tr (a b c : XRow) (h : a.lt b = false) (k : b.lt c = false) : a.lt c = false := by
  unfold XRow.lt at *
  simp only [decide_eq_false_iff_not, not_or, not_and] at *
  refine ⟨by omega, fun e s => ?_⟩
  have e1 : a.v = b.v := by omega
  have e2 : b.v = c.v := by omega
  rcases slt_tri b.ds a.ds with q | q | q
  · exact k.2 e2 (slt_trans q s)
  · rw [← q] at s; exact k.2 e2 s
  · exact h.2 e1 q
/-! ### sums over some days -/
section
variable {N : Type} [DecidableEq N] (nx : N → Int → N) (al : N → List Int) (b0 : N) (val : N → Int → Int)
def sumN : N → List Int → Int
  | _, [] => 0
  | n, d :: r => val n d + sumN (nx n d) r
theorem sumN_snoc : ∀ (n : N) (ds : List Int) (d : Int), sumN nx val n (ds ++ [d]) = sumN nx val n ds + val (ds.foldl nx n) d
  | n, [], d => by simp [sumN]
  | n, a :: r, d => by
    show val n a + sumN nx val (nx n a) (r ++ [d]) = val n a + sumN nx val (nx n a) r + _
    rw [sumN_snoc (nx n a) r d, List.foldl_cons]
    omega
/-- the level after k days: each node with the greatest sum that leads there -/
structure Lev (k : Nat) (M : List (N × Int)) : Prop where
  ok : ∀ e ∈ M, ∃ ds, OkN nx al b0 ds ∧ ds.length = k ∧ goN nx b0 ds = e.1 ∧ sumN nx val b0 ds = e.2
  all : ∀ ds, OkN nx al b0 ds → ds.length = k → ∃ v, (goN nx b0 ds, v) ∈ M ∧ sumN nx val b0 ds ≤ v
theorem lev_start : Lev nx al b0 val 0 [(b0, 0)] := by
  refine ⟨fun e he => ?_, fun ds _ hl => ?_⟩
  · simp at he; subst he
    exact ⟨[], okN_nil _ _ _, rfl, rfl, rfl⟩
  · rw [List.eq_nil_of_length_eq_zero hl]
    exact ⟨0, by simp [goN], Int.le_refl _⟩
/-- the greater one is kept -/
def bump (M : List (N × Int)) (n : N) (v : Int) : List (N × Int) :=
  if M.any (fun e => decide (e.1 = n)) = true then M.map fun e => if e.1 = n then (n, max e.2 v) else e else M ++ [(n, v)]
theorem bump_old {M : List (N × Int)} {n : N} {v : Int} {m : N} {u : Int} (h : (m, u) ∈ M) : ∃ u', (m, u') ∈ bump M n v ∧ u ≤ u' := by
  unfold bump
  split
  · by_cases e : m = n
    · subst e
      exact ⟨max u v, List.mem_map.mpr ⟨_, h, by simp⟩, by omega⟩
    · exact ⟨u, List.mem_map.mpr ⟨_, h, by simp [e]⟩, Int.le_refl _⟩
  · exact ⟨u, List.mem_append_left _ h, Int.le_refl _⟩
theorem bump_new {M : List (N × Int)} {n : N} {v : Int} : ∃ u', (n, u') ∈ bump M n v ∧ v ≤ u' := by
  unfold bump
  split
  · rename_i h
    obtain ⟨⟨m, u⟩, h1, h2⟩ := List.any_eq_true.mp h
    simp at h2; subst h2
    exact ⟨max u v, List.mem_map.mpr ⟨_, h1, by simp⟩, by omega⟩
  · exact ⟨v, by simp, Int.le_refl _⟩
theorem bump_from {M : List (N × Int)} {n : N} {v : Int} {e : N × Int} (h : e ∈ bump M n v) : e ∈ M ∨ e = (n, v) := by
  unfold bump at h
  split at h
  · obtain ⟨x, hx, e1⟩ := List.mem_map.mp h
    split at e1
    · rename_i c
      by_cases q : x.2 ≤ v
      · right; rw [← e1, Int.max_eq_right q]
      · left; rw [← e1, Int.max_eq_left (by omega), ← c]; exact hx
    · left; rw [← e1]; exact hx
  · rcases List.mem_append.mp h with h | h
    · exact .inl h
    · simp at h; exact .inr h
theorem bump_keys {M : List (N × Int)} {n : N} {v : Int} (h : (M.map (·.1)).Nodup) : ((bump M n v).map (·.1)).Nodup := by
  unfold bump
  split
  · have : (M.map fun e => if e.1 = n then (n, max e.2 v) else e).map (·.1) = M.map (·.1) := by
      rw [List.map_map]
      refine List.map_congr_left fun e _ => ?_
      by_cases c : e.1 = n <;> simp [c]
    rw [this]; exact h
  · rename_i hn
    rw [List.map_append, List.nodup_append]
    refine ⟨h, by simp, fun a ha b hb => ?_⟩
    obtain ⟨e, he, rfl⟩ := List.mem_map.mp ha
    simp at hb; subst hb
    intro z
    exact hn (List.any_eq_true.mpr ⟨e, he, by simp [z]⟩)
abbrev Cnd (N : Type) := N × Int
def bumps (C M : List (Cnd N)) : List (Cnd N) := C.foldl (fun M c => bump M c.1 c.2) M
theorem bumps_old : ∀ (C : List (Cnd N)) {M : List (Cnd N)} {m : N} {u : Int}, (m, u) ∈ M → ∃ u', (m, u') ∈ bumps C M ∧ u ≤ u'
  | [], _, _, _, h => ⟨_, h, Int.le_refl _⟩
  | c :: C, M, m, u, h => by
    obtain ⟨u1, h1, h2⟩ := bump_old (n := c.1) (v := c.2) h
    obtain ⟨u2, h3, h4⟩ := bumps_old C h1
    exact ⟨u2, h3, by omega⟩
theorem bumps_new : ∀ (C : List (Cnd N)) {M : List (Cnd N)} {n : N} {v : Int}, (n, v) ∈ C → ∃ u', (n, u') ∈ bumps C M ∧ v ≤ u'
  | c :: C, M, n, v, h => by
    rcases List.mem_cons.mp h with rfl | h
    · obtain ⟨u1, h1, h2⟩ := bump_new (M := M) (n := n) (v := v)
      obtain ⟨u2, h3, h4⟩ := bumps_old C h1
      exact ⟨u2, h3, by omega⟩
    · exact bumps_new C h
theorem bumps_from : ∀ (C : List (Cnd N)) {M : List (Cnd N)} {e : Cnd N}, e ∈ bumps C M → e ∈ M ∨ e ∈ C
  | [], _, _, h => .inl h
  | c :: C, M, e, h => by
    rcases bumps_from C (M := bump M c.1 c.2) h with h | h
    · rcases bump_from h with h | h
      · exact .inl h
      · exact .inr (by rw [h]; exact List.mem_cons_self)
    · exact .inr (List.mem_cons_of_mem _ h)
theorem bumps_keys : ∀ (C : List (Cnd N)) {M : List (Cnd N)}, (M.map (·.1)).Nodup → ((bumps C M).map (·.1)).Nodup
  | [], _, h => h
  | _ :: C, _, h => bumps_keys C (bump_keys h)
/-- the candidates of a node with its sum -/
def cand2 (e : Cnd N) : List (Cnd N) := (al e.1).map fun d => (nx e.1 d, e.2 + val e.1 d)
theorem lev_step {k : Nat} {M : List (Cnd N)} (h : Lev nx al b0 val k M) : Lev nx al b0 val (k + 1) (bumps (M.flatMap (cand2 nx al val)) []) := by
  refine ⟨fun e he => ?_, fun ds ho hl => ?_⟩
  · rcases bumps_from _ he with q | q
    · cases q
    · obtain ⟨x, hx, q⟩ := List.mem_flatMap.mp q
      obtain ⟨d, hd, rfl⟩ := List.mem_map.mp q
      obtain ⟨ds, h1, h2, h3, h4⟩ := h.ok x hx
      refine ⟨ds ++ [d], (okN_snoc _ _ _ _ _).mpr ⟨h1, by rw [h3]; exact hd⟩, by simp [h2], by rw [goN_snoc, h3], ?_⟩
      rw [sumN_snoc, h4]
      show x.2 + val (goN nx b0 ds) d = _
      rw [h3]
  · have hne : ds ≠ [] := by intro e; subst e; simp at hl
    rw [← List.dropLast_concat_getLast hne] at ho hl ⊢
    generalize ds.dropLast = es at *
    generalize ds.getLast hne = d at *
    obtain ⟨h1, h2⟩ := (okN_snoc _ _ _ _ _).mp ho
    obtain ⟨v, h3, h4⟩ := h.all es h1 (by simpa using hl)
    obtain ⟨u, h5, h6⟩ := bumps_new (M.flatMap (cand2 nx al val)) (M := []) (n := nx (goN nx b0 es) d) (v := v + val (goN nx b0 es) d) (List.mem_flatMap.mpr ⟨_, h3, List.mem_map.mpr ⟨d, h2, rfl⟩⟩)
    refine ⟨u, by rw [goN_snoc]; exact h5, ?_⟩
    rw [sumN_snoc]
    show sumN nx val b0 es + val (goN nx b0 es) d ≤ u
    omega
end
end SR
namespace SR
/-! ### all nodes that can come -/
section
variable {N : Type} [DecidableEq N] (nx : N → Int → N) (al : N → List Int) (b0 : N)
/-- M: what was found, L: what is waiting -/
structure RI (M L : List N) : Prop where
  nd : M.Nodup
  ln : L.Nodup
  st : b0 ∈ M
  ok : ∀ n ∈ M, ∃ ds, OkN nx al b0 ds ∧ goN nx b0 ds = n
  sub : ∀ n ∈ L, n ∈ M
  cl : ∀ n ∈ M, n ∉ L → ∀ d ∈ al n, nx n d ∈ M
theorem ri_start : RI nx al b0 [b0] [b0] :=
  ⟨by simp, by simp, by simp, fun n hn => by simp at hn; subst hn; exact ⟨[], okN_nil nx al _, rfl⟩, fun n hn => hn, fun n hn hk => (hk hn).elim⟩
def addN (M : List N) (n : N) : List N := if n ∈ M then M else M ++ [n]
def addL (M L : List N) (n : N) : List N := if n ∈ M then L else L ++ [n]
/-- within a turn: the node n was taken, its first j demands are done -/
structure RT (M L : List N) (n : N) (C : List Int) : Prop where
  nd : M.Nodup
  ln : L.Nodup
  st : b0 ∈ M
  ok : ∀ n ∈ M, ∃ ds, OkN nx al b0 ds ∧ goN nx b0 ds = n
  sub : ∀ n ∈ L, n ∈ M
  nm : n ∈ M
  nl : n ∉ L
  cl : ∀ m ∈ M, m ∉ L → m ≠ n → ∀ d ∈ al m, nx m d ∈ M
  cn : ∀ d ∈ C, nx n d ∈ M
theorem rt_start {M L : List N} {n : N} (h : RI nx al b0 M (L ++ [n])) : RT nx al b0 M L n [] := by
  have hln := List.nodup_append.mp h.ln
  refine ⟨h.nd, hln.1, h.st, h.ok, fun m hm => h.sub m (List.mem_append_left _ hm), h.sub n (by simp), fun hn => hln.2.2 n hn n (by simp) rfl, fun m hm hl hne => h.cl m hm fun z => ?_, fun d hd => by simp at hd⟩
  rcases List.mem_append.mp z with z | z
  · exact hl z
  · simp at z; exact hne z
theorem rt_step {M L : List N} {n : N} {C : List Int} {d : Int} (h : RT nx al b0 M L n C) (hd : d ∈ al n) : RT nx al b0 (addN M (nx n d)) (addL M L (nx n d)) n (C ++ [d]) := by
  unfold addN addL
  by_cases hm : nx n d ∈ M
  · rw [if_pos hm, if_pos hm]
    refine ⟨h.nd, h.ln, h.st, h.ok, h.sub, h.nm, h.nl, h.cl, fun e he => ?_⟩
    rcases List.mem_append.mp he with he | he
    · exact h.cn e he
    · simp at he; subst he; exact hm
  · rw [if_neg hm, if_neg hm]
    have hin : nx n d ∉ L := fun z => hm (h.sub _ z)
    have mono : ∀ x, x ∈ M → x ∈ M ++ [nx n d] := fun x hx => List.mem_append_left _ hx
    refine ⟨?_, ?_, mono _ h.st, fun m hm2 => ?_, fun m hm2 => ?_, mono _ h.nm, fun z => ?_, fun m hm2 hl hne e he => ?_, fun e he => ?_⟩
    · exact List.nodup_append.mpr ⟨h.nd, by simp, fun a ha b hb => by simp at hb; subst hb; exact fun z => hm (z ▸ ha)⟩
    · exact List.nodup_append.mpr ⟨h.ln, by simp, fun a ha b hb => by simp at hb; subst hb; exact fun z => hin (z ▸ ha)⟩
    · rcases List.mem_append.mp hm2 with hm2 | hm2
      · exact h.ok m hm2
      · simp at hm2; subst hm2
        obtain ⟨ds, o, g⟩ := h.ok n h.nm
        refine ⟨ds ++ [d], (okN_snoc nx al b0 ds d).mpr ⟨o, ?_⟩, by rw [goN_snoc, g]⟩
        rw [g]; exact hd
    · rcases List.mem_append.mp hm2 with hm2 | hm2
      · exact mono _ (h.sub m hm2)
      · exact List.mem_append_right _ hm2
    · rcases List.mem_append.mp z with z | z
      · exact h.nl z
      · simp at z; rw [← z] at hm; exact hm h.nm
    · rcases List.mem_append.mp hm2 with hm2 | hm2
      · exact mono _ (h.cl m hm2 (fun z => hl (List.mem_append_left _ z)) hne e he)
      · exact (hl (List.mem_append_right _ hm2)).elim
    · rcases List.mem_append.mp he with he | he
      · exact mono _ (h.cn e he)
      · simp at he; subst he; simp
theorem rt_end {M L : List N} {n : N} {C : List Int} (h : RT nx al b0 M L n C) (hC : ∀ d ∈ al n, d ∈ C) : RI nx al b0 M L := by
  refine ⟨h.nd, h.ln, h.st, h.ok, h.sub, fun m hm hl => ?_⟩
  by_cases e : m = n
  · subst e
    intro d hd
    exact h.cn d (hC d hd)
  · exact h.cl m hm hl e
/-- all that can come, and nothing else -/
structure AllR (M : List N) : Prop where
  nd : M.Nodup
  ok : ∀ n ∈ M, ∃ ds, OkN nx al b0 ds ∧ goN nx b0 ds = n
  all : ∀ ds, OkN nx al b0 ds → goN nx b0 ds ∈ M
theorem ri_end {M : List N} (h : RI nx al b0 M []) : AllR nx al b0 M := by
  refine ⟨h.nd, h.ok, snoc_ind (fun _ => h.st) fun ds d ih ho => ?_⟩
  obtain ⟨o1, o2⟩ := (okN_snoc nx al b0 ds d).mp ho
  rw [goN_snoc]
  exact h.cl _ (ih o1) (by simp) d o2
theorem addN_len (M : List N) (n : N) : (addN M n).length = M.length + if n ∈ M then 0 else 1 := by
  unfold addN; split <;> simp
theorem addL_len (M L : List N) (n : N) : (addL M L n).length = L.length + if n ∈ M then 0 else 1 := by
  unfold addL; split <;> simp
end
theorem nd_sub {N : Type} [DecidableEq N] : ∀ {l m : List N}, l.Nodup → (∀ x ∈ l, x ∈ m) → l.length ≤ m.length
  | [], _, _, _ => Nat.zero_le _
  | x :: l, m, hn, h => by
    rw [List.nodup_cons] at hn
    have hx := h x List.mem_cons_self
    have ih := nd_sub (l := l) (m := m.erase x) hn.2 fun y hy => (List.mem_erase_of_ne (fun z => hn.1 (by rw [← z]; exact hy))).mpr (h y (List.mem_cons_of_mem _ hy))
    rw [List.length_erase_of_mem hx] at ih
    have := List.length_pos_of_mem hx
    rw [List.length_cons]
    omega
abbrev AllB (st : Sto) (x : Int) (b : Bd) (M : List Node) : Prop := AllR (stepN st b) (alN b) (begN st x) M
theorem allB_mem {st : Sto} {x : Int} {b : Bd} (hb : b.ok) {M : List Node} (h : AllB st x b M) {n : Node} : n ∈ M ↔ ∃ ds, fitB b ds = true ∧ n = nodeB st x b ds := by
  constructor
  · intro hn
    obtain ⟨ds, o, g⟩ := h.ok n hn
    exact ⟨ds, (okN_iff hb ds).mp o, by rw [← g, goN_eq]⟩
  · rintro ⟨ds, o, rfl⟩
    have := h.all ds ((okN_iff hb ds).mpr o)
    rwa [goN_eq] at this
/-! ### all demands of few days, in order -/
theorem ext_asc {b : Bd} (row : List Int) : (extB b row).Pairwise slt := by
  unfold extB
  refine List.Pairwise.sublist List.filter_sublist ?_
  refine List.Pairwise.map _ (fun a c h => ?_) (irange_asc b.low b.high)
  refine .inr ⟨by simp, llt_same row ?_⟩
  simp [llt]; exact h
theorem ext_mem {b : Bd} {row ms : List Int} (h : ms ∈ extB b row) : ∃ d, ms = row ++ [d] := by
  unfold extB at h
  obtain ⟨d, _, rfl⟩ := List.mem_map.mp (List.mem_filter.mp h).1
  exact ⟨d, rfl⟩
theorem lv_asc {b : Bd} : ∀ k, (lv b k).Pairwise slt
  | 0 => by simp [lv]
  | k + 1 => by
    show ((lv b k).flatMap (extB b)).Pairwise slt
    have ih := lv_asc (b := b) k
    have hl : ∀ ms ∈ lv b k, ms.length = k := fun ms hm => (lv_fit k ms hm).2
    generalize lv b k = L at ih hl
    induction L with
    | nil => simp
    | cons r L ih2 =>
      rw [List.pairwise_cons] at ih
      rw [List.flatMap_cons, List.pairwise_append]
      refine ⟨ext_asc r, ih2 ih.2 (fun ms hm => hl ms (List.mem_cons_of_mem _ hm)), fun x hx y hy => ?_⟩
      obtain ⟨r2, hr2, hy⟩ := List.mem_flatMap.mp hy
      obtain ⟨d, rfl⟩ := ext_mem hx
      obtain ⟨e, rfl⟩ := ext_mem hy
      have h1 := hl r List.mem_cons_self
      have h2 := hl r2 (List.mem_cons_of_mem _ hr2)
      rcases ih.1 r2 hr2 with h | h
      · omega
      · exact .inr ⟨by simp; omega, llt_app _ _ h.1 h.2⟩
theorem allB_asc {b : Bd} : ∀ k, (SR.allB b k).Pairwise slt
  | 0 => by simp [SR.allB]
  | k + 1 => by
    show (SR.allB b k ++ lv b (k + 1)).Pairwise slt
    rw [List.pairwise_append]
    refine ⟨allB_asc k, lv_asc (k + 1), fun x hx y hy => ?_⟩
    have h1 := (allB_fit k x hx).2
    have h2 := (lv_fit (k + 1) y hy).2
    exact .inl (by omega)
theorem mem_lv {b : Bd} (hb : b.ok) : ∀ ms : List Int, fitB b ms = true → ms ∈ lv b ms.length := by
  refine snoc_ind (fun _ => by simp [lv]) fun ms d ih hf => ?_
  have h1 := fit_init hb hf
  rw [List.length_append]
  show _ ∈ (lv b ms.length).flatMap (extB b)
  refine List.mem_flatMap.mpr ⟨ms, ih h1, ?_⟩
  unfold extB
  exact List.mem_filter.mpr ⟨List.mem_map.mpr ⟨d, mem_irange.mpr (fit_range hb h1 hf), rfl⟩, hf⟩
theorem mem_allB {b : Bd} (hb : b.ok) {ms : List Int} (h : fitB b ms = true) {k : Nat} (hk : ms.length ≤ k) : ms ∈ SR.allB b k := by
  obtain ⟨j, rfl⟩ := Nat.exists_eq_add_of_le hk
  clear hk
  induction j with
  | zero =>
    have := mem_lv hb ms h
    cases e : ms.length with
    | zero => rw [e] at this; exact this
    | succ n => rw [e] at this; exact List.mem_append_right _ this
  | succ j ih => exact List.mem_append_left _ ih
/-- the first of a sorted list for which p holds -/
theorem find_least {L : List (List Int)} (h : L.Pairwise slt) {p : List Int → Bool} {m : List Int} (hm : L.find? p = some m) : ∀ y ∈ L, p y = true → sle m y := by
  induction L with
  | nil => simp at hm
  | cons x L ih =>
    rw [List.pairwise_cons] at h
    rw [List.find?_cons] at hm
    cases e : p x with
    | true =>
      rw [e] at hm
      simp at hm; subst hm
      intro y hy _
      rcases List.mem_cons.mp hy with rfl | hy
      · exact sle_refl _
      · exact .inr (h.1 y hy)
    | false =>
      rw [e] at hm
      intro y hy hp
      rcases List.mem_cons.mp hy with rfl | hy
      · rw [e] at hp; cases hp
      · exact ih h.2 hm y hy hp
theorem find_atG {α : Type} {p : α → Bool} : ∀ {l : List α} {i : Nat} {m : α}, (∀ y ∈ l.take i, p y = false) → l[i]? = some m → p m = true → l.find? p = some m
  | [], _, _, _, h, _ => by simp at h
  | x :: l, 0, m, _, h, hp => by simp at h; subst h; simp [hp]
  | x :: l, i + 1, m, h0, h, hp => by
    have hx : p x = false := h0 x (by simp)
    rw [List.find?_cons, hx]
    exact find_atG (i := i) (fun y hy => h0 y (by simp [hy])) (by simpa using h) hp
end SR
namespace SR
open PySem PySem.Spec PyProof.Rows L2
section
variable {X : Cx} {E : XK} {XC : XCt} {g : Ga} {W : Om} {a b c : Expr} {pos : Pos} {O : OD}
/-- xs.pop() -/
theorem xe_pop {apos : Pos} (h : XE X E XC a g W fun d W1 => ∃ l xs y, d = .p l ∧ W1 l = some (.lst (xs ++ [y])) ∧ O y (updO W1 l (.lst xs)))
    (hbase : attributeBase a "pop" X.env (eval a X.env) = eval a X.env := by rfl) (hline : (apos.endLine == pos.line) = true := by rfl) : XE X E XC (.Call (.Attribute a "pop" apos) [] [] pos) g W O := by
  refine xe_of (pe_bm0 PySem.F.plainAttrs_list PySem.F.slot_list_pop PySem.F.type_list_pop mt_pop pe_W hbase hline) fun σ H r k el Q q => ?_
  refine h σ H r k el _ fun v H1 d W1 k1 o1 r1 ⟨l, xs, y, e1, hl, h1⟩ => ?_
  subst e1
  cases r1
  obtain ⟨us, hu, ru⟩ := o1 l _ hl
  have hlen := ru.length
  obtain ⟨v, hv, rv⟩ := ru.get (i := xs.length) (d := y) (by simp)
  have kk : Kp H1 (upd H1 l (.lst us.dropLast)) := Kp.at hu (fun _ z => by cases z) (fun _ _ z => by cases z)
  have rd : RpAll X.K H1 us.dropLast xs := by
    have := ru.dropLast
    rwa [List.dropLast_concat] at this
  refine ⟨.inl ⟨rfl, us, .of hu⟩, l, us, v, rfl, rfl, hu, ?_, ?_⟩
  · rw [hlen, List.length_append]
    exact hv
  · exact q _ _ _ _ (k1.trans kk) (o1.set kk (o := .lst xs) ⟨_, upd_same, rd.kp kk⟩) (rv.kp kk) h1
/-- the keys of a dict as a list -/
def rListK (X : Cx) : List V → Hp → VK → Prop := fun vs H Q => ∃ (a : Addr) (xs : List (NestedKey × Addr × Value)), vs = [V.ref a] ∧ Rd H a (.ext (DIs X.w a xs)) ∧ ∀ p, H p = none → Q (.ref p) (upd H p (.lst (xs.map fun x => V.ref x.2.1)))
theorem cr_listK (hc : X.calm = true) : CallR X (.type "list") (rListK X) := by
  intro pins s σ H vs us Q I r h
  obtain ⟨a, xs, rfl, hd, q⟩ := h
  rw [Vals.ref1 r]
  obtain ⟨⟨hz, hm, o, es, ep, ho, hx, hdt, he, hn⟩, _⟩ := (show ObjOk X.prog X.w H s.heap a (.ext (DIs X.w a xs)) from hd.ok I.hok)
  have l1 : es.size = xs.length := by
    have := congrArg List.length he
    simpa using this
  refine PySem.W.kdl_call (kdl_raw hm hx hdt) (I.ok.hd hc) ho (by omega) fun h' tk acc c' kp e it => ?_
  have ea : acc.toList = (xs.map fun x => x.2.1).map Value.ref := by
    apply List.ext_getElem?
    intro j
    have hes : es[j]? = (xs[j]?).map fun x => (⟨x.1.hash X.w, .ref x.2.1, x.2.2⟩ : DictEntry) := by
      rw [← Array.getElem?_toList, he, List.getElem?_map]
    have hal : acc.toList.length = xs.length := by rw [Array.length_toList, it.1]; exact l1
    rw [List.getElem?_map, List.getElem?_map]
    by_cases hj : j < xs.length
    · obtain ⟨en, hen, hv⟩ := it.2 j (acc.toList[j]'(by omega)) (by rw [← Array.getElem?_toList]; exact List.getElem?_eq_getElem (by omega))
      rw [hes, List.getElem?_eq_getElem hj] at hen
      rw [List.getElem?_eq_getElem (by omega), hv, List.getElem?_eq_getElem hj, ← Option.some.inj hen]
      rfl
    · rw [List.getElem?_eq_none (by omega), List.getElem?_eq_none (by omega)]
      rfl
  have rv : Vals ((xs.map fun x => x.2.1).map V.ref) acc.toList := by rw [ea]; exact vals_refs _
  have hz2 : ((xs.map fun x => x.2.1).map V.ref).length ≤ sizeLine := by rw [List.length_map, List.length_map]; exact hz
  have q2 := q s.heap.objs.size (I.hok.fresh (Nat.le_refl _))
  rw [show (xs.map fun x => V.ref x.2.1) = (xs.map fun x => x.2.1).map V.ref by rw [List.map_map]; rfl] at q2
  exact ⟨.ref s.heap.objs.size, _, I.laid (t' := tk) (o := .lst ((xs.map fun x => x.2.1).map V.ref)) kp (Nat.le_refl _) ⟨hz2, acc.toList, c', rv, by rw [Array.toArray_toList]; exact e⟩, rfl, q2⟩
theorem kt_keys {K : PySem.W.Frag} {H : Hp} {kvs : List (NestedKey × D)} {xs : List (NestedKey × Addr × Value)} (r : KTn K H kvs xs) : RpAll K H (xs.map fun x => V.ref x.2.1) (kvs.map fun e => kD e.1) := by
  induction r with
  | nil => exact .nil
  | cons h _ ih => exact .cons h.2.2.1 ih
theorem xe_listK {p : Pos} (hm : X.mg "list" = none) (h : XE X E XC a g W fun d W1 => ∃ q kvs, d = .p q ∧ DRd X.w W1 q kvs ∧ ∀ l, W1 l = none → O (.p l) (updO W1 l (.lst (kvs.map fun e => kD e.1)))) (hc : X.calm = true := by rfl) (hg : Gl X "list" := by rfl) (hs : starEach [a] X.env = (false, eval a X.env) :: starEach [] X.env := by rfl) (hp : (backTo pos (starEach [] X.env)).any (·.1) = false := by rfl) :
    XE X E XC (.Call (.Name "list" p) [a] [] pos) g W O := by
  refine xe_callTy (cr_listK hc) hm (by decide +kernel) (xa1 (h.imp fun d W1 h1 => ?_) hs) hg (hs := hs) (hp := hp)
  intro vs H2 Q2 r2 o2 q2
  obtain ⟨dd, kvs, rfl, hd, h2⟩ := h1
  cases r2 with
  | cons rv rn =>
    cases rn
    cases rv
    obtain ⟨xs, hr, kt⟩ := hd.rd o2
    exact ⟨dd, xs, rfl, hr, fun p hp => q2 _ _ _ _ (Kp.new hp) (o2.new (o := .lst (kvs.map fun e => kD e.1)) hp ⟨_, upd_same, (kt_keys kt).kp (Kp.new hp)⟩) (.p p) (h2 p (o2.free hp))⟩
/-- a check that is never met -/
theorem xb_ifno {C : EndD} {t rest : List Stmt} (h : XT X E XC c g W fun k W1 => k = false ∧ Sub W W1) (hr : XB X E XC rest g W C) : XB X E XC (.If c t [] pos :: rest) g W C :=
  xb_cons (xs_if (h.imp fun k W1 ⟨e, s⟩ => ⟨fun z => (by rw [e] at z; cases z), fun _ => xb_sub s (xb_nil hr)⟩))
theorem xb_ifno1 {C : EndD} {t : List Stmt} (h : XT X E XC c g W fun k W1 => k = false ∧ Sub W W1) (hr : C.nx g W) : XB X E XC [.If c t [] pos] g W C :=
  xb_one (xs_if (h.imp fun k W1 ⟨e, s⟩ => ⟨fun z => (by rw [e] at z; cases z), fun _ => xb_sub s (xb_nil hr)⟩))
theorem xt_and3 {O : Bool → Om → Prop} {b c : Expr} (h : XT X E XC a g W fun k W1 => (k = true → XT X E XC b g W1 fun k2 W2 => (k2 = true → XT X E XC c g W2 O) ∧ (k2 = false → O false W2)) ∧ (k = false → O false W1)) : XT X E XC (.BoolOp .And [a, b, c] pos) g W O :=
  xt_w (xw_and (h.imp fun k W1 ⟨h1, h2⟩ => ⟨fun e => xw_and ((h1 e).imp fun k2 W2 ⟨h3, h4⟩ => ⟨fun e2 => xw_and1 (h3 e2), h4⟩), h2⟩))
/-- list(range(n)) -/
theorem xe_listRg1 {e : Expr} {p p2 pos2 : Pos} (hm : X.mg "list" = none) (hr : X.mg "range" = none) (h : XE X E XC e g W fun d W1 => ∃ j : Int, d = .int j ∧ (0 ≤ j ∧ j ≤ 16777216) ∧ ∀ l, W1 l = none → O (.p l) (updO W1 l (.lst (rangeD 0 j.toNat))))
    (hc : X.calm = true := by rfl) (hg : Gl X "list" := by rfl) (hg2 : Gl X "range" := by rfl) (na : starEach [.Call (.Name "range" p2) [e] [] pos2] X.env = (false, eval (.Call (.Name "range" p2) [e] [] pos2) X.env) :: starEach [] X.env := by rfl)
    (ha : starEach [e] X.env = (false, eval e X.env) :: starEach [] X.env := by rfl) :
    XE X E XC (.Call (.Name "list" p) [.Call (.Name "range" p2) [e] [] pos2] [] pos) g W O := by
  refine xe_of (pe_listRg hc hg hm (prg_1 hg2 hr pe_W ha) na) fun σ H r k el Q q => ?_
  refine h σ H r k el _ fun x H1 d W1 k1 o1 r1 ⟨j, e1, hj, h1⟩ => ?_
  subst e1
  cases r1
  refine ⟨j, rfl, RgOk.of_le (by omega) (by omega) (by omega) (by omega), fun p hp => ?_⟩
  have hl := h1 p (o1.free hp)
  rw [show j.toNat = (j - 0).toNat by omega] at hl
  exact q _ _ _ _ (k1.trans (Kp.new hp)) (o1.new (o := .lst (rangeD 0 (j - 0).toNat)) hp ⟨_, upd_same, rgV_rp 0 j⟩) (.p p) hl
end
end SR
namespace SR
open PySem PySem.Spec PyProof.Rows L2
/-! ### a caught exception that is kept -/
/-- how the kept exception is tracked: it never changes any more -/
def excO (a : Addr) (oe : Obj) : HO := .frz oe (.ext fun h => ∃ o, h.get? a = some o)
section
variable {X : Cx} {pins : List (Addr × Obj)} {σ : St} {H : Hp} {s : Shared}
theorem adopt {a : Addr} {oe : Obj} (I : Inv X ((a, oe) :: pins) σ H s) (h0 : X.s_0.heap.get? a = none) (hp : ∀ p ∈ X.pn ++ pins, p.1 ≠ a) (hc : ∀ x c, X.env.cells.lookup x = some c → c ≠ a) : Inv X pins σ (upd H a (excO a oe)) s := by
  have hin : (a, oe) ∈ X.pn ++ ((a, oe) :: pins) := List.mem_append_right _ List.mem_cons_self
  obtain ⟨g1, g2, g3, _, _⟩ := I.pin _ hin
  have g1 : s.heap.get? a = some oe := g1
  have g2 : H a = none := g2
  have g3 : a ≠ X.env.locals := g3
  have at_ : ∀ b u, H b = some u → upd H a (excO a oe) b = some u := fun b u e => by rw [upd_ne (ne_of_none e g2)]; exact e
  refine ⟨I.ok, I.os, I.bare, ⟨I.base.keep, I.base.slot, fun b o e n x => ?_, I.base.there, fun b xs e => at_ _ _ (I.base.tups b xs e), fun b o u e => at_ _ _ (I.base.frzs b o u e), fun b ps e => ?_⟩, I.loc, I.cell, by rw [upd_ne (Ne.symm g3)]; exact I.free, fun x c e => by rw [upd_ne (hc x c e)]; exact I.freeC x c e, fun p q => ?_, fun b u e => ?_, I.len⟩
  · rw [upd_ne (fun z => by rw [z, h0] at e; cases e)]
    exact I.base.free b o e n x
  · obtain ⟨more, e2⟩ := I.base.tbls b ps e
    exact ⟨more, at_ _ _ e2⟩
  · have q2 : p ∈ X.pn ++ ((a, oe) :: pins) := by
      rcases List.mem_append.mp q with q | q
      · exact List.mem_append_left _ q
      · exact List.mem_append_right _ (List.mem_cons_of_mem _ q)
    obtain ⟨k1, k2, k3⟩ := I.pin p q2
    exact ⟨k1, by rw [upd_ne (hp p q)]; exact k2, k3⟩
  · by_cases hb : b = a
    · subst hb
      rw [upd_same] at e
      cases e
      exact ⟨g1, ⟨oe, g1⟩, ⟨oe, g1⟩, fun h1 h2 ⟨o, e1⟩ k => ⟨o, k o e1⟩⟩
    · rw [upd_ne hb] at e
      exact (I.hok b u e).stay (fun _ _ _ q => q) (fun c q => at_ _ _ q) fun c xs q => at_ _ _ q
end
/-- what is wished where the exception is kept by slot j -/
def wKeep (K : PySem.W.Frag) (c : Value) (i j : Nat) (D : Ends) : WX := fun cls d σ H => ∃ C0 : Addr, cls = .ref C0 ∧ d = none ∧ PySem.W.exmOne K cls c = some true ∧
  ∀ (a : Addr) (oe : Obj), H a = none → oe.cls = .ref C0 → oe.dict = none → (∃ vs, oe.data = .fields vs) → D.nx ((σ.set i none).set j (some (.ref a))) (upd H a (excO a oe))
section
variable {X : Cx} {x n y : Str} {c : Value} {i j : Nat} {body : List Stmt} {np py pn2 pa pos pos' : Pos} {tb : WX → TS}
theorem ps_try_keep (hs : X.stack = X.env :: X.outer) (hf : X.env.frame = some X.env.locals) (hex : X.ex = []) (hN : X.N.Nodup) (hi : X.N[i]? = some n) (hj : X.N[j]? = some y) (hij : i ≠ j) (hln : X.env.kindOf n = some .local) (hly : X.env.scope.names.lookup y = some .local) (hc : Names X x c)
    (hd1 : (n == ("__debug__" : Str)) = false) (hd2 : (n == ("__classdict__" : Str)) = false) (hsw : swapsWith (.Name n pn2) (some (.Name y py)) pa.line X.env = pure false)
    (hb : ∀ (W : WX) (pn : List (Addr × Obj)) (xe : Value → Shared → Prop), Takes (X.tr pn xe) W → PassesOwn (model X.prog X.w) X.A X.env xe → PSs (X.tr pn xe) body (tb W)) :
    PS X (.Try body [.ExceptHandler (some (.Name x np)) (some n) [.Assign [.Name y py] (.Name n pn2) pa] pos'] [] [] pos) (fun D σ H => tb (wKeep X.K c i j D) D σ H) := by
  refine ⟨fun pins s σ H D I h => ?_⟩
  have ok := I.ok
  have frames : X.A.frames = some (X.env :: X.outer) := by rw [ok.frames, hs]
  have hlk : X.env.scope.names.lookup n = some .local := hln
  refine wpAny_Try_except (wpAny_mono ((hb (wKeep X.K c i j D) (X.pn ++ pins) _ (fun u s' xx => ?_) PassesOwn.looking).run [] s σ H D (I.toTry _) h) (fun fl s1 q => ?_) (fun _ _ q => q))
  · obtain ⟨a, B, sI, pins', τ, G, cls, d, rfl, JT, nb, up, sky, na, os, ag, C0, rfl, rfl, hm, wish⟩ := xx
    have J : Inv X pins τ G sI := JT.ofTry ok
    rw [hs] at sky
    refine Sky.land Zc.steady frames hf sky fun h3 fl3 up3 => ?_
    have J3 : Inv X pins τ G { s' with heap := h3 } := J.landed nb fl3.1 (up.trans up3) os ag
    obtain ⟨o3, v3, g3, z3, d3⟩ := fl3.there
    -- the exception is no frame's
    have nofr : a ∉ frs (X.env :: X.outer) := fun hm => by
      obtain ⟨_, o', e', hnf⟩ := fl3.2.2.1.mem hm
      rw [g3] at e'; cases e'
      exact hnf _ d3
    have nloc : a ≠ X.env.locals := fun z => nofr (List.mem_filterMap.mpr ⟨X.env, List.mem_cons_self, by rw [hf, z]⟩)
    have nfs : a ∉ X.fs := fun hm => by
      obtain ⟨e, he, q⟩ := List.mem_filterMap.mp hm
      exact nofr (List.mem_filterMap.mpr ⟨e, List.mem_cons_of_mem _ he, q⟩)
    -- it is new
    have newI : sI.heap.get? a = none := by
      cases q : sI.heap.get? a with
      | none => rfl
      | some o =>
        have := nb a o q (by rw [hs]; exact nofr)
        rw [fl3.2.1] at this; cases this
    have new0 : X.s_0.heap.get? a = none := by
      cases q : X.s_0.heap.get? a with
      | none => rfl
      | some o =>
        obtain ⟨o', e⟩ := J.base.there a o q (by rw [hex]; simp)
        rw [newI] at e; cases e
    have pne : ∀ p ∈ X.pn ++ pins, p.1 ≠ a := fun p hp z => by
      have := (J.pin p hp).1
      rw [z, newI] at this; cases this
    have cne : ∀ z cc, X.env.cells.lookup z = some cc → cc ≠ a := fun z cc e q => by
      obtain ⟨_, o, e2, _⟩ := J.cell z cc e
      rw [q, newI] at e2; cases e2
    have S3 := J3.suite g3 d3 na nloc nfs
    refine wpAny_handleBy_cons (codeAny_handlers_test ?_) (by intro q; cases q)
    have looks : PySem.W.Looks (model X.prog X.w) h3 (typeOf (.ref a)) (.ref C0) := fun A Q E s k q => wpAny_typeOf_ref (k _ _ g3) (by rw [z3.1]; exact q)
    have same := PySem.W.exm_one (M := model X.prog X.w) J3.kIn looks hm
    have name : ∀ {Q : Value → Shared → Prop} {E : Value → Shared → Prop}, Q c { s' with heap := h3 } → wpAny (model X.prog X.w) (X.A.mark (some (.ref a))) (eval (.Name x np) X.env) Q E { s' with heap := h3 } := fun {Q E} q => by
      rcases hc with ⟨hg, hdb, hm | ⟨hm, hv, hnn⟩⟩
      · exact ld_glob (X := X.suite a ((a, o3) :: (X.pn ++ pins))) S3 hg hm q hdb
      · exact ld_blt (X := X.suite a ((a, o3) :: (X.pn ++ pins))) S3 hg hm hv q hnn hdb
    refine name (same.here (codeAny_handlers_suite_as ?_))
    refine HandSPX.lands_againZ fl3 fun h4 fl4 up4 => ?_
    have J4 : Inv X pins τ G { s' with heap := h4 } := J.landed nb fl4.1 ((up.trans up3).trans up4) os ag
    obtain ⟨o4, v4, g4, z4, d4⟩ := fl4.there
    have S4 := J4.suite g4 d4 na nloc nfs
    refine store_ok (X := X.suite a ((a, o4) :: (X.pn ++ pins))) (v := .ref a) S4 hN hi (.inl hlk) rfl (fun s5 S5 => ?_) (.inr hlk)
    have step := ps_set (X := X.suite a ((a, o4) :: (X.pn ++ pins))) (i := j) (pos := pa) (pos' := py) hN hj (.inl hly) (pe_var (X := X.suite a ((a, o4) :: (X.pn ++ pins))) (i := i) (pos := pn2) hi (.inl hlk) hd1 hd2) hsw (.inr hly)
    have hil : i < τ.length := by rw [J.len]; exact (List.getElem?_eq_some_iff.mp hi).1
    refine wpAny_mono ((pss_one step).run [] s5 _ G { nx := fun σ6 H6 => σ6 = (τ.set i (some (.ref a))).set j (some (.ref a)) ∧ H6 = G, rt := fun _ _ => False } S5 ⟨.ref a, List.getElem?_set_self hil, rfl, rfl⟩) (fun fl s6 q => ?_) (fun _ _ z => False.elim z)
    cases fl with
    | next =>
      obtain ⟨σ6, H6, S6, rfl, rfl⟩ := q
      have J6 : Inv X ((a, o4) :: pins) ((τ.set i (some (.ref a))).set j (some (.ref a))) H6 s6 := (S6.unsuite ok).pins_of fun p hp => S6.pin p (by
        show p ∈ ((a, o4) :: (X.pn ++ pins)) ++ []
        rw [List.append_nil]
        rcases List.mem_cons.mp hp with e | e
        · rw [e]; exact List.mem_cons_self
        · exact List.mem_cons_of_mem _ (List.mem_append_right _ e))
      refine gone_ok J6 hN hi hln fun s7 J7 => ?_
      have e7 : ((τ.set i (some (V.ref a))).set j (some (.ref a))).set i none = (τ.set i none).set j (some (.ref a)) := by
        rw [List.set_comm _ _ (Ne.symm hij), List.set_set]
      rw [e7] at J7
      exact ⟨_, _, adopt J7 new0 pne cne, wish a o4 na z4.1 z4.2 ⟨_, d4⟩⟩
    | brk => obtain ⟨_, _, _, z⟩ := q; exact z.elim
    | cont => obtain ⟨_, _, _, z⟩ := q; exact z.elim
    | ret u => obtain ⟨_, _, _, _, _, z⟩ := q; exact z.elim
  · cases fl with
    | next =>
      obtain ⟨σ', H', J', q⟩ := q
      exact wpAny_execs_nil ⟨σ', H', J'.ofTry ok, q⟩
    | brk =>
      obtain ⟨σ', H', J', q⟩ := q
      exact ⟨σ', H', J'.ofTry ok, q⟩
    | cont =>
      obtain ⟨σ', H', J', q⟩ := q
      exact ⟨σ', H', J'.ofTry ok, q⟩
    | ret u =>
      obtain ⟨v, σ', H', J', r, q⟩ := q
      exact ⟨v, σ', H', J'.ofTry ok, r, q⟩
end
end SR
namespace SR
open PySem PySem.Spec PyProof.Rows L2
/-- the wish within a try: at any slots that stand for g -/
def EW (K : PySem.W.Frag) (g : Ga) (Wx : WX) : XK := fun cls d H => ∀ σ, RpS K H σ g → Wx cls d σ H
section
variable {X : Cx} {E : XK} {XC : XCt} {g : Ga} {W : Om} {a b c : Expr} {pos : Pos} {O : OD}
/-- a call within a try -/
theorem xe_callT {Wx : WX} {k : Nat} {x : Str} {ps : List Str} {S : SpT} {e : Expr} {es : List Expr} {p : Pos} (c : Cal X.prog X.w X.K X.mg X.base k x ps S) (hr : Room k X.A) (tk : Takes X Wx) (h : XA X (EW X.K g Wx) XC (e :: es) g W fun ds W1 => S ds W1 O XC) (hg : Gl X x := by rfl)
    (hdb : (x == ("__debug__" : Str)) = false := by decide) (he : starEach (e :: es) X.env = (false, eval e X.env) :: starEach es X.env := by rfl) (hpl : (backTo pos (starEach es X.env)).any (·.1) = false := by rfl) :
    XE X (EW X.K g Wx) XC (.Call (.Name x p) (e :: es) [] pos) g W O := by
  obtain ⟨f, fd, F, hm, hk, hb⟩ := c.ex
  refine xe_of (pe_callS F hr hg hm hk hb (fun σ => passAt tk σ) pa_W hdb he hpl) fun σ H r k el Q q => ?_
  refine h σ H r k el _ fun vs H1 ds W1 k1 o1 r1 h1 => ?_
  exact ⟨ds, W1, O, XC, r1, o1, fun C0 H' W' k' o' hx => el C0 H' W' (k1.trans k') o' hx σ ((r.kp k1).kp k'), q.kp k1, h1⟩
/-- try: .. except x as n: y = n -/
theorem xs_tryK (i j : Nat) {x n y : Str} {c0 : Addr} {body : List Stmt} {np py pn2 pa pos' : Pos} {C : EndD} (XCb : XCt) (hN : X.N.Nodup) (hc : X.mg x = some (.ref c0))
    (hb : ∀ (pn : List (Addr × Obj)) (xe : Value → Shared → Prop) (Wx : WX), Takes (X.tr pn xe) Wx → XB (X.tr pn xe) (EW X.K g Wx) XCb body g W C)
    (hx : ∀ C0 W', XCb C0 W' → PySem.W.exmOne X.K (.ref C0) (.ref c0) = some true ∧ ∀ a, W' a = none → C.nx ((g.set i none).set j (some (.exc a C0))) W')
    (hg : Gl X x := by rfl) (hs : X.stack = X.env :: X.outer := by rfl) (hf : X.env.frame = some X.env.locals := by rfl) (hex : X.ex = [] := by rfl) (hi : X.N[i]? = some n := by rfl) (hj : X.N[j]? = some y := by rfl) (hij : i ≠ j := by decide)
    (hln : X.env.kindOf n = some .local := by rfl) (hly : X.env.scope.names.lookup y = some .local := by rfl) (hdx : (x == ("__debug__" : Str)) = false := by decide) (hd1 : (n == ("__debug__" : Str)) = false := by decide) (hd2 : (n == ("__classdict__" : Str)) = false := by decide)
    (hsw : swapsWith (.Name n pn2) (some (.Name y py)) pa.line X.env = pure false := by rfl) :
    XS X E XC (.Try body [.ExceptHandler (some (.Name x np)) (some n) [.Assign [.Name y py] (.Name n pn2) pa] pos'] [] [] pos) g W C := by
  refine xs_of (ps_try_keep (tb := fun Wx D σ H => ∀ (pn : List (Addr × Obj)) (xe : Value → Shared → Prop), Takes (X.tr pn xe) Wx → tssW (X.tr pn xe) body D σ H) hs hf hex hN hi hj hij hln hly ⟨hg, hdx, .inl hc⟩ hd1 hd2 hsw (fun Wx pn xe tk _ => ⟨fun pins s σ H D I h => h pn xe tk pins s I⟩)) fun D σ H r k el l => ?_
  intro pn xe tk
  refine hb pn xe _ tk D σ H r k (fun C0 H' W' k' o' hc0 σ' r' => ?_) l
  obtain ⟨h1, h2⟩ := hx C0 W' hc0
  refine ⟨C0, rfl, rfl, h1, fun ad oe na hcl hd hv => ?_⟩
  exact l.nx _ _ _ W' (k'.trans (Kp.new na)) (o'.more na) (((rpS_none r' i).kp (Kp.new na)).set j (.exc upd_same hcl hd hv)) (h2 ad (o'.free na))
/-! ### isinstance of a kept exception -/
def rIsX (K : PySem.W.Frag) : List V → Hp → VK → Prop := fun xs H Q => ∃ (ad C0 : Addr) (oe : Obj) (u : HO) (cl : V) (cv : Value) (r : Bool), xs = [.ref ad, cl] ∧ H ad = some (.frz oe u) ∧ oe.cls = .ref C0 ∧ oe.dict = none ∧ (∃ vs, oe.data = .fields vs) ∧ ExcC K C0 ∧ ClsV cl cv ∧ PySem.W.kitOne K (.ref C0) cv = some r ∧ Q (.bl r) H
theorem cr_isX : CallR X (.builtin "isinstance") (rIsX X.K) := by
  intro pins s σ H xs us Q I r h
  obtain ⟨ad, C0, oe, u, cl, cv, r0, rfl, hH, h1, h2, ⟨vs, h3⟩, EC, hcl, hk, q⟩ := h
  cases r with
  | cons rx rr =>
    cases rr with
    | cons rt rr =>
      cases rr
      cases rx
      have ec := hcl.eq rt
      subst ec
      obtain ⟨hget, _⟩ := (show ObjOk X.prog X.w H s.heap ad (.frz oe u) from I.hok ad _ hH)
      have J : PySem.W.InstAt s.heap ad oe C0 none := by
        obtain ⟨oc, od, oda, osl⟩ := oe
        dsimp only at h1 h2 h3
        subst h1 h2 h3
        exact ⟨hget, rfl, rfl, trivial⟩
      exact PySem.W.kia_one (PySem.W.handS_kitx_exc EC.hg EC.hk EC.hs EC.hd EC.ha EC.hn EC.ht EC.hm) I.kIn J hk (fun z => nomatch z) fun tk => ⟨.bl r0, H, I.kept (t' := tk) fun _ _ z => z, rfl, q⟩
/-- a class as a datum -/
inductive ClsD : D → Value → Prop where
  | ty (n : String) : ClsD (.ty n) (.type n)
  | own (C : Addr) : ClsD (.p C) (.ref C)
theorem xe_isX {p : Pos} (hm : X.mg "isinstance" = none) (h : XE X E XC a g W fun d W1 => XE X E XC b g W1 fun e W2 => ∃ ad C0 cv r, d = .exc ad C0 ∧ ExcC X.K C0 ∧ ClsD e cv ∧ PySem.W.kitOne X.K (.ref C0) cv = some r ∧ O (.bl r) W2) (hg : Gl X "isinstance" := by rfl)
    (hs : starEach [a, b] X.env = (false, eval a X.env) :: starEach [b] X.env := by rfl) (hs2 : starEach [b] X.env = (false, eval b X.env) :: starEach [] X.env := by rfl) (hp : (backTo pos (starEach [b] X.env)).any (·.1) = false := by rfl) : XE X E XC (.Call (.Name "isinstance" p) [a, b] [] pos) g W O := by
  refine xe_callB cr_isX hm (by decide +kernel) (xa2 (h.imp fun d W1 h1 => h1.imp fun e W2 h2 => ?_) hs hs2) hg (hs := hs) (hp := hp)
  intro vs H4 Q4 r4 o4 q4
  obtain ⟨ad, C0, cv, r, rfl, EC, hcl, hk, h5⟩ := h2
  cases r4 with
  | cons ra rb =>
    cases rb with
    | @cons v2 _ _ _ rb rc =>
      cases rc
      cases ra with
      | @exc _ _ oe u hH h1 h2 h3 =>
        have hcl2 : ClsV v2 cv := by
          cases hcl with
          | ty n => cases rb; exact .ty n
          | own C => cases rb; exact .own C
        exact ⟨ad, C0, oe, u, v2, cv, r, rfl, hH, h1, h2, h3, EC, hcl2, hk, q4 _ H4 _ W2 (Kp.refl _) o4 (.bl _) h5⟩
/-! ### index, count -/
theorem flat_bls : ∀ bs : List Bool, (bs.map V.bl).all flatV = true
  | [] => rfl
  | b :: r => by rw [List.map_cons, List.all_cons, flat_bls r]; rfl
theorem flat_strs : ∀ bs : List Str, (bs.map V.str).all flatV = true
  | [] => rfl
  | b :: r => by rw [List.map_cons, List.all_cons, flat_strs r]; rfl
/-- xs.index(True) of truth values -/
theorem xe_indexB {e : Expr} {apos : Pos} (h : XE X E XC a g W fun d W1 => ∃ l xs, d = .p l ∧ W1 l = some (.lst xs) ∧ XE X E XC e g W1 fun y W2 => ∃ bs : List Bool, ∃ j : Nat, y = .bl true ∧ W2 l = some (.lst (bs.map D.bl)) ∧ bs[j]? = some true ∧ (∀ m, m < j → bs[m]? = some false) ∧ O (.int (j : Int)) W2)
    (hbase : attributeBase a "index" X.env (eval a X.env) = eval a X.env := by rfl)
    (hfew : ((backTo pos (starEach [e] X.env)).all (fun x => !x.1) && (backToKw pos (keywordEach [] X.env)).all (fun x => x.1.isSome) && decide ([e].length + ([] : List Keyword).length + (if ([] : List Keyword).isEmpty then 0 else 1) < 30)) = true := by rfl)
    (hline : (apos.endLine == pos.line) = true := by rfl) (hs : starEach [e] X.env = (false, eval e X.env) :: starEach [] X.env := by rfl) (hplain : (backTo pos (starEach [] X.env)).any (·.1) = false := by rfl) :
    XE X E XC (.Call (.Attribute a "index" apos) [e] [] pos) g W O := by
  refine xe_of (pe_bm PySem.F.plainAttrs_list PySem.F.slot_list_index PySem.F.type_list_index mt_index pe_W (pa_cons pe_W pa_nil hs) hbase hfew hline hs hplain) fun σ H r k el Q q => ?_
  refine h σ H r k el _ fun v H1 d W1 k1 o1 r1 ⟨l, xs, e1, hl, h1⟩ => ?_
  subst e1
  cases r1
  obtain ⟨zs, hz, _⟩ := o1 l _ hl
  refine ⟨.inl ⟨rfl, zs, .of hz⟩, h1 σ H1 (r.kp k1) o1 (el.kp k1) _ fun y H2 d2 W2 k2 o2 r2 ⟨bs, j, e2, hy, hj, hno, h2⟩ => ?_⟩
  subst e2
  cases r2
  obtain ⟨us, hu, ru⟩ := o2 l _ hy
  rw [ru.bls] at hu
  refine ⟨l, _, .bl true, j, .bl true, rfl, rfl, .of hu, rfl, flat_bls bs, by rw [List.getElem?_map, hj]; rfl, rfl, fun m z' hm hz' => ?_, q _ H2 _ W2 (k1.trans k2) o2 (.int _) h2⟩
  rw [List.getElem?_map, hno m hm] at hz'
  rw [← Option.some.inj hz']; rfl
/-- xs.index(z) of texts -/
theorem xe_indexS {e : Expr} {apos : Pos} (h : XE X E XC a g W fun d W1 => ∃ l xs, d = .p l ∧ W1 l = some (.lst xs) ∧ XE X E XC e g W1 fun y W2 => ∃ (bs : List Str) (j : Nat) (z : Str), y = .str z ∧ W2 l = some (.lst (bs.map D.str)) ∧ bs[j]? = some z ∧ (∀ m z', m < j → bs[m]? = some z' → z' ≠ z) ∧ O (.int (j : Int)) W2)
    (hbase : attributeBase a "index" X.env (eval a X.env) = eval a X.env := by rfl)
    (hfew : ((backTo pos (starEach [e] X.env)).all (fun x => !x.1) && (backToKw pos (keywordEach [] X.env)).all (fun x => x.1.isSome) && decide ([e].length + ([] : List Keyword).length + (if ([] : List Keyword).isEmpty then 0 else 1) < 30)) = true := by rfl)
    (hline : (apos.endLine == pos.line) = true := by rfl) (hs : starEach [e] X.env = (false, eval e X.env) :: starEach [] X.env := by rfl) (hplain : (backTo pos (starEach [] X.env)).any (·.1) = false := by rfl) :
    XE X E XC (.Call (.Attribute a "index" apos) [e] [] pos) g W O := by
  refine xe_of (pe_bm PySem.F.plainAttrs_list PySem.F.slot_list_index PySem.F.type_list_index mt_index pe_W (pa_cons pe_W pa_nil hs) hbase hfew hline hs hplain) fun σ H r k el Q q => ?_
  refine h σ H r k el _ fun v H1 d W1 k1 o1 r1 ⟨l, xs, e1, hl, h1⟩ => ?_
  subst e1
  cases r1
  obtain ⟨zs, hz, _⟩ := o1 l _ hl
  refine ⟨.inl ⟨rfl, zs, .of hz⟩, h1 σ H1 (r.kp k1) o1 (el.kp k1) _ fun y H2 d2 W2 k2 o2 r2 ⟨bs, j, z, e2, hy, hj, hno, h2⟩ => ?_⟩
  subst e2
  cases r2
  obtain ⟨us, hu, ru⟩ := o2 l _ hy
  rw [ru.strs] at hu
  refine ⟨l, _, .str z, j, .str z, rfl, rfl, .of hu, rfl, flat_strs bs, by rw [List.getElem?_map, hj]; rfl, by simp [eqV], fun m z' hm hz' => ?_, q _ H2 _ W2 (k1.trans k2) o2 (.int _) h2⟩
  rw [List.getElem?_map] at hz'
  cases q2 : bs[m]? with
  | none => rw [q2] at hz'; cases hz'
  | some y =>
    rw [q2] at hz'
    rw [← Option.some.inj hz']
    have := hno m y hm q2
    simpa [eqV] using this
/-- how a truth value equals True -/
def isT : Value → Bool
  | .bool b => b
  | _ => false
def rCntB (K : PySem.W.Frag) : V → List V → Hp → VK → Prop := fun x xs H Q => ∃ (p : Addr) (bs : List Bool), x = .ref p ∧ xs = [.bl true] ∧ SqL K H p (bs.map V.bl) ∧ Q (.int (bs.count true : Nat)) H
theorem cnt_vals : ∀ {bs : List Bool} {its : List Value}, Vals (bs.map V.bl) its → its.countP isT = bs.count true
  | [], _, h => by cases h; rfl
  | b :: bs, _, h => by
    rw [List.map_cons] at h
    cases h with
    | cons r t =>
      cases (show _ = Value.bool b from r)
      rw [List.countP_cons, List.count_cons, cnt_vals t]
      cases b <;> rfl
theorem mem_bls : ∀ {bs : List Bool} {its : List Value}, Vals (bs.map V.bl) its → ∀ y ∈ its, ∃ b, y = Value.bool b
  | [], _, h, y, hy => by cases h; cases hy
  | b :: bs, _, h, y, hy => by
    rw [List.map_cons] at h
    cases h with
    | cons r t =>
      rcases List.mem_cons.mp hy with e | e
      · exact ⟨b, by rw [e]; exact r⟩
      · exact mem_bls t y e
theorem mt_countB : MtR X "list.count" (rCntB X.K) := by
  intro pins s σ H x xs v us Q I rx rxs h
  obtain ⟨p, bs, rfl, rfl, hs, q⟩ := h
  cases rx
  obtain ⟨u, rfl, ru⟩ := rxs.one
  cases (show u = Value.bool true from ru)
  obtain ⟨its, rv, ⟨⟨cls, dd, data, sl⟩, n, ho, hc, hdn, hd⟩, hlen⟩ := I.list hs
  simp only at hc hd
  subst hc hd
  refine call_meets PySem.F.slot_list_count ⟨_, ho, rfl⟩ PySem.F.entry_list_count (PySem.F.args_list_count_2 _ _) (SeqAt.list_countAt p its.toArray n dd sl (.bool true) isT) ⟨ho, fun y hy => ?_, ?_⟩
  · obtain ⟨b, rfl⟩ := mem_bls rv y (by simpa using hy)
    have := eqAt_V (A := X.A.in1) (s := s) (y := .bl b) (x := .bl true) (u := .bool b) (v := .bool true) rfl rfl rfl rfl
    have e : eqV (.bl b) (.bl true) = isT (.bool b) := by cases b <;> rfl
    rw [e] at this
    exact this
  · have ec : its.toArray.toList.countP isT = bs.count true := by
      rw [List.toList_toArray]
      exact cnt_vals rv
    rw [ec]
    exact ⟨.int (bs.count true : Nat), H, I.tok _, ⟨s.toks, rfl⟩, q⟩
theorem xe_countB {e : Expr} {apos : Pos} (h : XE X E XC a g W fun d W1 => ∃ l xs, d = .p l ∧ W1 l = some (.lst xs) ∧ XE X E XC e g W1 fun y W2 => ∃ bs : List Bool, y = .bl true ∧ W2 l = some (.lst (bs.map D.bl)) ∧ O (.int ((bs.count true : Nat) : Int)) W2)
    (hbase : attributeBase a "count" X.env (eval a X.env) = eval a X.env := by rfl)
    (hfew : ((backTo pos (starEach [e] X.env)).all (fun x => !x.1) && (backToKw pos (keywordEach [] X.env)).all (fun x => x.1.isSome) && decide ([e].length + ([] : List Keyword).length + (if ([] : List Keyword).isEmpty then 0 else 1) < 30)) = true := by rfl)
    (hline : (apos.endLine == pos.line) = true := by rfl) (hs : starEach [e] X.env = (false, eval e X.env) :: starEach [] X.env := by rfl) (hplain : (backTo pos (starEach [] X.env)).any (·.1) = false := by rfl) :
    XE X E XC (.Call (.Attribute a "count" apos) [e] [] pos) g W O := by
  refine xe_of (pe_bm PySem.F.plainAttrs_list PySem.F.slot_list_count PySem.F.type_list_count mt_countB pe_W (pa_cons pe_W pa_nil hs) hbase hfew hline hs hplain) fun σ H r k el Q q => ?_
  refine h σ H r k el _ fun v H1 d W1 k1 o1 r1 ⟨l, xs, e1, hl, h1⟩ => ?_
  subst e1
  cases r1
  obtain ⟨zs, hz, _⟩ := o1 l _ hl
  refine ⟨.inl ⟨rfl, zs, .of hz⟩, h1 σ H1 (r.kp k1) o1 (el.kp k1) _ fun y H2 d2 W2 k2 o2 r2 ⟨bs, e2, hy, h2⟩ => ?_⟩
  subst e2
  cases r2
  obtain ⟨us, hu, ru⟩ := o2 l _ hy
  rw [ru.bls] at hu
  exact ⟨l, bs, rfl, rfl, .of hu, q _ H2 _ W2 (k1.trans k2) o2 (.int _) h2⟩
end
end SR
namespace SR
open PySem PySem.Spec PyProof.Rows L2
/-! ### own classes -/
def putFD (f : Str) (v : D) : List (Str × D) → List (Str × D)
  | [] => [(f, v)]
  | (g, x) :: r => if g = f then (g, v) :: r else (g, x) :: putFD f v r
section
variable {K : PySem.W.Frag} {H : Hp}
theorem FsR.put {f : Str} {v : V} {d : D} (r : Rp K H v d) : ∀ {gs : List (Str × V)} {fs : List (Str × D)}, FsR K H gs fs → FsR K H (putF f v gs) (putFD f d fs)
  | _, _, .nil => .cons ⟨rfl, r⟩ .nil
  | (g, x) :: gs, (g2, y) :: fs, .cons h t => by
    obtain ⟨e, rx⟩ := h
    cases (show g = g2 from e)
    unfold putF putFD
    by_cases hg : g = f
    · rw [if_pos hg, if_pos hg]; exact .cons ⟨rfl, r⟩ t
    · rw [if_neg hg, if_neg hg]; exact .cons ⟨rfl, rx⟩ (FsR.put r t)
theorem FsR.look {f : Str} : ∀ {gs : List (Str × V)} {fs : List (Str × D)} {d : D}, FsR K H gs fs → fs.lookup f = some d → ∃ v, gs.lookup f = some v ∧ Rp K H v d
  | _, _, _, .nil, e => by cases e
  | (g, x) :: gs, (g2, y) :: fs, d, .cons h t, e => by
    obtain ⟨e1, rx⟩ := h
    cases (show g = g2 from e1)
    rw [List.lookup_cons] at e
    rw [List.lookup_cons]
    cases q : (f == g) with
    | true =>
      rw [q] at e
      have e' : some y = some d := e
      cases e'
      exact ⟨x, rfl, rx⟩
    | false =>
      rw [q] at e
      exact FsR.look t e
theorem FsR.no {f : Str} : ∀ {gs : List (Str × V)} {fs : List (Str × D)}, FsR K H gs fs → fs.lookup f = none → gs.lookup f = none
  | _, _, .nil, _ => rfl
  | (g, x) :: gs, (g2, y) :: fs, .cons h t, e => by
    obtain ⟨e1, rx⟩ := h
    cases (show g = g2 from e1)
    rw [List.lookup_cons] at e
    rw [List.lookup_cons]
    cases q : (f == g) with
    | true => rw [q] at e; cases e
    | false =>
      rw [q] at e
      exact FsR.no t e
theorem FsR.len {gs : List (Str × V)} {fs : List (Str × D)} (h : FsR K H gs fs) : gs.length = fs.length := Paired.length h
end
/-- what a caller wants of a method -/
structure CalM (P : Program) (w : World) (K : PySem.W.Frag) (mg : Str → Option Value) (base : Heap) (k : Nat) (C : Addr) (m : Str) (ps : List Str) (S : SpT) : Prop where
  ex : ∃ f fd, FnOk P w K mg base (L2.CX P w) k f fd ps (SpD K S) ∧ Meth K C m f ∧ Binds K fd ps []
theorem CalM.mono {P : Program} {w : World} {K : PySem.W.Frag} {mg : Str → Option Value} {base : Heap} {j k : Nat} {C : Addr} {m : Str} {ps : List Str} {S : SpT} (c : CalM P w K mg base j C m ps S) (h : j ≤ k) : CalM P w K mg base k C m ps S := by
  obtain ⟨f, fd, h1, h2⟩ := c.ex
  exact ⟨f, fd, h1.mono h, h2⟩
/-- THE RULE for a method -/
theorem calM_mk {P : Program} {w : World} {K : PySem.W.Frag} {mg : Str → Option Value} {base : Heap} {C : Addr} {x qual : Str} {st : Stmt} {f : Addr} {fd : FuncData} {N ps : List Str} {k : Nat} {S : SpT} (F : Fun K x qual st f fd) (hm : Meth K C x f) (hb : Binds K fd ps [])
    (Sc : FnScope N ps (defScope st)) (len : ∀ ds W O XC, S ds W O XC → ds.length = ps.length)
    (body : ∀ (cdv : Value) (A : Around) (outer : List Env) (s : Shared) (H : Hp) (E : XK) (ds : List D) (W : Om) (O : OD) (XC : XCt), Room k (A.deeper (envOfC qual (defScope st) s.heap.objs.size f cdv)) → S ds W O XC →
      XB (cxOf (L2.CX P w) P w K mg base N qual (defScope st) f cdv A outer s H E) E XC (defBody st) (startD N.length ds) W { nx := fun _ W' => O .non W', rt := O }) : CalM P w K mg base (k + 1) C x ps S :=
  ⟨f, fd, fnD F Sc len body, hm, hb⟩
/-- C(..) -/
structure CalC (P : Program) (w : World) (K : PySem.W.Frag) (mg : Str → Option Value) (base : Heap) (k : Nat) (x : Str) (C : Addr) (ps : List Str) (S : SpT) : Prop where
  ex : ∃ f fd, FnOk P w K mg base (L2.CX P w) k f fd ps (SpD K S) ∧ Mk K C f ∧ Binds K fd ps []
  mg : mg x = some (.ref C)
section
variable {X : Cx} {E : XK} {XC : XCt} {g : Ga} {W : Om} {a b c : Expr} {pos : Pos} {O : OD}
theorem xe_fld {f : Str} (h : XE X E XC a g W fun d W1 => ∃ l C dx fs v, d = .p l ∧ W1 l = some (.ins C dx fs) ∧ Cls X.K C ∧ NoAttr X.K C f ∧ fs.lookup f = some v ∧ O v W1) (hb : attributeBase a f X.env (eval a X.env) = eval a X.env := by rfl) : XE X E XC (.Attribute a f pos) g W O := by
  refine xe_of (pe_fld pe_W hb) fun σ H r k el Q q => ?_
  refine h σ H r k el _ fun v H1 d W1 k1 o1 r1 ⟨l, C, dx, fs, v2, e, hl, hc, hn, hf, h1⟩ => ?_
  subst e
  cases r1
  obtain ⟨gs, hg, fr⟩ := o1 l _ hl
  obtain ⟨u, hu, ru⟩ := fr.look hf
  exact ⟨l, C, dx, gs, u, rfl, hg, hc, hn, hu, q _ H1 _ W1 k1 o1 ru h1⟩
theorem xs_fld {f : Str} {C0 : EndD} {pos' : Pos} (h : XE X E XC b g W fun v W1 => XE X E XC a g W1 fun d W2 => ∃ l C dx fs, d = .p l ∧ W2 l = some (.ins C dx fs) ∧ Cls X.K C ∧ NoAttr X.K C f ∧ fs.length < 1000 ∧ C0.nx g (updO W2 l (.ins C dx (putFD f v fs))))
    (hs : swapsWith b (some (.Attribute a f pos')) pos.line X.env = pure false := by rfl) : XS X E XC (.Assign [.Attribute a f pos'] b pos) g W C0 := by
  refine xs_of (ps_fld pe_W pe_W hs) fun D σ H r k el l => ?_
  refine h σ H r k el _ fun v H1 dv W1 k1 o1 r1 h1 => ?_
  refine h1 σ H1 (r.kp k1) o1 (el.kp k1) _ fun u H2 d W2 k2 o2 r2 ⟨p, C, dx, fs, e, hl, hc, hn, hlen, h2⟩ => ?_
  subst e
  cases r2
  obtain ⟨gs, hg, fr⟩ := o2 p _ hl
  have kk : Kp H2 (upd H2 p (.ins C dx (putF f v gs))) := Kp.at hg (fun _ z => by cases z) (fun _ _ z => by cases z)
  refine ⟨p, C, dx, gs, rfl, hg, hc, hn, by rw [fr.len]; exact hlen, ?_⟩
  exact l.nx _ _ _ _ ((k1.trans k2).trans kk) (o2.set kk (o := .ins C dx (putFD f dv fs)) ⟨_, upd_same, (FsR.put (r1.kp k2) fr).kp kk⟩) (((r.kp k1).kp k2).kp kk) h2
theorem xe_meth0 {k : Nat} {C : Addr} {m : Str} {ps : List Str} {S : SpT} {apos : Pos} {pl : Sem Bool} (cl : Cls X.K C) (c : CalM X.prog X.w X.K X.mg X.base k C m ps S) (hr : Room k X.A) (hx : Passes (L2.CX X.prog X.w) X E) (h : XE X E XC a g W fun d W1 => ∃ l dx fs, d = .p l ∧ W1 l = some (.ins C dx fs) ∧ fs.lookup m = none ∧ S [.p l] W1 O XC)
    (ht : eval (.Call (.Attribute a m apos) [] [] pos) X.env = (do
      let ov ← eval a X.env
      standAt apos.atName
      let (f, first) ← holding [ov] (getMethod ov m pl)
      callWith pos f first (backTo pos (starEach [] X.env)) (backToKw pos (keywordEach [] X.env))) := by rfl) : XE X E XC (.Call (.Attribute a m apos) [] [] pos) g W O := by
  obtain ⟨f, fd, F, hm, hb⟩ := c.ex
  refine xe_of (pe_meth0 pe_W cl hm F hr hb .nil hx ht) fun σ H r k el Q q => ?_
  refine h σ H r k el _ fun v H1 d W1 k1 o1 r1 ⟨l, dx, fs, e, hl, hn, h1⟩ => ?_
  subst e
  cases r1
  obtain ⟨gs, hg, fr⟩ := o1 l _ hl
  exact ⟨l, dx, gs, rfl, hg, fr.no hn, [.p l], W1, O, XC, .cons (.p l) .nil, o1, el.kp k1, q.kp k1, h1⟩
theorem xe_meth {k : Nat} {C : Addr} {m : Str} {ps : List Str} {S : SpT} {e : Expr} {es : List Expr} {apos : Pos} {pl : Sem Bool} (cl : Cls X.K C) (c : CalM X.prog X.w X.K X.mg X.base k C m ps S) (hr : Room k X.A) (hx : Passes (L2.CX X.prog X.w) X E)
    (h : XE X E XC a g W fun d W1 => ∃ l dx fs, d = .p l ∧ W1 l = some (.ins C dx fs) ∧ fs.lookup m = none ∧ XA X E XC (e :: es) g W1 fun ds W2 => S (.p l :: ds) W2 O XC)
    (hst : starEach (e :: es) X.env = (false, eval e X.env) :: starEach es X.env := by rfl) (hpl : (backTo pos (starEach es X.env)).any (·.1) = false := by rfl)
    (ht : eval (.Call (.Attribute a m apos) (e :: es) [] pos) X.env = (do
      let ov ← eval a X.env
      standAt apos.atName
      let (f, first) ← holding [ov] (getMethod ov m pl)
      callWith pos f first (backTo pos (starEach (e :: es) X.env)) (backToKw pos (keywordEach [] X.env))) := by rfl) : XE X E XC (.Call (.Attribute a m apos) (e :: es) [] pos) g W O := by
  obtain ⟨f, fd, F, hm, hb⟩ := c.ex
  refine xe_of (pe_meth pe_W cl hm F hr hb .nil hx pa_W hst hpl ht) fun σ H r k el Q q => ?_
  refine h σ H r k el _ fun v H1 d W1 k1 o1 r1 ⟨l, dx, fs, e, hl, hn, h1⟩ => ?_
  subst e
  cases r1
  obtain ⟨gs, hg, fr⟩ := o1 l _ hl
  refine ⟨l, dx, gs, rfl, hg, fr.no hn, h1 σ H1 (r.kp k1) o1 (el.kp k1) _ fun vs H2 ds W2 k2 o2 r2 h2 => ?_⟩
  refine ⟨.p l :: ds, W2, O, XC, ?_, o2, (el.kp k1).kp k2, (q.kp k1).kp k2, h2⟩
  rw [List.append_nil]; exact .cons (.p l) r2
theorem xe_make {k : Nat} {x : Str} {C : Addr} {ps : List Str} {S : SpT} {e : Expr} {es : List Expr} {p : Pos} (c : CalC X.prog X.w X.K X.mg X.base k x C ps S) (hr : Room (k + 1) X.A) (hx : Passes (L2.CX X.prog X.w) X E)
    (h : XA X E XC (e :: es) g W fun ds W1 => ∀ l dx, W1 l = none → W1 dx = none → dx ≠ l → S (.p l :: ds) (updO (updO W1 dx (.own l)) l (.ins C dx [])) (fun d W2 => d = .non ∧ O (.p l) W2) XC) (hg : Gl X x := by rfl)
    (hdb : (x == ("__debug__" : Str)) = false := by decide) (he : starEach (e :: es) X.env = (false, eval e X.env) :: starEach es X.env := by rfl) (hpl : (backTo pos (starEach es X.env)).any (·.1) = false := by rfl) :
    XE X E XC (.Call (.Name x p) (e :: es) [] pos) g W O := by
  obtain ⟨f, fd, F, M, hb⟩ := c.ex
  refine xe_of (pe_make M F hr hg c.mg hb .nil hx pa_W hdb he hpl) fun σ H r k el Q q => ?_
  refine h σ H r k el _ fun vs H1 ds W1 k1 o1 r1 h1 => ?_
  intro l dx hl hdx hne
  have n1 : Kp H1 (upd H1 dx (.own l)) := Kp.new hdx
  have hl2 : upd H1 dx (.own l) l = none := by rw [upd_ne (Ne.symm hne)]; exact hl
  have n2 : Kp (upd H1 dx (.own l)) (upd (upd H1 dx (.own l)) l (.ins C dx [])) := Kp.new hl2
  have oo := (o1.new (o := .own l) hdx upd_same).new (o := .ins C dx []) (u := .ins C dx []) hl2 ⟨[], upd_same, .nil⟩
  refine ⟨.p l :: ds, _, _, XC, ?_, oo, (el.kp k1).kp (n1.trans n2), fun v H' d W' k' o' r' ⟨e1, h2⟩ => ?_, h1 l dx (o1.free hl) (o1.free hdx) hne⟩
  · rw [List.append_nil]; exact .cons (.p l) (r1.kp (n1.trans n2))
  · subst e1
    cases r'
    exact ⟨rfl, q _ _ _ _ ((k1.trans (n1.trans n2)).trans k') o' (.p l) h2⟩
end
/-! ### len, ==, !=, str by own methods -/
section
variable {X : Cx} {E : XK}
theorem run_at {pins : List (Addr × Obj)} {σ : St} {H : Hp} {s : Shared} {Q : VK} {us : List Value} {vs : List V} {A : Around} {CX : CXT} {k : Nat} {f : Addr} {fd : FuncData} {ps : List Str} {sp : Sp} (F : FnOk X.prog X.w X.K X.mg X.base CX k f fd ps sp) (hr : Room k A) (hfr : A.frames = X.A.frames) (hb : Binds X.K fd ps []) (hx : Passes CX X E)
    (I : Inv X pins σ H s) (r : Vals vs us) (h : sp vs H Q E) : wpAny (model X.prog X.w) A (call (.ref f) us) (EP X pins σ Q) X.xe s := by
  have e := I.env0
  have e0 : Env0 X.prog X.w X.K X.mg X.base A X.stack s H := ⟨by rw [hfr]; exact e.frames, e.mod, e.bs, e.bsz, e.funs, e.frf, e.hok, e.bare⟩
  have hl : (us ++ []).length = ps.length := by rw [List.append_nil, ← r.length]; exact F.len _ _ _ _ h
  have bt := hb s us I.kIn hl
  rw [List.append_nil] at bt
  refine wpAny_call (codeAny_mono (F.run A X.stack s H ⟨us, []⟩ us vs Q E hr e0 bt r h) fun res s' hq => ?_)
  cases res with
  | error e => exact hx pins σ H s e s' I hq
  | ok fl =>
    cases fl with
    | ret u => exact I.after hq
    | next => exact False.elim hq
    | brk => exact False.elim hq
    | cont => exact False.elim hq
def rLenO (X : Cx) (C : Addr) (E : XK) (sp : Sp) : List V → Hp → VK → Prop := fun vs H Q => ∃ a dx gs, vs = [V.ref a] ∧ H a = some (.ins C dx gs) ∧ sp [.ref a] H (fun y H' => ∃ n : Int, y = .int n ∧ 0 ≤ n ∧ n < 2 ^ 63 ∧ Q (.int n) H') E
theorem cr_lenO {C f : Addr} {fd : FuncData} {CX : CXT} {k : Nat} {ps : List Str} {sp : Sp} (F : FnOk X.prog X.w X.K X.mg X.base CX k f fd ps sp) (hm : Meth X.K C "__len__" f) (hb : Binds X.K fd ps []) (hx : Passes CX X E) (hr : Room (k + 1) X.A) : CallR X (.builtin "len") (rLenO X C E sp) := by
  intro pins s σ H vs us Q I r h
  obtain ⟨a, dx, gs, rfl, ha, hsp⟩ := h
  rw [Vals.ref1 r]
  obtain ⟨mA, J, _⟩ := ins_get I.hok ha
  obtain ⟨od, J, _⟩ := J.look
  obtain ⟨m, hF⟩ := I.fr
  refine PySem.W.len_K hF I.ok.mod.kin J hm.at_ hm.fn ?_
  refine wpAny_mono (run_at (vs := [V.ref a]) F hr.in1 rfl hb hx I (.cons rfl .nil) hsp) (fun v s' q => ?_) fun _ _ z => z
  obtain ⟨y, H', I', rv, n, rfl, h0, h1, q⟩ := q
  obtain ⟨t, rfl⟩ := rv
  exact ⟨⟨h0, h1⟩, .int n, H', I'.tok _, ⟨_, rfl⟩, q⟩
def rEqO (X : Cx) (C : Addr) (E : XK) (sp : Sp) : R2 := fun x y H Q => ∃ a dx gs t, x = .ref a ∧ H a = some (.ins C dx gs) ∧ TyX X.K H y t ∧ PySem.W.notFirst X.K C t = true ∧ sp [x, y] H (fun z H' => ∃ r, z = .bl r ∧ Q (.bl r) H') E
theorem op_eqO {C f : Addr} {fd : FuncData} {CX : CXT} {k : Nat} {ps : List Str} {sp : Sp} (F : FnOk X.prog X.w X.K X.mg X.base CX k f fd ps sp) (hm : Meth X.K C "__eq__" f) (hb : Binds X.K fd ps []) (hx : Passes CX X E) (hr : Room k X.A) : OpR X (compareOp .Eq) (rEqO X C E sp) := by
  intro pins s σ H x y u v Q I rx ry h
  obtain ⟨a, dx, gs, t, rfl, ha, ty, hn, hsp⟩ := h
  cases rx
  obtain ⟨mA, J, _⟩ := ins_get I.hok ha
  obtain ⟨od, J, _⟩ := J.look
  obtain ⟨m, hF⟩ := I.fr
  obtain ⟨P, kx, hP, _⟩ := kit_of I ry ty
  show wpAny (model X.prog X.w) X.A (richCompare .Eq (.ref a) v) (EP X pins σ Q) X.xe s
  refine PySem.W.cmp_K (op := .Eq) (tb := t) hr.units0 hF I.ok.mod.kin J (kx.ty _ _ I.kIn hP) hn hm.at_ hm.fn ?_
  refine wpAny_mono (run_at (vs := [V.ref a, y]) F hr rfl hb hx I (.cons rfl (.cons ry .nil)) hsp) (fun z s' q => ?_) fun _ _ z => z
  obtain ⟨y, H', I', rv, b, rfl, q⟩ := q
  cases (show z = Value.bool b from rv)
  exact ⟨.bl b, H', I', rfl, q⟩
end
end SR
namespace SR
open PySem PySem.Spec PyProof.Rows L2
/-! ### x != y of an own class without an own __ne__ -/
section
variable {prog : Program} {w : World} {A : Around} {E : Value → Shared → Prop} {s : Shared} {K : PySem.W.Frag} {x C f : Addr} {ox : Obj} {od : Option Obj} {b tb : Value}
theorem ifBound_B {M : Model} {name : Str} {id : String} {args : List Value} {Q : Option Value → Shared → Prop} (X : K.In s.heap) (I : PySem.W.InstAt s.heap x ox C od) (hs : PySem.W.findIn K (.ref C) name = some (some (.builtin id))) (hb : ∀ self, bindSpecial (.builtin id) self = pure (.builtin id, [self]))
    (h : wpAny M A (call (.builtin id) (.ref x :: args)) (fun v => Q (some v)) E s) : wpAny M A (callSpecialIfBound? (.ref x) name args) Q E s := by
  unfold callSpecialIfBound? bindSpecialIfBound?
  refine wpAny_holding (wpAny_bind (wpAny_bind (wpAny_bind (I.type.here ((PySem.W.looks_findIn X hs).here ?_)))))
  simp only [hb]
  refine wpAny_bind (wpAny_askSetting (wpAny_ite ?_))
  have go : wpAny M A (call (.builtin id) ([.ref x] ++ args) >>= fun v => pure (some v)) Q E s := wpAny_bind (wpAny_mono h (fun v s' k => wpAny_pure k) fun _ _ k => k)
  split
  · exact wpAny_bind (wpAny_pure (wpAny_pure go))
  · exact wpAny_tryCatch (wpAny_bind (wpAny_pure (wpAny_pure go)))
theorem ne_call {Q : Value → Shared → Prop} (hu : A.in1.units < cLine) (X : K.In s.heap) (I : PySem.W.InstAt s.heap x ox C od) (ho : PySem.W.subIn K (.ref C) (.type "object") = some true) (hs : PySem.W.findIn K (.ref C) "__eq__" = some (some (.ref f))) (hf : PySem.W.isFn K (.ref f) = true)
    (h : wpAny (model prog w) A.in1 (call (.ref f) [.ref x, b]) (fun v s' => ∃ r, v = .bool r ∧ Q (.bool (!r)) s') E s) : wpAny (model prog w) A (call (.builtin "object.__ne__") [.ref x, b]) Q E s := by
  have hi : PySem.W.Looks (model prog w) s.heap (isInstance (.ref x) (.type "object")) true := I.type.andThen (PySem.W.looks_subIn X ho)
  refine wpAny_call (codeAny_call_builtin F.cmp_object.ne.plain F.cmpEntry_ne ?_)
  refine PySem.W.check_slot F.cmpKind_ne F.cmpSplit_ne hi (F.cmpArgs_ne _ _) ?_
  unfold Builtin.«object.__ne__»
  refine wpAny_bind (wpAny_of_eq (a := ((Value.ref x : Value), [b])) (by first | rfl | (simp only [slotArgs]; rfl)) ?_)
  refine wpAny_bind (wpAny_cRoomFor hu ?_)
  refine wpAny_bind (PySem.W.ifBound_K X I hs hf (wpAny_mono h (fun v s' k => ?_) fun _ _ k => k))
  obtain ⟨r, rfl, q⟩ := k
  exact wpAny_bind (wpAny_truthy_bool (wpAny_pure q))
theorem ne_own {Q : Value → Shared → Prop} (hu0 : A.units < cLine) (hu : A.in1.units < cLine) (X : K.In s.heap) (I : PySem.W.InstAt s.heap x ox C od) (hb : PySem.W.Looks (model prog w) s.heap (typeOf b) tb) (hn : PySem.W.notFirst K C tb = true)
    (hne : PySem.W.findIn K (.ref C) "__ne__" = some (some (.builtin "object.__ne__"))) (ho : PySem.W.subIn K (.ref C) (.type "object") = some true) (hs : PySem.W.findIn K (.ref C) "__eq__" = some (some (.ref f))) (hf : PySem.W.isFn K (.ref f) = true)
    (h : wpAny (model prog w) A.in1 (call (.ref f) [.ref x, b]) (fun v s' => ∃ r, v = .bool r ∧ Q (.bool (!r)) s') E s) : wpAny (model prog w) A (richCompare .NotEq (.ref x) b) Q E s := by
  have one : wpAny (model prog w) A (tryCompare (.ref x) (cmpInfo .NotEq).2.1 b) (fun r s' => ∃ v, r = some v ∧ Q v s') E s := by
    unfold tryCompare
    have back := ne_call (Q := fun v s' => ∃ r, v = .bool r ∧ Q v s') hu X I ho hs hf (wpAny_mono h (fun v s' ⟨r, e, q⟩ => ⟨r, e, _, rfl, q⟩) fun _ _ k => k)
    refine wpAny_bind (ifBound_B X I hne F.cmp_object.ne.bind (wpAny_mono back (fun v s' k => ?_) fun _ _ k => k))
    obtain ⟨r, rfl, q⟩ := k
    exact wpAny_pure ⟨_, rfl, q⟩
  unfold richCompare
  simp only [oneThing_ref]
  refine wpAny_holding (wpAny_bind (wpAny_cRoomFor hu0 (wpAny_bind (I.type.here (wpAny_bind (hb.here ?_))))))
  split
  · rename_i q
    have e : PySem.W.subIn K tb (.ref C) = some false := by
      rcases Bool.or_eq_true_iff.mp hn with e | e
      · rw [beq_iff_eq.mp e] at q; simp at q
      · exact beq_iff_eq.mp e
    refine wpAny_bind ((PySem.W.looks_subIn X e).here ?_)
    simp only [Bool.false_eq_true, if_false]
    refine wpAny_bind (wpAny_mono one (fun r s' z => ?_) fun _ _ k => k)
    obtain ⟨v, rfl, q⟩ := z
    exact wpAny_pure q
  · refine wpAny_bind (wpAny_pure ?_)
    simp only [Bool.false_eq_true, if_false]
    refine wpAny_bind (wpAny_mono one (fun r s' z => ?_) fun _ _ k => k)
    obtain ⟨v, rfl, q⟩ := z
    exact wpAny_pure q
end
/-- an own class, for isinstance and comparisons -/
structure OwnC (K : PySem.W.Frag) (C : Addr) : Prop where
  cl : Cls K C
  ha : PySem.W.findIn K (.ref C) "__class__" = some (some (.builtin "object.__class__"))
  hn : PySem.W.specialIn K (.builtin "object.__class__") "__get__" = some (some (.builtin "getset_descriptor.__get__"))
  ht : PySem.W.takesIn K (.builtin "object.__class__") = some true
  hm : PySem.W.mroIn K C (.type "object") = some true
/-- the type of a datum: a built-in's, or an own class -/
inductive TyE (K : PySem.W.Frag) (W : Om) : D → Value → Prop where
  | d {d : D} {t : String} (h : tyD W d = some t) : TyE K W d (.type t)
  | ins {l C dx : Addr} {fs : List (Str × D)} (h : W l = some (.ins C dx fs)) (c : OwnC K C) : TyE K W (.p l) (.ref C)
theorem TyE.ok {K : PySem.W.Frag} {H : Hp} {W : Om} {v : V} {d : D} {t : Value} (o : HpOk K H W) (r : Rp K H v d) (h : TyE K W d t) : TyX K H v t := by
  cases h with
  | d h => exact tyD_ok o r h
  | ins h c =>
    cases r
    obtain ⟨gs, hg, _⟩ := o _ _ h
    exact .base (.ins hg c.cl c.ha c.hn c.ht c.hm)
section
variable {X : Cx} {E : XK}
def rNeO (X : Cx) (C : Addr) (E : XK) (sp : Sp) : R2 := fun x y H Q => ∃ a dx gs t, x = .ref a ∧ H a = some (.ins C dx gs) ∧ TyX X.K H y t ∧ PySem.W.notFirst X.K C t = true ∧ sp [x, y] H (fun z H' => ∃ r, z = .bl r ∧ Q (.bl (!r)) H') E
theorem op_neO {C f : Addr} {fd : FuncData} {CX : CXT} {k : Nat} {ps : List Str} {sp : Sp} (F : FnOk X.prog X.w X.K X.mg X.base CX k f fd ps sp) (hm : Meth X.K C "__eq__" f) (hne : PySem.W.findIn X.K (.ref C) "__ne__" = some (some (.builtin "object.__ne__"))) (ho : PySem.W.subIn X.K (.ref C) (.type "object") = some true)
    (hb : Binds X.K fd ps []) (hx : Passes CX X E) (hr : Room (k + 1) X.A) : OpR X (compareOp .NotEq) (rNeO X C E sp) := by
  intro pins s σ H x y u v Q I rx ry h
  obtain ⟨a, dx, gs, t, rfl, ha, ty, hn, hsp⟩ := h
  cases rx
  obtain ⟨mA, J, _⟩ := ins_get I.hok ha
  obtain ⟨od, J, _⟩ := J.look
  obtain ⟨P, kx, hP, _⟩ := kit_of I ry ty
  show wpAny (model X.prog X.w) X.A (richCompare .NotEq (.ref a) v) (EP X pins σ Q) X.xe s
  refine ne_own hr.units0 hr.in1.units0 I.kIn J (kx.ty _ _ I.kIn hP) hn hne ho hm.at_ hm.fn ?_
  refine wpAny_mono (run_at (vs := [V.ref a, y]) F hr.in1 rfl hb hx I (.cons rfl (.cons ry .nil)) hsp) (fun z s' q => ?_) fun _ _ z => z
  obtain ⟨y, H', I', rv, b, rfl, q⟩ := q
  cases (show z = Value.bool b from rv)
  exact ⟨b, rfl, .bl (!b), H', I', rfl, q⟩
def rStrO (X : Cx) (C : Addr) (E : XK) (sp : Sp) : List V → Hp → VK → Prop := fun vs H Q => ∃ a dx gs, vs = [V.ref a] ∧ H a = some (.ins C dx gs) ∧ sp [.ref a] H (fun y H' => ∃ z, y = .str z ∧ Q (.str z) H') E
theorem cr_strO {C f : Addr} {fd : FuncData} {CX : CXT} {k : Nat} {ps : List Str} {sp : Sp} (F : FnOk X.prog X.w X.K X.mg X.base CX k f fd ps sp) (hm : Meth X.K C "__str__" f) (hb : Binds X.K fd ps []) (hx : Passes CX X E) (hr : Room (k + 2) X.A) : CallR X (.type "str") (rStrO X C E sp) := by
  intro pins s σ H vs us Q I r h
  obtain ⟨a, dx, gs, rfl, ha, hsp⟩ := h
  rw [Vals.ref1 r]
  obtain ⟨mA, J, _⟩ := ins_get I.hok ha
  obtain ⟨od, J, _⟩ := J.look
  refine PySem.W.kso_call hr.in1.in1.units0 I.kIn J hm.at_ hm.fn ?_
  refine wpAny_mono (run_at (vs := [V.ref a]) F hr.in1.in1 rfl hb hx I (.cons rfl .nil) hsp) (fun v s' q => ?_) fun _ _ z => z
  obtain ⟨y, H', I', rv, z, rfl, q⟩ := q
  obtain ⟨t, rfl⟩ := rv
  exact ⟨.str z, H', I', ⟨t, rfl⟩, q⟩
end
section
variable {X : Cx} {E : XK} {XC : XCt} {g : Ga} {W : Om} {a b c : Expr} {pos : Pos} {O : OD}
theorem xe_lenO {k : Nat} {C : Addr} {ps : List Str} {S : SpT} {p : Pos} (hm : X.mg "len" = none) (c : CalM X.prog X.w X.K X.mg X.base k C "__len__" ps S) (hr : Room (k + 1) X.A) (h : XE X E XC a g W fun d W1 => ∃ l dx fs, d = .p l ∧ W1 l = some (.ins C dx fs) ∧ S [.p l] W1 (fun y W2 => ∃ n : Int, y = .int n ∧ 0 ≤ n ∧ n < 2 ^ 63 ∧ O (.int n) W2) XC0)
    (hg : Gl X "len" := by rfl) (hs : starEach [a] X.env = (false, eval a X.env) :: starEach [] X.env := by rfl) (hp : (backTo pos (starEach [] X.env)).any (·.1) = false := by rfl) : XE X E XC (.Call (.Name "len" p) [a] [] pos) g W O := by
  obtain ⟨f, fd, F, hmt, hb⟩ := c.ex
  refine xe_callB (cr_lenO F hmt hb pass0X hr) hm PySem.boot_len (xa1 (h.imp fun d W1 h1 => ?_) hs) hg (hs := hs) (hp := hp)
  intro vs H2 Q2 r2 o2 q2
  obtain ⟨l, dx, fs, rfl, hl, h2⟩ := h1
  cases r2 with
  | cons rv rn =>
    cases rn
    cases rv
    obtain ⟨gs, hgs, fr⟩ := o2 l _ hl
    refine ⟨l, dx, gs, rfl, hgs, [.p l], W1, _, XC0, .cons (.p l) .nil, o2, el0, fun v H' d W' k' o' r' ⟨n, e, h0, h1, hq⟩ => ?_, h2⟩
    subst e
    cases r'
    exact ⟨n, rfl, h0, h1, q2 _ H' _ W' k' o' (.int n) hq⟩
/-- what == by an own __eq__ asks -/
def EqO (X : Cx) (C : Addr) (S : SpT) (f : Bool → Bool) : R2D := fun d e W O => ∃ l dx fs t, d = .p l ∧ W l = some (.ins C dx fs) ∧ TyE X.K W e t ∧ PySem.W.notFirst X.K C t = true ∧ S [.p l, e] W (fun z W2 => ∃ r, z = .bl r ∧ O (.bl (f r)) W2) XC0
theorem op2_eqO {C : Addr} {S : SpT} : Op2 X.K (rEqO X C E0 (SpD X.K S)) (EqO X C S id) := by
  intro x y d e H W O Q rx ry o q ⟨l, dx, fs, t, e1, hl, ty, hn, h⟩
  subst e1
  cases rx
  obtain ⟨gs, hgs, fr⟩ := o l _ hl
  refine ⟨l, dx, gs, t, rfl, hgs, ty.ok o ry, hn, [.p l, e], W, _, XC0, .cons (.p l) (.cons ry .nil), o, el0, fun v H' d W' k' o' r' ⟨r, e, hq⟩ => ?_, h⟩
  subst e
  cases r'
  exact ⟨r, rfl, q _ H' _ W' k' o' (.bl _) hq⟩
theorem op2_neO {C : Addr} {S : SpT} : Op2 X.K (rNeO X C E0 (SpD X.K S)) (EqO X C S not) := by
  intro x y d e H W O Q rx ry o q ⟨l, dx, fs, t, e1, hl, ty, hn, h⟩
  subst e1
  cases rx
  obtain ⟨gs, hgs, fr⟩ := o l _ hl
  refine ⟨l, dx, gs, t, rfl, hgs, ty.ok o ry, hn, [.p l, e], W, _, XC0, .cons (.p l) (.cons ry .nil), o, el0, fun v H' d W' k' o' r' ⟨r, e, hq⟩ => ?_, h⟩
  subst e
  cases r'
  exact ⟨r, rfl, q _ H' _ W' k' o' (.bl _) hq⟩
theorem xe_eqO {k : Nat} {C : Addr} {ps : List Str} {S : SpT} (c : CalM X.prog X.w X.K X.mg X.base k C "__eq__" ps S) (hr : Room k X.A) (h : XE X E XC a g W fun d W1 => XE X E XC b g W1 fun e W2 => EqO X C S id d e W2 O) : XE X E XC (.Compare a [.Eq] [b] pos) g W O := by
  obtain ⟨f, fd, F, hmt, hb⟩ := c.ex
  exact xe_of (pe_cmpR (op_eqO F hmt hb pass0X hr) pe_W pe_W (nomark _)) (ex_op op2_eqO h)
theorem xt_eqO {O : Bool → Om → Prop} {k : Nat} {C : Addr} {ps : List Str} {S : SpT} (c : CalM X.prog X.w X.K X.mg X.base k C "__eq__" ps S) (hr : Room k X.A) (h : XE X E XC a g W fun d W1 => XE X E XC b g W1 fun e W2 => EqO X C S id d e W2 (asB O)) : XT X E XC (.Compare a [.Eq] [b] pos) g W O := by
  obtain ⟨f, fd, F, hmt, hb⟩ := c.ex
  exact xt_of (pt_cmpR (op_eqO F hmt hb pass0X hr) pe_W pe_W (nomark _)) (exT_test (ex_op op2_eqO h))
theorem xe_neO {k : Nat} {C : Addr} {ps : List Str} {S : SpT} (c : CalM X.prog X.w X.K X.mg X.base k C "__eq__" ps S) (hne : PySem.W.findIn X.K (.ref C) "__ne__" = some (some (.builtin "object.__ne__"))) (ho : PySem.W.subIn X.K (.ref C) (.type "object") = some true) (hr : Room (k + 1) X.A)
    (h : XE X E XC a g W fun d W1 => XE X E XC b g W1 fun e W2 => EqO X C S not d e W2 O) : XE X E XC (.Compare a [.NotEq] [b] pos) g W O := by
  obtain ⟨f, fd, F, hmt, hb⟩ := c.ex
  exact xe_of (pe_cmpR (op_neO F hmt hne ho hb pass0X hr) pe_W pe_W (nomark _)) (ex_op op2_neO h)
theorem xt_neO {O : Bool → Om → Prop} {k : Nat} {C : Addr} {ps : List Str} {S : SpT} (c : CalM X.prog X.w X.K X.mg X.base k C "__eq__" ps S) (hne : PySem.W.findIn X.K (.ref C) "__ne__" = some (some (.builtin "object.__ne__"))) (ho : PySem.W.subIn X.K (.ref C) (.type "object") = some true) (hr : Room (k + 1) X.A)
    (h : XE X E XC a g W fun d W1 => XE X E XC b g W1 fun e W2 => EqO X C S not d e W2 (asB O)) : XT X E XC (.Compare a [.NotEq] [b] pos) g W O := by
  obtain ⟨f, fd, F, hmt, hb⟩ := c.ex
  exact xt_of (pt_cmpR (op_neO F hmt hne ho hb pass0X hr) pe_W pe_W (nomark _)) (exT_test (ex_op op2_neO h))
/-- isinstance(x, c) of any datum with a type -/
theorem xe_isiO {p : Pos} (hm : X.mg "isinstance" = none) (h : XE X E XC a g W fun d W1 => XE X E XC b g W1 fun e W2 => ∃ t cv r, TyE X.K W2 d t ∧ ClsD e cv ∧ PySem.W.kitOne X.K t cv = some r ∧ O (.bl r) W2) (hg : Gl X "isinstance" := by rfl)
    (hs : starEach [a, b] X.env = (false, eval a X.env) :: starEach [b] X.env := by rfl) (hs2 : starEach [b] X.env = (false, eval b X.env) :: starEach [] X.env := by rfl) (hp : (backTo pos (starEach [b] X.env)).any (·.1) = false := by rfl) : XE X E XC (.Call (.Name "isinstance" p) [a, b] [] pos) g W O := by
  refine xe_callB call_isi hm (by decide +kernel) (xa2 (h.imp fun d W1 h1 => h1.imp fun e W2 h2 => ?_) hs hs2) hg (hs := hs) (hp := hp)
  intro vs H4 Q4 r4 o4 q4
  obtain ⟨t, cv, r, ty, hcl, hk, h5⟩ := h2
  cases r4 with
  | @cons v5 _ _ _ ra rb =>
    cases rb with
    | @cons v2 _ _ _ rb rc =>
      cases rc
      have hcl2 : ClsV v2 cv := by
        cases hcl with
        | ty n => cases rb; exact .ty n
        | own C => cases rb; exact .own C
      exact ⟨v5, v2, t, cv, r, rfl, hcl2, ty.ok o4 ra, hk, q4 _ H4 _ W2 (Kp.refl _) o4 (.bl _) h5⟩
theorem xe_strO {k : Nat} {C : Addr} {ps : List Str} {S : SpT} {p : Pos} (hm : X.mg "str" = none) (c : CalM X.prog X.w X.K X.mg X.base k C "__str__" ps S) (hr : Room (k + 2) X.A) (h : XE X E XC a g W fun d W1 => ∃ l dx fs, d = .p l ∧ W1 l = some (.ins C dx fs) ∧ S [.p l] W1 (fun y W2 => ∃ z, y = .str z ∧ O (.str z) W2) XC0)
    (hg : Gl X "str" := by rfl) (hs : starEach [a] X.env = (false, eval a X.env) :: starEach [] X.env := by rfl) (hp : (backTo pos (starEach [] X.env)).any (·.1) = false := by rfl) : XE X E XC (.Call (.Name "str" p) [a] [] pos) g W O := by
  obtain ⟨f, fd, F, hmt, hb⟩ := c.ex
  refine xe_callTy (cr_strO F hmt hb pass0X hr) hm (by decide +kernel) (xa1 (h.imp fun d W1 h1 => ?_) hs) hg (hs := hs) (hp := hp)
  intro vs H2 Q2 r2 o2 q2
  obtain ⟨l, dx, fs, rfl, hl, h2⟩ := h1
  cases r2 with
  | cons rv rn =>
    cases rn
    cases rv
    obtain ⟨gs, hgs, fr⟩ := o2 l _ hl
    refine ⟨l, dx, gs, rfl, hgs, [.p l], W1, _, XC0, .cons (.p l) .nil, o2, el0, fun v H' d W' k' o' r' ⟨z, e, hq⟩ => ?_, h2⟩
    subst e
    cases r'
    exact ⟨z, rfl, q2 _ H' _ W' k' o' (.str z) hq⟩
/-! ### f-strings -/
theorem xe_fmt (h : XE X E XC a g W fun d W1 => (∃ y : Str, d = .str y ∧ y.length ≤ sizeLine ∧ O (.str y) W1) ∨ ∃ i : Int, d = .int i ∧ i.natAbs.log2 < 1920 ∧ O (.str (toString i)) W1) : XE X E XC (.FormattedValue a (-1) none pos) g W O := by
  refine xe_of (pe_fmt pe_W) fun σ H r k el Q q => ?_
  refine h σ H r k el _ fun v H1 d W1 k1 o1 r1 h1 => ?_
  rcases h1 with ⟨y, e, hz, h1⟩ | ⟨i, e, hz, h1⟩
  · subst e; cases r1
    exact .inl ⟨y, rfl, hz, q _ H1 _ W1 k1 o1 (.str y) h1⟩
  · subst e; cases r1
    exact .inr ⟨i, rfl, hz, q _ H1 _ W1 k1 o1 (.str _) h1⟩
/-- the parts of an f-string, one behind the other -/
def XJ (X : Cx) (E : XK) (XC : XCt) : List Expr → Ga → Om → Str → OD → Prop
  | [], _, W, acc, O => O (.str acc) W
  | e :: es, g, W, acc, O => XE X E XC e g W fun d W1 => ∃ y : Str, d = .str y ∧ (acc ++ y).length ≤ sizeLine ∧ XJ X E XC es g W1 (acc ++ y) O
theorem pj_W : ∀ es : List Expr, PJ X es (es.map (tW X))
  | [] => .nil
  | _ :: es => .cons pe_W (pj_W es)
theorem xj_run : ∀ (es : List Expr) (W : Om) (acc : Str), XJ X E XC es g W acc O → ∀ (σ : St) (H : Hp), RpS X.K H σ g → HpOk X.K H W → EL X.K H E XC → ∀ Q : VK, QL X.K H O Q → tJs (es.map (tW X)) acc σ H fun out H1 => Q (.str out) H1
  | [], W, acc, h, σ, H, r, k, el, Q, q => q _ H _ W (Kp.refl H) k (.str acc) h
  | e :: es, W, acc, h, σ, H, r, k, el, Q, q => by
    refine h σ H r k el _ fun v H1 d W1 k1 o1 r1 ⟨y, e1, hz, h1⟩ => ?_
    subst e1
    cases r1
    exact ⟨y, rfl, hz, xj_run es W1 (acc ++ y) h1 σ H1 (r.kp k1) o1 (el.kp k1) Q (q.kp k1)⟩
theorem xe_joined {v1 v2 : Expr} {rest : List Expr} (h : XJ X E XC (v1 :: v2 :: rest) g W Str.empty O) : XE X E XC (.JoinedStr (v1 :: v2 :: rest) pos) g W O :=
  xe_of (pe_joined (pj_W _)) fun σ H r k el Q q => xj_run _ W Str.empty h σ H r k el Q q
end
end SR
namespace SR
open PySem PySem.Spec PyProof.Rows L2
theorem op2_rep {K : PySem.W.Frag} : Op2 K rRep (fun d e W O => ∃ l k ds, d = .p l ∧ e = .int k ∧ W l = some (.lst ds) ∧ -(2 ^ 63) ≤ k ∧ k < 2 ^ 63 ∧ ds.length * k.toNat ≤ sizeLine ∧ ∀ p, W p = none → O (.p p) (updO W p (.lst (List.replicate k.toNat ds).flatten))) := by
  intro x y d e H W O Q rx ry o q ⟨l, k, ds, e1, e2, hl, h1, h2, hz, h⟩
  subst e1 e2
  cases rx
  cases ry
  obtain ⟨xs, g1, r1⟩ := o l _ hl
  refine ⟨l, k, xs, rfl, rfl, g1, h1, h2, by rw [r1.length]; exact hz, fun p hp => ?_⟩
  exact q _ _ _ _ (Kp.new hp) (o.new (o := .lst (List.replicate k.toNat ds).flatten) hp ⟨_, upd_same, (r1.rep k.toNat).kp (Kp.new hp)⟩) (.p p) (h p (o.free hp))
section
variable {X : Cx} {E : XK} {XC : XCt} {g : Ga} {W : Om} {a b c : Expr} {pos : Pos} {O : OD}
/-- a list times an int -/
theorem xe_rep (h : XE X E XC a g W fun d W1 => XE X E XC b g W1 fun e W2 => ∃ l k ds, d = .p l ∧ e = .int k ∧ W2 l = some (.lst ds) ∧ -(2 ^ 63) ≤ k ∧ k < 2 ^ 63 ∧ ds.length * k.toNat ≤ sizeLine ∧ ∀ p, W2 p = none → O (.p p) (updO W2 p (.lst (List.replicate k.toNat ds).flatten))) : XE X E XC (.BinOp a .Mult b pos) g W O :=
  xe_of (pe_op op_rep pe_W pe_W) (ex_op op2_rep h)
end
theorem updO_free {W : Om} {a b : Addr} {o : Ob} (h : updO W a o b = none) : W b = none := by
  unfold updO at h
  split at h
  · cases h
  · exact h
end SR
namespace SR
open PySem PySem.Spec PyProof.Rows L2
section
variable {X : Cx} {E : XK} {XC : XCt} {g : Ga} {W : Om} {a b c : Expr} {pos : Pos} {O : OD}
/-- how a made function is tracked -/
def seenO (f : Addr) (o : Obj) : HO := .frz o (.ext fun h => ∃ o, h.get? f = some o)
theorem seenO_ok {P : Program} {w : World} {H : Hp} {h : Heap} {f : Addr} {o : Obj} (e : h.get? f = some o) : ObjOk P w H h f (seenO f o) :=
  ⟨e, ⟨o, e⟩, ⟨o, e⟩, fun _ _ ⟨o, e1⟩ k => ⟨o, k o e1⟩⟩
/-- a lambda that captures nothing is made -/
theorem xe_lam {pr : Arguments} {bd : Expr} {sc : Scope} {cc T : Addr} (TB : LamX.TabB X.base X.mg cc T) (hcode : X.env.code = .ref cc) (hT : W T = some (.tab (X.env.qual ++ "<lambda>")))
    (hno : ∀ y ∈ sc.names, y.2 ≠ .free) (hcl : cloFrom X.env.cells sc.names [] = []) (hdef : defaultsOf pr X.env = ([], []))
    (h : ∀ f, W f = none → O (.p f) (updO W f (.fn (X.env.qual ++ "<lambda>") pr bd sc))) : XE X E XC (.Lambda pr bd sc pos) g W O := by
  intro σ H r ok el Q q pins s I
  obtain ⟨ps, hP, ht, ha⟩ := ok T _ hT
  have hcf : closureFor sc X.env = pure [] := by
    rw [closure_ok fun y hy e => absurd e (hno y hy), hcl]
  have bT : s.heap.BuiltinsAt X.mg T := TB.bm.keeps I.bk
  have hP1 : s.heap.get? T = some { cls := .none, data := .fields ps } := I.hok T _ hP
  refine PySem.W.kla_eval hdef ?_
  cases hc : codeAmong pos ps.toList with
  | some cv =>
    obtain ⟨c1, oc, u, vs, t, rfl, g1, g2, g3⟩ := ha pos cv hc
    refine PySem.W.kla_makeFunctionHit (P := T) hcf I.ok.glob (I.mod.glob.keeps I.bk) hcode (TB.code.keeps I.bk) hP1 ht hc bT fun ctv h1 tk up hsz => ?_
    have hfree : H h1.objs.size = none := I.hok.fresh hsz
    have I2 := I.laid (t' := tk) (a := h1.objs.size) (o := seenO h1.objs.size (PySem.W.kla_obj "<lambda>" (X.env.qual ++ "<lambda>") pr bd sc [] ((X.mg "__name__").getD .none) c1 ctv)) (fun b o e => Heap.get?_push_of_some _ (up b o e)) hsz (seenO_ok (Heap.get?_push_size _ rfl))
    have kn := Kp.new (o := seenO h1.objs.size (PySem.W.kla_obj "<lambda>" (X.env.qual ++ "<lambda>") pr bd sc [] ((X.mg "__name__").getD .none) c1 ctv)) hfree
    refine ⟨.ref _, _, I2, rfl, q _ _ _ _ kn (ok.new (o := .fn (X.env.qual ++ "<lambda>") pr bd sc) hfree ?_) (.p _) (h _ (ok.free hfree))⟩
    exact ⟨_, _, c1, _, oc, u, vs, t, upd_same, kn.f _ _ _ g1, g2, g3⟩
  | none =>
    refine PySem.W.kla_makeFunction (P := T) hcf I.ok.glob (I.mod.glob.keeps I.bk) hcode (TB.code.keeps I.bk) hP1 ht hc TB.gP bT fun c1 ctv h1 tk up hge hlt hrec htb => ?_
    obtain ⟨c2, oc, vs, t, e2, hoc, hd, hv⟩ := hrec
    cases e2
    have nC : H c1 = none := I.hok.fresh hge
    have nTc : T ≠ c1 := ne_of_none hP nC
    have hsz : s.heap.objs.size ≤ h1.objs.size := Nat.le_trans hge (Nat.le_of_lt hlt)
    have nF : H h1.objs.size = none := I.hok.fresh hsz
    have nFc : h1.objs.size ≠ c1 := Nat.ne_of_gt hlt
    have nFT : h1.objs.size ≠ T := fun z => by rw [z, hP] at nF; cases nF
    have I1 := LamX.inv_table (t' := tk) (more := #[rawInt pos.line, rawInt pos.col, .ref c1]) I hP up htb hge ⟨oc, vs, t, hoc, hd, hv⟩
    have hC1 : upd (upd H T (.tbl (ps ++ #[rawInt pos.line, rawInt pos.col, .ref c1]))) c1 (LamX.CodeO c1 (X.env.qual ++ "<lambda>")) c1 = some (LamX.CodeO c1 (X.env.qual ++ "<lambda>")) := upd_same
    obtain ⟨od, I2⟩ := I1.lock hC1 True.intro
    obtain ⟨e1, ⟨od', vs', t', e3, e4, e5⟩, _⟩ := I2.hok c1 _ upd_same
    rw [e1] at e3
    cases e3
    have nF2 : upd (upd (upd H T (.tbl (ps ++ #[rawInt pos.line, rawInt pos.col, .ref c1]))) c1 (LamX.CodeO c1 (X.env.qual ++ "<lambda>"))) c1 (.frz od (LamX.CodeO c1 (X.env.qual ++ "<lambda>"))) h1.objs.size = none := by
      rw [upd_ne nFc, upd_ne nFc, upd_ne nFT]; exact nF
    have I3 := I2.laid (t' := tk) (h' := h1.push (PySem.W.kla_obj "<lambda>" (X.env.qual ++ "<lambda>") pr bd sc [] ((X.mg "__name__").getD .none) c1 ctv)) (a := h1.objs.size) (o := seenO h1.objs.size (PySem.W.kla_obj "<lambda>" (X.env.qual ++ "<lambda>") pr bd sc [] ((X.mg "__name__").getD .none) c1 ctv)) (fun b o e => Heap.get?_push_of_some _ e) (Nat.le_refl _) (seenO_ok (Heap.get?_push_size _ rfl))
    have k1 : Kp H (upd H T (.tbl (ps ++ #[rawInt pos.line, rawInt pos.col, .ref c1]))) := Kp.at hP (fun _ z => by cases z) (fun _ _ z => by cases z)
    have k2 : Kp (upd H T (.tbl (ps ++ #[rawInt pos.line, rawInt pos.col, .ref c1]))) (upd (upd H T (.tbl (ps ++ #[rawInt pos.line, rawInt pos.col, .ref c1]))) c1 (LamX.CodeO c1 (X.env.qual ++ "<lambda>"))) := Kp.new (by rw [upd_ne (Ne.symm nTc)]; exact nC)
    have k3 : Kp (upd (upd H T (.tbl (ps ++ #[rawInt pos.line, rawInt pos.col, .ref c1]))) c1 (LamX.CodeO c1 (X.env.qual ++ "<lambda>"))) (upd (upd (upd H T (.tbl (ps ++ #[rawInt pos.line, rawInt pos.col, .ref c1]))) c1 (LamX.CodeO c1 (X.env.qual ++ "<lambda>"))) c1 (.frz od (LamX.CodeO c1 (X.env.qual ++ "<lambda>")))) :=
      Kp.at upd_same (fun _ z => by unfold LamX.CodeO at z; cases z) (fun _ _ z => by unfold LamX.CodeO at z; cases z)
    have k4 := Kp.new (o := seenO h1.objs.size (PySem.W.kla_obj "<lambda>" (X.env.qual ++ "<lambda>") pr bd sc [] ((X.mg "__name__").getD .none) c1 ctv)) nF2
    have kk := ((k1.trans k2).trans k3).trans k4
    refine ⟨.ref _, _, I3, rfl, q _ _ _ _ kk (fun b o e => ?_) (.p _) (h _ (ok.free nF))⟩
    have hcF : upd (upd (upd (upd H T (.tbl (ps ++ #[rawInt pos.line, rawInt pos.col, .ref c1]))) c1 (LamX.CodeO c1 (X.env.qual ++ "<lambda>"))) c1 (.frz od (LamX.CodeO c1 (X.env.qual ++ "<lambda>")))) h1.objs.size (seenO h1.objs.size (PySem.W.kla_obj "<lambda>" (X.env.qual ++ "<lambda>") pr bd sc [] ((X.mg "__name__").getD .none) c1 ctv)) c1 = some (.frz od (LamX.CodeO c1 (X.env.qual ++ "<lambda>"))) := by
      rw [upd_ne (Ne.symm nFc), upd_same]
    by_cases hb : b = h1.objs.size
    · subst hb
      rw [updO_same] at e
      cases e
      exact ⟨_, _, c1, _, od, _, vs', t', upd_same, hcF, e4, e5⟩
    · rw [updO_ne hb] at e
      by_cases hbT : b = T
      · subst hbT
        rw [hT] at e
        cases e
        have eL : (ps ++ #[rawInt pos.line, rawInt pos.col, .ref c1]).toList = ps.toList ++ [rawInt pos.line, rawInt pos.col, .ref c1] := by simp
        refine ⟨ps ++ #[rawInt pos.line, rawInt pos.col, .ref c1], by rw [upd_ne hb, upd_ne nTc, upd_ne nTc, upd_same], by rw [eL]; exact PySem.TriplesOk_snoc _ _ _ _ ht, fun p2 cv hcv => ?_⟩
        rw [eL] at hcv
        rcases LamX.among_app _ ht hcv with z | z
        · obtain ⟨c3, oc3, u3, vs3, t3, e6, e7, e8⟩ := ha p2 cv z
          exact ⟨c3, oc3, u3, vs3, t3, e6, kk.f _ _ _ e7, e8⟩
        · exact ⟨c1, od, _, vs', t', z, hcF, e4, e5⟩
      · have x := ok b o e
        obtain ⟨u, hu⟩ := x.some
        have nbc : b ≠ c1 := ne_of_none hu nC
        exact x.stay kk (by rw [upd_ne hb, upd_ne nbc, upd_ne nbc, upd_ne hbT])
/-- x(e, ..), x a parameter that holds a lambda -/
theorem xe_callF (i : Nat) {x q : Str} {pr : Arguments} {bd : Expr} {sc : Scope} {N ps : List Str} {e : Expr} {es : List Expr} {f : Addr} {k : Nat} {p1 : Pos} (S : FnScope N ps sc) (hr : Room (k + 1) X.A) (hx : Passes (L2.CX X.prog X.w) X E) (hg : g[i]? = some (some (.p f))) (hf : W f = some (.fn q pr bd sc))
    (hbind : ∀ (pm cv ctv : Value) (us : List Value), us.length = ps.length → bindArgs (PySem.W.kla_fn "<lambda>" q pr bd sc [] pm cv ctv) ⟨us, []⟩ = pure (ps.zip us))
    (h : XA X E XC (e :: es) g W fun ds W1 => W1 f = some (.fn q pr bd sc) ∧ ds.length = ps.length ∧ ∀ (A : Around) (outer : List Env) (s : Shared) (H : Hp) (c1 : Addr), Room k (A.deeper (envOfC q sc s.heap.objs.size f (.ref c1))) →
      XE (cxOf (L2.CX X.prog X.w) X.prog X.w X.K X.mg X.base N q sc f (.ref c1) A outer s H E) E XC bd (startD N.length ds) W1 O)
    (hN : X.N[i]? = some x := by rfl) (hv : Vis X.env.scope x := by first | exact Or.inl rfl | exact Or.inr (Or.inl rfl) | exact Or.inr (Or.inr rfl)) (hd : (x == ("__debug__" : Str)) = false := by decide) (hcd : (x == ("__classdict__" : Str)) = false := by decide)
    (he : starEach (e :: es) X.env = (false, eval e X.env) :: starEach es X.env := by rfl) (hpl : (backTo pos (starEach es X.env)).any (·.1) = false := by rfl) : XE X E XC (.Call (.Name x p1) (e :: es) [] pos) g W O := by
  intro σ H r ok el Q qq pins s I
  obtain ⟨v, hs, rv⟩ := r.get i _ hg
  cases rv
  refine wpAny_Call_Name_kw (thn ((pe_var (pos := p1) (i := i) hN hv hd hcd).run pins s σ H (fun v H1 => v = .ref f ∧ H1 = H) I ⟨.ref f, hs, rfl, rfl⟩) fun u s1 ⟨v, H1, I1, r1, q1⟩ => ?_)
  obtain ⟨rfl, rfl⟩ := q1
  obtain rfl : u = Value.ref f := r1
  have at_ : ∀ {H2 : Hp} {W2 : Om} {s2 : Shared}, Inv X pins σ H2 s2 → HpOk X.K H2 W2 → W2 f = some (.fn q pr bd sc) → ∃ pm ctv c1, s2.heap.get? f = some (PySem.W.kla_obj "<lambda>" q pr bd sc [] pm c1 ctv) ∧ s2.heap.CodeRec (.ref c1) q := fun {H2 W2 s2} I2 o2 hf2 => by
    obtain ⟨pm, ctv, c1, u, oc, u2, vs, t, g1, g2, g3, g4⟩ := o2 f _ hf2
    exact ⟨pm, ctv, c1, (I2.hok f _ g1).1, c1, oc, vs, t, rfl, (I2.hok c1 _ g2).1, g3, g4⟩
  obtain ⟨_, _, _, a1, _⟩ := at_ I1 ok hf
  refine PySem.W.callWith_F ⟨_, _, _, _, a1⟩ (thn (h σ H1 r ok el (fun vs H2 => ∃ ds W2, HpOk X.K H2 W2 ∧ Kp H1 H2 ∧ RpAll X.K H2 vs ds ∧ W2 f = some (.fn q pr bd sc) ∧ ds.length = ps.length ∧ ∀ (A : Around) (outer : List Env) (s : Shared) (H : Hp) (c1 : Addr), Room k (A.deeper (envOfC q sc s.heap.objs.size f (.ref c1))) →
      XE (cxOf (L2.CX X.prog X.w) X.prog X.w X.K X.mg X.base N q sc f (.ref c1) A outer s H E) E XC bd (startD N.length ds) W2 O) (fun vs H2 ds W2 k2 o2 r2 ⟨b1, b2, b3⟩ => ⟨ds, W2, o2, k2, r2, b1, b2, b3⟩) pos pins s1 I1) fun us s2 ⟨vs, H2, I2, rv, ds, W2, o2, k2, r2, b1, b2, b3⟩ => ?_) he hpl
  obtain ⟨pm, ctv, c1, a2, a3⟩ := at_ I2 o2 b1
  refine ⟨⟨_, _, _, _, a2⟩, ?_⟩
  have hul : us.length = ps.length := by rw [← rv.length, r2.length]; exact b2
  have e0 := I2.env0
  have rc : codeAny (model X.prog X.w) X.A (.call (.ref f) ⟨us, []⟩) (CR (L2.CX X.prog X.w) X.stack X.prog X.w H2 s2 Q E) s2 := by
    have hkind : ∀ y ∈ ps.zip us, sc.names.lookup y.1 = some .local ∨ (sc.names.lookup y.1 = some .cell ∧ ((cellsFrom (s2.heap.objs.size + 1) sc.names []).lookup y.1).isSome = true) := fun ⟨n, v⟩ hy => by
      rcases S.par n (List.of_mem_zip hy).1 with z | z
      · exact .inl z
      · exact .inr ⟨z, PySem.W.cellsFrom_some _ _ _ (.inl z)⟩
    refine PySem.W.kla_callFunE hr.depth a2 rfl S.co S.gen rfl a3 ?_
    rw [hbind pm (.ref c1) ctv us hul]
    refine wpAny_pure (wpAny_newFunctionEnv_cells S.kind hkind fun env he s3 x => ?_)
    subst he
    refine ⟨I2.nolimit.keeps x.toInCall.keep, PySem.W.kla_codeExpr ?_⟩
    have J : Inv (cxOf (L2.CX X.prog X.w) X.prog X.w X.K X.mg X.base N q sc f (.ref c1) X.A X.stack s2 H2 E) [] (L2.start N vs) H2 s3 := inv_start S hr.hd e0 (by rw [r2.length]; exact b2) rv x
    refine wpAny_mono (b3 X.A X.stack s2 H2 c1 (hr.deeper _) (L2.start N vs) H2 (rpS_start r2) o2 (el.kp k2) Q (qq.kp k2) [] s3 J) (fun v s' hq => ?_) fun e s' hq => hq
    obtain ⟨w', H', J', rw', q'⟩ := hq
    exact ⟨w', H', J'.os, J'.bare, J'.base, J'.hok, rw', q'⟩
  refine wpAny_call (codeAny_mono rc fun r s' hq => ?_)
  cases r with
  | error e => exact hx pins σ H2 s2 e s' I2 hq
  | ok fl =>
    cases fl with
    | ret u => exact I2.after hq
    | next => exact False.elim hq
    | brk => exact False.elim hq
    | cont => exact False.elim hq
end
/-- a def whose code object is told -/
theorem cal_mkC {P : Program} {w : World} {K : PySem.W.Frag} {mg : Str → Option Value} {base : Heap} {x : Str} {st : Stmt} {f : Addr} {fd : FuncData} {N ps : List Str} {k : Nat} {S : SpT} (F : Fun K x x st f fd) (hm : mg x = some (.ref f)) (hb : Binds K fd ps [])
    (Sc : FnScope N ps (defScope st)) (len : ∀ ds W O XC, S ds W O XC → ds.length = ps.length)
    (body : ∀ (A : Around) (outer : List Env) (s : Shared) (H : Hp) (E : XK) (ds : List D) (W : Om) (O : OD) (XC : XCt), Room k (A.deeper (envOfC x (defScope st) s.heap.objs.size f fd.code)) → S ds W O XC →
      XB (cxOf (L2.CX P w) P w K mg base N x (defScope st) f fd.code A outer s H E) E XC (defBody st) (startD N.length ds) W { nx := fun _ W' => O .non W', rt := O }) : Cal P w K mg base (k + 1) x ps S := by
  refine ⟨f, fd, ?_, hm, F.kp, hb⟩
  obtain ⟨oc, od, kV, doc, pm, an, cdv, ct, osl, rfl, lk, hcd⟩ := F.ex
  refine fn_of lk hcd Sc (fun vs H Q E h => ?_) fun A outer s H vs Q E hr h => ?_
  · obtain ⟨ds, W, O, XC, r, _, _, _, h⟩ := h
    rw [r.length]
    exact len _ _ _ _ h
  · obtain ⟨ds, W, O, XC, r, o, el, q, h⟩ := h
    refine ⟨_, pss_W, ?_⟩
    exact body A outer s H E ds W O XC hr h { nx := fun _ H' => Q .non H', rt := Q } (L2.start N vs) H (rpS_start r) o el
      ⟨fun σ H1 g W1 k1 o1 r1 h1 => q _ H1 _ W1 k1 o1 .non h1, q, fun _ _ _ _ _ _ _ h => h.elim, fun _ _ _ _ _ _ _ h => h.elim⟩
end SR
/-! Texts in the data layer. -/
namespace SR
open PySem PySem.Spec PyProof.Rows L2
section
variable {X : Cx} {E : XK} {XC : XCt} {g : Ga} {W : Om} {a b c : Expr} {pos : Pos} {O : OD}
/-- x.split(y) -/
theorem xe_split {e : Expr} {apos : Pos} (h : XE X E XC a g W fun d W1 => ∃ x, d = .str x ∧ XE X E XC e g W1 fun d2 W2 => ∃ y, d2 = .str y ∧ (y.length == 0) = false ∧ x.length + 2 ≤ sizeLine ∧ ∀ l, W2 l = none → O (.p l) (updO W2 l (.lst ((Txt.split x y).map D.str))))
    (hs : starEach [e] X.env = [(false, eval e X.env)] := by rfl) (hbase : attributeBase a "split" X.env (eval a X.env) = eval a X.env := by rfl) (hline : (apos.endLine == pos.line) = true := by rfl) : XE X E XC (.Call (.Attribute a "split" apos) [e] [] pos) g W O := by
  refine xe_of (pe_split pe_W pe_W hs hbase hline) fun σ H r k el Q q => ?_
  refine h σ H r k el _ fun v H1 d W1 k1 o1 r1 ⟨x, e1, h1⟩ => ?_
  subst e1
  cases r1
  refine ⟨⟨x, rfl⟩, h1 σ H1 (r.kp k1) o1 (el.kp k1) _ fun v2 H2 d2 W2 k2 o2 r2 ⟨y, e2, hy, hx, h2⟩ => ?_⟩
  subst e2
  cases r2
  refine ⟨x, y, rfl, rfl, hy, hx, fun p hp => ?_⟩
  exact q _ _ _ _ ((k1.trans k2).trans (Kp.new hp)) (o2.new (o := .lst _) hp ⟨_, upd_same, RpAll.ofStrs _⟩) (.p p) (h2 p (o2.free hp))
theorem rp_strs {K : PySem.W.Frag} {H : Hp} {v : V} {d : D} {ys : List Str} (o : HpOk K H W) (r : Rp K H v d) (h : SeqD W d (ys.map D.str)) : ∃ p, v = .ref p ∧ (SqL K H p (ys.map V.str) ∨ SqT K H p (ys.map V.str)) := by
  obtain ⟨p, xs, e, hx, rx⟩ := seqD_sq o r h
  rw [rx.strs] at hx
  exact ⟨p, e, hx⟩
/-- x.join(ys) -/
theorem xe_join {e : Expr} {apos : Pos} (h : XE X E XC a g W fun d W1 => ∃ x, d = .str x ∧ XE X E XC e g W1 fun d2 W2 => ∃ ys : List Str, SeqD W2 d2 (ys.map D.str) ∧ (ys.map (·.length)).sum + ys.length * x.length ≤ 16777216 ∧ O (.str (Txt.join x ys)) W2)
    (hs : starEach [e] X.env = [(false, eval e X.env)] := by rfl) (hbase : attributeBase a "join" X.env (eval a X.env) = eval a X.env := by rfl) (hline : (apos.endLine == pos.line) = true := by rfl) : XE X E XC (.Call (.Attribute a "join" apos) [e] [] pos) g W O := by
  refine xe_of (pe_join pe_W pe_W hs hbase hline) fun σ H r k el Q q => ?_
  refine h σ H r k el _ fun v H1 d W1 k1 o1 r1 ⟨x, e1, h1⟩ => ?_
  subst e1
  cases r1
  refine ⟨⟨x, rfl⟩, h1 σ H1 (r.kp k1) o1 (el.kp k1) _ fun v2 H2 d2 W2 k2 o2 r2 ⟨ys, hy, hx, h2⟩ => ?_⟩
  obtain ⟨p, e2, hq⟩ := rp_strs o2 r2 hy
  subst e2
  exact ⟨x, p, ys, rfl, rfl, hq, hx, q _ _ _ _ (k1.trans k2) o2 (.str _) h2⟩
/-- str(i) -/
theorem xe_strI {p : Pos} (hm : X.mg "str" = none) (h : XE X E XC a g W fun d W1 => ∃ i : Int, d = .int i ∧ i.natAbs.log2 < 1920 ∧ O (.str (toString i)) W1) (hg : Gl X "str" := by rfl) (hs : starEach [a] X.env = (false, eval a X.env) :: starEach [] X.env := by rfl) (hp : (backTo pos (starEach [] X.env)).any (·.1) = false := by rfl) :
    XE X E XC (.Call (.Name "str" p) [a] [] pos) g W O := by
  refine xe_callTy call_str_int hm (by decide +kernel) (xa1 (fun σ H r k el Q q => h σ H r k el Q fun v H1 d W1 k1 o1 r1 h1 => q v H1 d W1 k1 o1 r1 ?_) hs) hg (hs := hs) (hp := hp)
  intro vs H2 Q2 r2 o2 q2
  obtain ⟨i, rfl, hl, h2⟩ := h1
  cases r2 with
  | cons rv rn =>
    cases rn; cases rv
    exact ⟨i, rfl, hl, q2 _ H2 _ W1 (Kp.refl _) o2 (.str _) h2⟩
/-- str(x) of a text -/
theorem xe_strS {p : Pos} (hm : X.mg "str" = none) (h : XE X E XC a g W fun d W1 => ∃ x : Str, d = .str x ∧ O (.str x) W1) (hg : Gl X "str" := by rfl) (hs : starEach [a] X.env = (false, eval a X.env) :: starEach [] X.env := by rfl) (hp : (backTo pos (starEach [] X.env)).any (·.1) = false := by rfl) :
    XE X E XC (.Call (.Name "str" p) [a] [] pos) g W O := by
  refine xe_callTy SkE.call_str_str hm (by decide +kernel) (xa1 (fun σ H r k el Q q => h σ H r k el Q fun v H1 d W1 k1 o1 r1 h1 => q v H1 d W1 k1 o1 r1 ?_) hs) hg (hs := hs) (hp := hp)
  intro vs H2 Q2 r2 o2 q2
  obtain ⟨i, rfl, h2⟩ := h1
  cases r2 with
  | cons rv rn =>
    cases rn; cases rv
    exact ⟨i, rfl, q2 _ H2 _ W1 (Kp.refl _) o2 (.str _) h2⟩
/-- int(text) -/
theorem xe_intS {p : Pos} (hm : X.mg "int" = none) (h : XE X E XC a g W fun d W1 => ∃ (x : Str) (n : Int), d = .str x ∧ PySem.intText? x = some n ∧ x.length ≤ 640 ∧ O (.int n) W1) (hg : Gl X "int" := by rfl) (hs : starEach [a] X.env = (false, eval a X.env) :: starEach [] X.env := by rfl) (hp : (backTo pos (starEach [] X.env)).any (·.1) = false := by rfl) :
    XE X E XC (.Call (.Name "int" p) [a] [] pos) g W O := by
  refine xe_callTy call_int_str hm (by decide +kernel) (xa1 (fun σ H r k el Q q => h σ H r k el Q fun v H1 d W1 k1 o1 r1 h1 => q v H1 d W1 k1 o1 r1 ?_) hs) hg (hs := hs) (hp := hp)
  intro vs H2 Q2 r2 o2 q2
  obtain ⟨x, n, rfl, hx, hl, h2⟩ := h1
  cases r2 with
  | cons rv rn =>
    cases rn; cases rv
    exact ⟨x, n, rfl, hx, hl, q2 _ H2 _ W1 (Kp.refl _) o2 (.int _) h2⟩
/-- int(truth value) -/
theorem xe_intB {p : Pos} (hm : X.mg "int" = none) (h : XE X E XC a g W fun d W1 => ∃ k : Bool, d = .bl k ∧ O (.int (if k then 1 else 0)) W1) (hg : Gl X "int" := by rfl) (hs : starEach [a] X.env = (false, eval a X.env) :: starEach [] X.env := by rfl) (hp : (backTo pos (starEach [] X.env)).any (·.1) = false := by rfl) :
    XE X E XC (.Call (.Name "int" p) [a] [] pos) g W O := by
  refine xe_callTy call_int1 hm (by decide +kernel) (xa1 (fun σ H r k el Q q => h σ H r k el Q fun v H1 d W1 k1 o1 r1 h1 => q v H1 d W1 k1 o1 r1 ?_) hs) hg (hs := hs) (hp := hp)
  intro vs H2 Q2 r2 o2 q2
  obtain ⟨k, rfl, h2⟩ := h1
  cases r2 with
  | cons rv rn =>
    cases rn; cases rv
    exact .inr ⟨k, rfl, q2 _ H2 _ W1 (Kp.refl _) o2 (.int _) h2⟩
/-- one sign in a text -/
theorem op2_inSign {K : PySem.W.Frag} : Op2 K (fun x y H Q => ∃ (c : Nat) (z : Str), x = .str ⟨#[c]⟩ ∧ y = .str z ∧ Q (.bl (decide (c ∈ z.cps.toList))) H) (fun d e W O => ∃ (c : Nat) (z : Str), d = .str ⟨#[c]⟩ ∧ e = .str z ∧ O (.bl (decide (c ∈ z.cps.toList))) W) := by
  intro x y d e H W O Q rx ry o q h
  obtain ⟨c, z, rfl, rfl, h⟩ := h
  cases rx; cases ry
  exact ⟨c, z, rfl, rfl, q _ H _ W (Kp.refl _) o (.bl _) h⟩
theorem xe_inSign (h : XE X E XC a g W fun d W1 => XE X E XC b g W1 fun e W2 => ∃ (c : Nat) (z : Str), d = .str ⟨#[c]⟩ ∧ e = .str z ∧ O (.bl (decide (c ∈ z.cps.toList))) W2) (hm : behindInMarks .In b = false := by with_unfolding_all rfl) : XE X E XC (.Compare a [.In] [b] pos) g W O :=
  xe_of (pe_cmpR op_in_sign pe_W pe_W hm) (ex_op op2_inSign h)
/-- a text walked -/
def signsD (x : Str) : List D := x.cps.toList.map fun c => .str ⟨#[c]⟩
theorem xi_str {tg iter : Expr} {O : List D → (Om → Prop) → Om → Prop} (h : XE X E XC iter g W fun d W1 => ∃ x, d = .str x ∧ O (signsD x) (fun _ => True) W1) : XI X E XC tg iter g W O := by
  refine ⟨_, pi_str pe_W, fun σ H r k el R q => ?_⟩
  refine h σ H r k el _ fun v H1 d W1 k1 o1 r1 ⟨x, e, h1⟩ => ?_
  subst e
  cases r1
  refine ⟨x, rfl, q _ H1 (signsD x) _ W1 k1 o1 (fun i H2 W2 k2 o2 _ => ?_) h1⟩
  have hl : (signsD x).length = x.cps.size := by unfold signsD; simp
  refine ⟨fun hi => ⟨(show i < x.cps.size by omega), fun v H' ⟨e1, c, hc, e2⟩ => ?_⟩, fun hi => (show x.cps.size ≤ i by omega)⟩
  subst e1 e2
  refine ⟨Kp.refl _, o2, .str ⟨#[c]⟩, ?_, .str _⟩
  unfold signsD
  rw [List.getElem?_map, Array.getElem?_toList, hc] <;> rfl
theorem RpAll.rev {K : PySem.W.Frag} {H : Hp} : ∀ {vs : List V} {ds : List D}, RpAll K H vs ds → RpAll K H vs.reverse ds.reverse
  | _, _, .nil => .nil
  | _, _, .cons h r => by
    rw [List.reverse_cons, List.reverse_cons]
    exact (RpAll.rev r).append (.cons h .nil)
/-- xs[::-1] -/
theorem xe_rev {k : Nat} {p1 p2 p3 : Pos} (h : XE X E XC a g W fun d W1 => ∃ l xs, d = .p l ∧ W1 l = some (.lst xs) ∧ ∀ p, W1 p = none → O (.p p) (updO W1 p (.lst xs.reverse))) : XE X E XC (.Subscript a (.Slice none none (some (.UnaryOp .USub (.Constant (.int 1) k p1) p2)) p3) pos) g W O := by
  refine xe_of (pe_revL pe_W) fun σ H r k el Q q => ?_
  refine h σ H r k el _ fun v H1 d W1 k1 o1 r1 ⟨l, xs, e, hl, h1⟩ => ?_
  subst e
  cases r1
  obtain ⟨zs, hz, rz⟩ := o1 l _ hl
  refine ⟨l, zs, rfl, .of hz, fun p hp => ?_⟩
  refine q _ _ _ _ (k1.trans (Kp.new hp)) (o1.new (o := .lst xs.reverse) hp ⟨_, upd_same, ?_⟩) (.p p) (h1 p (o1.free hp))
  exact (RpAll.rev rz).kp (Kp.new hp)
/-- xs.extend(ys) -/
theorem xe_extend {e : Expr} {apos : Pos} (h : XE X E XC a g W fun d W1 => ∃ l xs, d = .p l ∧ W1 l = some (.lst xs) ∧ XE X E XC e g W1 fun y W2 => ∃ m ys zs, y = .p m ∧ W2 l = some (.lst ys) ∧ W2 m = some (.lst zs) ∧ ys.length + zs.length ≤ sizeLine ∧ O .non (updO W2 l (.lst (ys ++ zs))))
    (hbase : attributeBase a "extend" X.env (eval a X.env) = eval a X.env := by rfl)
    (hfew : ((backTo pos (starEach [e] X.env)).all (fun x => !x.1) && (backToKw pos (keywordEach [] X.env)).all (fun x => x.1.isSome) && decide ([e].length + ([] : List Keyword).length + (if ([] : List Keyword).isEmpty then 0 else 1) < 30)) = true := by rfl)
    (hline : (apos.endLine == pos.line) = true := by rfl) (hs : starEach [e] X.env = (false, eval e X.env) :: starEach [] X.env := by rfl) (hplain : (backTo pos (starEach [] X.env)).any (·.1) = false := by rfl) :
    XE X E XC (.Call (.Attribute a "extend" apos) [e] [] pos) g W O := by
  refine xe_of (pe_bm PySem.F.plainAttrs_list PySem.F.slot_list_extend PySem.F.type_list_extend mt_extend pe_W (pa_cons pe_W pa_nil hs) hbase hfew hline hs hplain) fun σ H r k el Q q => ?_
  refine h σ H r k el _ fun v H1 d W1 k1 o1 r1 ⟨l, xs, e1, hl, h1⟩ => ?_
  subst e1
  cases r1
  obtain ⟨zs0, hz, _⟩ := o1 l _ hl
  refine ⟨.inl ⟨rfl, zs0, .of hz⟩, h1 σ H1 (r.kp k1) o1 (el.kp k1) _ fun y H2 d2 W2 k2 o2 r2 ⟨m, ys, zs, e2, hy, hm, hlen, h2⟩ => ?_⟩
  subst e2
  cases r2
  obtain ⟨us, hu, ru⟩ := o2 l _ hy
  obtain ⟨ws, hw, rw⟩ := o2 m _ hm
  have kk : Kp H2 (upd H2 l (.lst (us ++ ws))) := Kp.at hu (fun _ z => by cases z) (fun _ _ z => by cases z)
  refine ⟨l, m, us, ws, rfl, rfl, hu, hw, by rw [ru.length, rw.length]; exact hlen, ?_⟩
  exact q _ _ _ _ ((k1.trans k2).trans kk) (o2.set kk (o := .lst (ys ++ zs)) ⟨_, upd_same, (ru.append rw).kp kk⟩) .non h2
end
end SR
/-! A token is out: texts replaced; a list unpacked with a star. -/
namespace SR
open PySem PySem.Spec PyProof.Rows L2
/-! ### the readings where a token is out -/
def tWt (X : Cx) (e : Expr) : TE := fun σ H Q => ∀ (pins : List (Addr × Obj)) (s : Shared), 1 ≤ s.toks → Inv X pins σ H s → wpAny (model X.prog X.w) X.A (eval e X.env) (EP X pins σ Q) X.xe s
def taWt (X : Cx) (es : List Expr) : TA := fun σ H Q => ∀ (pos : Pos) (pins : List (Addr × Obj)) (s : Shared), 1 ≤ s.toks → Inv X pins σ H s → wpAny (model X.prog X.w) X.A (spliced (backTo pos (starEach es X.env))) (AP X pins σ Q) X.xe s
def tsWt (X : Cx) (st : Stmt) : TS := fun D σ H => ∀ (pins : List (Addr × Obj)) (s : Shared), 1 ≤ s.toks → Inv X pins σ H s → wpAny (model X.prog X.w) X.A (exec st X.env) (SP X pins D) X.xe s
def tssWt (X : Cx) (st : List Stmt) : TS := fun D σ H => ∀ (pins : List (Addr × Obj)) (s : Shared), 1 ≤ s.toks → Inv X pins σ H s → wpAny (model X.prog X.w) X.A (execs st X.env) (SP X pins D) X.xe s
def XEt (X : Cx) (E : XK) (XC : XCt) (e : Expr) (g : Ga) (W : Om) (O : OD) : Prop := Ex X.K E XC (tWt X e) g W O
def XAt (X : Cx) (E : XK) (XC : XCt) (es : List Expr) (g : Ga) (W : Om) (O : List D → Om → Prop) : Prop := ExA X.K E XC (taWt X es) g W O
def XSt (X : Cx) (E : XK) (XC : XCt) (st : Stmt) (g : Ga) (W : Om) (C : EndD) : Prop := Do X.K E XC (tsWt X st) g W C
def XBt (X : Cx) (E : XK) (XC : XCt) (st : List Stmt) (g : Ga) (W : Om) (C : EndD) : Prop := Do X.K E XC (tssWt X st) g W C
section
variable {X : Cx} {E : XK} {XC : XCt} {g : Ga} {W : Om} {a b c : Expr} {pos : Pos} {O : OD} {C : EndD}
theorem pet_W {e : Expr} : PET X e (tWt X e) := fun pins s σ H Q h I q => q pins s h I
theorem pat_W {es : List Expr} : PAT X es (taWt X es) := fun pos pins s σ H Q h I q => q pos pins s h I
theorem xet_of {e : Expr} {t : TE} (h : PET X e t) (x : Ex X.K E XC t g W O) : XEt X E XC e g W O := fun σ H r k el Q q pins s hs I => h pins s σ H Q hs I (x σ H r k el Q q)
theorem xat_of {es : List Expr} {t : TA} {O : List D → Om → Prop} (h : PAT X es t) (x : ExA X.K E XC t g W O) : XAt X E XC es g W O := fun σ H r k el Q q pos pins s hs I => h pos pins s σ H Q hs I (x σ H r k el Q q)
theorem xet_xe {e : Expr} (h : XE X E XC e g W O) : XEt X E XC e g W O := fun σ H r k el Q q pins s _ I => h σ H r k el Q q pins s I
theorem xst_xs {st : Stmt} (h : XS X E XC st g W C) : XSt X E XC st g W C := fun D σ H r k el l pins s _ I => h D σ H r k el l pins s I
theorem xbt_xb {st : List Stmt} (h : XB X E XC st g W C) : XBt X E XC st g W C := fun D σ H r k el l pins s _ I => h D σ H r k el l pins s I
theorem xat_nil {O : List D → Om → Prop} (h : O [] W) : XAt X E XC [] g W O := xat_of pat_nil fun σ H r k el Q q => q [] H [] W (Kp.refl H) k .nil h
theorem xat_cons {e : Expr} {es : List Expr} {O : List D → Om → Prop} (h : XEt X E XC e g W fun d W1 => XAt X E XC es g W1 fun ds W2 => O (d :: ds) W2)
    (hs : starEach (e :: es) X.env = (false, eval e X.env) :: starEach es X.env := by rfl) : XAt X E XC (e :: es) g W O := by
  refine xat_of (pat_cons pet_W pat_W hs) fun σ H r k el Q q => ?_
  refine h σ H r k el _ fun v H1 d W1 k1 o1 r1 h1 => ?_
  refine h1 σ H1 (r.kp k1) o1 (el.kp k1) _ fun vs H2 ds W2 k2 o2 r2 h2 => ?_
  exact q _ H2 _ W2 (k1.trans k2) o2 (.cons (r1.kp k2) r2) h2
theorem xbt_cons {st : Stmt} {rest : List Stmt} (h : XSt X E XC st g W { C with nx := fun g1 W1 => XBt X E XC rest g1 W1 C }) : XBt X E XC (st :: rest) g W C := by
  intro D σ H r k el l pins s hs I
  refine psst_cons (t := tsWt X st) (u := tssWt X rest) (fun pins s σ H D h I q => q pins s h I) (fun pins s σ H D h I q => q pins s h I) pins s σ H D hs I ?_
  refine h _ σ H r k el ⟨?_, l.rt, l.bk, l.ct⟩
  intro σ1 H1 g1 W1 k1 o1 r1 h1
  exact h1 D σ1 H1 r1 o1 (el.kp k1) (l.kp k1)
theorem xbt_one {st : Stmt} (h : XSt X E XC st g W C) : XBt X E XC [st] g W C := by
  intro D σ H r k el l pins s hs I
  exact psst_cons (t := tsWt X st) (u := tNext) (fun pins s σ H D h I q => q pins s h I) (PSsT.of pss_nil) pins s σ H D hs I (h D σ H r k el l)
/-- a statement that is an expression -/
theorem xst_expr {e : Expr} (h : XEt X E XC e g W fun _ W1 => C.nx g W1) (hs : swapsWith e none pos.line X.env = pure false := by rfl) : XSt X E XC (.Expr e pos) g W C := by
  intro D σ H r k el l pins s h0 I
  refine wpAny_Expr_any (thn (h σ H r k el (fun _ H1 => D.nx σ H1) (fun v H1 d W1 k1 o1 r1 h1 => l.nx σ H1 g W1 k1 o1 (r.kp k1) h1) pins s h0 I) fun v s1 hv => ?_) I.quiet hs
  obtain ⟨x, H1, I1, r1, q1⟩ := hv
  exact ⟨σ, H1, I1, q1⟩
/-- x = e -/
theorem xst_set (i : Nat) {x : Str} {e : Expr} {pos' : Pos} (hN : X.N.Nodup) (h : XEt X E XC e g W fun d W1 => C.nx (g.set i (some d)) W1) (hi : X.N[i]? = some x := by rfl) (hx : Loc X.env.scope x := by first | exact .inl rfl | exact .inr rfl)
    (hs : swapsWith e (some (.Name x pos')) pos.line X.env = pure false := by rfl) (hf : X.fn x = true ∨ X.env.scope.names.lookup x = some .local := by first | exact .inl rfl | exact .inr rfl) : XSt X E XC (.Assign [.Name x pos'] e pos) g W C := by
  intro D σ H r k el l pins s h0 I
  refine wpAny_Assign_Name (thn (h σ H r k el (fun v H1 => D.nx (σ.set i (some v)) H1) (fun v H1 d W1 k1 o1 r1 h1 => l.nx _ H1 _ W1 k1 o1 ((r.kp k1).set i r1) h1) pins s h0 I) fun v s1 hv => ?_) hs
  obtain ⟨y, H1, I1, r1, q1⟩ := hv
  exact store_ok I1 hN hi hx r1 (fun s2 I2 => ⟨_, H1, I2, q1⟩) hf
/-- x.replace(y, z) of written texts -/
theorem xet_repl {y z : Str} {j k : Nat} {c0 c1 apos : Pos} (h : XE X E XC a g W fun d W1 => ∃ x, d = .str x ∧ x.length + (x.length + 1) * z.length ≤ 16777216 ∧ O (.str (Txt.replace x y z)) W1) (hyz : (y == z) = false := by decide)
    (hst : starEach [.Constant (.str y) j c0, .Constant (.str z) k c1] X.env = [(false, eval (.Constant (.str y) j c0) X.env), (false, eval (.Constant (.str z) k c1) X.env)] := by rfl)
    (hbase : attributeBase a "replace" X.env (eval a X.env) = eval a X.env := by rfl) (hline : (apos.endLine == pos.line) = true := by rfl) :
    XEt X E XC (.Call (.Attribute a "replace" apos) [.Constant (.str y) j c0, .Constant (.str z) k c1] [] pos) g W O := by
  refine xet_of (CwR.pet_replC pe_W hyz hst hbase hline) fun σ H r k el Q q => ?_
  refine h σ H r k el _ fun v H1 d W1 k1 o1 r1 ⟨x, e1, hx, h1⟩ => ?_
  subst e1
  cases r1
  exact ⟨x, rfl, hx, q _ _ _ _ k1 o1 (.str _) h1⟩
/-- T(e) where e wants a token -/
theorem xet_callTy {x : Str} {T : String} {e : Expr} {es : List Expr} {p : Pos} {r : List V → Hp → VK → Prop} (hc : CallR X (.type T) r) (hm : X.mg x = none) (hv : bootBuiltins x = some (.type T))
    (h : XAt X E XC (e :: es) g W fun ds W1 => ∀ vs H1 Q, RpAll X.K H1 vs ds → HpOk X.K H1 W1 → QL X.K H1 O Q → r vs H1 Q) (hg : Gl X x := by rfl) (hn : x ≠ "__name__" := by decide) (hdb : (x == ("__debug__" : Str)) = false := by decide)
    (hs : starEach (e :: es) X.env = (false, eval e X.env) :: starEach es X.env := by rfl) (hp : (backTo pos (starEach es X.env)).any (·.1) = false := by rfl) : XEt X E XC (.Call (.Name x p) (e :: es) [] pos) g W O := by
  intro σ H r0 k el Q q pins s h0 I
  refine wpAny_Call_Name_kw (ld_blt I hg hm hv ?_ hn hdb)
  refine PyProof.Rows.callWith_type1 (thn (h σ H r0 k el (fun vs H1 => r vs H1 Q) (fun vs H1 ds W1 k1 o1 r1 h1 => h1 vs H1 Q r1 o1 (q.kp k1)) pos pins s h0 I) fun us s1 hu => ?_) hs hp
  obtain ⟨vs, H1, I1, r1, q1⟩ := hu
  exact hc pins s1 σ H1 vs us Q I1 r1 q1
theorem xet_intS {p : Pos} {e : Expr} (hm : X.mg "int" = none) (h : XEt X E XC e g W fun d W1 => ∃ (x : Str) (n : Int), d = .str x ∧ PySem.intText? x = some n ∧ x.length ≤ 640 ∧ O (.int n) W1) (hg : Gl X "int" := by rfl) (hs : starEach [e] X.env = (false, eval e X.env) :: starEach [] X.env := by rfl) (hp : (backTo pos (starEach [] X.env)).any (·.1) = false := by rfl) :
    XEt X E XC (.Call (.Name "int" p) [e] [] pos) g W O := by
  refine xet_callTy call_int_str hm (by decide +kernel) (xat_cons (fun σ H r k el Q q => h σ H r k el Q fun v H1 d W1 k1 o1 r1 h1 => q v H1 d W1 k1 o1 r1 (xat_nil ?_)) hs) hg (hs := hs) (hp := hp)
  intro vs H2 Q2 r2 o2 q2
  obtain ⟨x, n, rfl, hx, hl, h2⟩ := h1
  cases r2 with
  | cons rv rn =>
    cases rn; cases rv
    exact ⟨x, n, rfl, hx, hl, q2 _ H2 _ W1 (Kp.refl _) o2 (.int _) h2⟩
/-- o.m(e, ..) where an argument wants a token -/
theorem xet_meth {k : Nat} {C : Addr} {m : Str} {ps : List Str} {S : SpT} {e : Expr} {es : List Expr} {apos : Pos} {pl : Sem Bool} (cl : Cls X.K C) (c : CalM X.prog X.w X.K X.mg X.base k C m ps S) (hr : Room k X.A) (hx : Passes (L2.CX X.prog X.w) X E)
    (h : XE X E XC a g W fun d W1 => ∃ l dx fs, d = .p l ∧ W1 l = some (.ins C dx fs) ∧ fs.lookup m = none ∧ XAt X E XC (e :: es) g W1 fun ds W2 => S (.p l :: ds) W2 O XC)
    (hst : starEach (e :: es) X.env = (false, eval e X.env) :: starEach es X.env := by rfl) (hpl : (backTo pos (starEach es X.env)).any (·.1) = false := by rfl)
    (ht : eval (.Call (.Attribute a m apos) (e :: es) [] pos) X.env = (do
      let ov ← eval a X.env
      standAt apos.atName
      let (f, first) ← holding [ov] (getMethod ov m pl)
      callWith pos f first (backTo pos (starEach (e :: es) X.env)) (backToKw pos (keywordEach [] X.env))) := by rfl) : XEt X E XC (.Call (.Attribute a m apos) (e :: es) [] pos) g W O := by
  obtain ⟨f, fd, F, hm, hb⟩ := c.ex
  intro σ H r k el Q q pins s h0 I
  have h9 := h σ H r k el (fun v H1 => ∃ l dx gs, v = .ref l ∧ H1 l = some (.ins C dx gs) ∧ gs.lookup m = none ∧ taWt X (e :: es) σ H1 fun vs H2 => SpD X.K S (.ref l :: vs) H2 Q E) (fun v H1 d W1 k1 o1 r1 h8 => ?_) pins s I
  · refine PySem.W.methodCall_KW (pl := pl) (wpAny_mono (PySem.wpAny_toks h9) (fun u s1 hu => ?_) fun _ _ z => z.2) ht
    obtain ⟨hk, y, H1, I1, rx, l, dx, gs, ey, ea, hl, q1⟩ := hu
    subst ey
    obtain rfl : u = Value.ref l := rx
    refine getmeth_ok I1 ea cl hm hl ?_
    refine PySem.W.callWith_K (first := [.ref l]) (h₀ := X.base) I.ok.mod.kin hm.kp (thn (q1 pos pins s1 (Nat.le_trans h0 hk) I1) fun us s2 hz => ?_) hst hpl
    obtain ⟨vs, H2, I2, rz, q2⟩ := hz
    exact ⟨I2.kIn, run_fn (us := .ref l :: us) (vs := .ref l :: vs) F hr hb .nil hx I2 (.cons rfl rz) (by rw [List.append_nil]; exact q2)⟩
  · obtain ⟨l, dx, fs, e1, hl, hn, h1⟩ := h8
    subst e1
    cases r1
    obtain ⟨gs, hg, fr⟩ := o1 l _ hl
    refine ⟨l, dx, gs, rfl, hg, fr.no hn, h1 σ H1 (r.kp k1) o1 (el.kp k1) _ fun vs H2 ds W2 k2 o2 r2 h2 => ?_⟩
    exact ⟨.p l :: ds, W2, O, XC, .cons (.p l) r2, o2, (el.kp k1).kp k2, (q.kp k1).kp k2, h2⟩
/-- for, a token out within -/
theorem pst_forT {tg iter : Expr} {body : List Stmt} {wi : TI} {g : TG} {tb : TS} {pos : Pos} (hp : PassesOwn (model X.prog X.w) X.A X.env X.xe) (hc : X.calm = true) (hi : PI X tg iter wi) (hg : PG X tg g) (hb : PSsT X body tb)
    (hs : ∀ x, foldedSetIterable iter X.env x = pure x := by intro _; rfl) : PST X (.For tg iter body [] pos) (tFor wi g tb) := by
  intro pins s σ H D h0 I h
  refine wpAny_For (wpAny_mono (PySem.wpAny_toks_of h0 (hi.run pins s σ H _ I h)) (fun v s1 h1 => wpAny_mono (PySem.wpAny_toks_of h1.1 h1.2) (fun itv s2 h2 => ?_) fun _ _ z => z.2) fun _ _ z => z.2) hs
  obtain ⟨t2, it, fp, tn, J, H2, e, I2, T, st2, f2, W, ⟨m0, w0⟩, turn⟩ := h2
  subst e
  have stat : ∀ {H' : Hp}, (∀ b ∈ fp, H' b = none) → ∀ b ∈ fp, FpOk X pins H' b := fun hn b hb => ⟨hn b hb, (f2 b hb).2⟩
  refine codeAny_forLoop_any (fun n s' => 1 ≤ s'.toks ∧ ∃ i σ' H', Inv X pins σ' H' s' ∧ tn i s'.heap ∧ (∀ b ∈ fp, H' b = none) ∧ W i n σ' H') ?_ m0 ⟨t2, 0, σ, H2, I2, st2, fun b hb => (f2 b hb).1, w0⟩
  rintro n s3 ⟨t3, i, σ3, H3, I3, st3, fr3, w3⟩
  rcases turn i n σ3 H3 w3 with ⟨stop, qn⟩ | ⟨go, N, hN, step⟩
  · refine wpAny_passesOwn hp (thn (T.done X rfl rfl rfl hc i pins s3 σ3 H3 X.xe I3 (stat fr3) st3 stop) fun r s4 hz => ?_)
    obtain ⟨hr, I4⟩ := hz
    subst hr
    exact wpAny_execs_nil ⟨σ3, H3, I4, qn⟩
  · refine wpAny_passesOwn hp (wpAny_mono (PySem.wpAny_toks_of t3 (T.item X rfl rfl rfl hc i pins s3 σ3 H3 X.xe I3 (stat fr3) st3 go)) (fun r s4 hz => ?_) fun _ _ z => z.2)
    obtain ⟨t4, u, hr, h4⟩ := hz
    subst hr
    refine wpAny_passesOwn hp (wpAny_mono (PySem.wpAny_toks_of t4 h4) (fun _ s5 hz => ?_) fun _ _ z => z.2)
    obtain ⟨t5, x, H5, I5, r5, y5, st5, fr5⟩ := hz
    have I5' := I5.pinned (stat fr5) (T.obj _ _ st5)
    refine wpAny_passesOwn hp (wpAny_mono (PySem.wpAny_toks_of t5 (hg.run _ s5 σ3 H5 x u _ I5' r5 (step x H5 y5))) (fun _ s6 hz => ?_) fun _ _ z => z.2)
    obtain ⟨t6, σ6, H6, I6, q6⟩ := hz
    refine wpAny_passesOwn hp (wpAny_mono (PySem.wpAny_toks_of t6 (hb _ s6 σ6 H6 _ t6 I6 q6)) (fun f s7 hz => ?_) fun _ _ z => z.2)
    obtain ⟨t7, q7⟩ := hz
    have again : ∀ {σ7 : St} {H7 : Hp}, Inv X (pins ++ pinsAt fp s5.heap) σ7 H7 s7 → N σ7 H7 → ∃ m, m < n ∧ 1 ≤ s7.toks ∧ ∃ i σ' H', Inv X pins σ' H' s7 ∧ tn i s7.heap ∧ (∀ b ∈ fp, H' b = none) ∧ W i m σ' H' := by
      intro σ7 H7 I7 n7
      obtain ⟨m', hm, w7⟩ := hN σ7 H7 n7
      have held : ∀ b ∈ fp, ∀ o, s5.heap.get? b = some o → s7.heap.get? b = some o ∧ H7 b = none := fun b hb o e =>
        have z := I7.pin (b, o) (List.mem_append_right _ (List.mem_append_right _ (mem_pinsAt hb e)))
        ⟨z.1, z.2.1⟩
      refine ⟨m', hm, t7, i + 1, σ7, H7, I7.unpinned, T.keep _ _ _ st5 (fun b hb o e => (held b hb o e).1), fun b hb => ?_, w7⟩
      obtain ⟨o, e, _⟩ := T.obj _ _ st5 b hb
      exact (held b hb o e).2
    cases f with
    | next => obtain ⟨σ7, H7, I7, n7⟩ := q7; exact again I7 n7
    | cont => obtain ⟨σ7, H7, I7, n7⟩ := q7; exact again I7 n7
    | brk => obtain ⟨σ7, H7, I7, q7⟩ := q7; exact ⟨σ7, H7, I7.unpinned, q7⟩
    | ret v => obtain ⟨x7, σ7, H7, I7, r7, q7⟩ := q7; exact ⟨x7, σ7, H7, I7.unpinned, r7, q7⟩
theorem xst_for {tg iter : Expr} {body : List Stmt} (I : Nat → Ga → Om → Prop)
    (h : XI X E XC tg iter g W fun ds ok W1 => I 0 g W1 ∧ (∀ i g' W', I i g' W' → ok W') ∧
      (∀ i d g' W', ds[i]? = some d → I i g' W' → XG X tg d g' W' fun g2 W2 => XBt X E XC body g2 W2 { C with nx := I (i + 1), ct := I (i + 1), bk := C.nx }) ∧ (∀ g' W', I ds.length g' W' → C.nx g' W'))
    (hp : PassesOwn (model X.prog X.w) X.A X.env X.xe := by exact PassesOwn.never) (hc : X.calm = true := by rfl) (hs : ∀ x, foldedSetIterable iter X.env x = pure x := by intro _; rfl) : XSt X E XC (.For tg iter body [] pos) g W C := by
  obtain ⟨wi, hi, hw⟩ := h
  intro D σ H r k el l pins s h0 I0
  refine pst_forT hp hc hi pg_W (tb := tssWt X body) (fun pins s σ H D h I q => q pins s h I) hs pins s σ H D h0 I0 ?_
  refine hw σ H r k el _ fun J H1 ds ok W1 k1 o1 it ⟨hI0, hok, hturn, hend⟩ => ?_
  refine ⟨fun i m σ H => m = ds.length - i ∧ i ≤ ds.length ∧ ∃ g' W', Kp H1 H ∧ HpOk X.K H W' ∧ RpS X.K H σ g' ∧ I i g' W', ⟨ds.length, rfl, Nat.zero_le _, g, W1, Kp.refl _, o1, r.kp k1, hI0⟩, ?_⟩
  rintro i m σ2 H2 ⟨rfl, hil, g', W', k2, o2, r2, hI⟩
  obtain ⟨hgo, hst⟩ := it i H2 W' k2 o2 (hok i g' W' hI)
  by_cases hlt : i < ds.length
  · obtain ⟨go, hy⟩ := hgo hlt
    refine .inr ⟨go, fun σ3 H3 => ∃ g3 W3, Kp H1 H3 ∧ HpOk X.K H3 W3 ∧ RpS X.K H3 σ3 g3 ∧ I (i + 1) g3 W3, fun σ3 H3 h3 => ⟨ds.length - (i + 1), by omega, rfl, hlt, h3⟩, fun x H' y => ?_⟩
    obtain ⟨k3, o3, d, hd, rx⟩ := hy x H' y
    refine hturn i d g' W' hd hI x σ2 H' (r2.kp k3) o3 rx _ fun σ4 H4 g4 W4 k4 o4 r4 h4 => ?_
    have kk : Kp H H4 := ((k1.trans k2).trans k3).trans k4
    refine h4 _ σ4 H4 r4 o4 (el.kp kk) ⟨fun σ5 H5 g5 W5 k5 o5 r5 h5 => ⟨g5, W5, ((k2.trans k3).trans k4).trans k5, o5, r5, h5⟩, l.rt.kp kk, l.nx.kp kk, fun σ5 H5 g5 W5 k5 o5 r5 h5 => ⟨g5, W5, ((k2.trans k3).trans k4).trans k5, o5, r5, h5⟩⟩
  · have e : i = ds.length := by omega
    subst e
    exact .inl ⟨hst (Nat.le_refl _), l.nx σ2 H2 g' W' (k1.trans k2) o2 r2 (hend g' W' hI)⟩
end
/-! ### a def with a parameter: a token is out when it begins -/
theorem cal_mkT {P : Program} {w : World} {K : PySem.W.Frag} {mg : Str → Option Value} {base : Heap} {x : Str} {st : Stmt} {f : Addr} {fd : FuncData} {N ps : List Str} {k : Nat} {S : SpT} (F : Fun K x x st f fd) (hm : mg x = some (.ref f)) (hb : Binds K fd ps [])
    (Sc : FnScope N ps (defScope st)) (hnc : ∀ y ∈ (defScope st).names, y.2 ≠ .cell) (hps : 1 ≤ ps.length) (len : ∀ ds W O XC, S ds W O XC → ds.length = ps.length)
    (body : ∀ (cdv : Value) (A : Around) (outer : List Env) (s : Shared) (H : Hp) (E : XK) (ds : List D) (W : Om) (O : OD) (XC : XCt), Room k (A.deeper (envOfC x (defScope st) s.heap.objs.size f cdv)) → S ds W O XC →
      XBt (cxOf (L2.CX P w) P w K mg base N x (defScope st) f cdv A outer s H E) E XC (defBody st) (startD N.length ds) W { nx := fun _ W' => O .non W', rt := O }) : Cal P w K mg base (k + 1) x ps S := by
  refine ⟨f, fd, ?_, hm, F.kp, hb⟩
  obtain ⟨oc, od, kV, doc, pm, an, cdv, ct, osl, rfl, lk, hcd⟩ := F.ex
  refine fn_ofT lk hcd Sc hnc hps (fun vs H Q E h => ?_) (fun A outer s H vs Q E hr h => ?_)
  · obtain ⟨ds, W, O, XC, r, _, _, _, h⟩ := h
    rw [r.length]
    exact len _ _ _ _ h
  · obtain ⟨ds, W, O, XC, r, o, el, q, h⟩ := h
    refine ⟨tssWt _ _, fun pins s σ H D h I q => q pins s h I, ?_⟩
    exact body cdv A outer s H E ds W O XC hr h { nx := fun _ H' => Q .non H', rt := Q } (L2.start N vs) H (rpS_start r) o el
      ⟨fun σ H1 g W1 k1 o1 r1 h1 => q _ H1 _ W1 k1 o1 .non h1, q, fun _ _ _ _ _ _ _ h => h.elim, fun _ _ _ _ _ _ _ h => h.elim⟩
/-! ### x, y, *z = a list -/
section
variable {prog : Program} {w : World} {A : Around} {E : Value → Shared → Prop} {s : Shared}
theorem star_last {l : Addr} {items : Array Value} {i : Nat} {Q : List Value → Shared → Prop} (hl : s.heap.IsList l items) (hh : A.handled = none) (hi : i ≤ items.size) (hz : items.size ≤ 16384)
    (h : ∀ (h' : Heap) (tk : Nat), (∀ b o, s.heap.get? b = some o → h'.get? b = some o) → Q (items.toList.take i ++ [.ref h'.objs.size]) { s with heap := h'.push { cls := .type "list", data := .seq (items.toList.drop i).toArray }, toks := tk }) :
    wpAny (model prog w) A (unpackItems (.ref l) (i + 1) (some i)) Q E s := by
  have hll : l < s.heap.objs.size := by obtain ⟨o, ho, _⟩ := hl; exact Heap.lt_size ho
  have hlt : l ≠ s.heap.objs.size := Nat.ne_of_lt hll
  unfold unpackItems notIterableAtAll
  refine wpAny_bind (wpAny_bind (wpAny_specialOf hl.typeIs slot_list_iter.lookup (wpAny_pure ?_)))
  simp only [Bool.false_eq_true, if_false]
  refine wpAny_bind (wpAny_holding (wpAny_pyIter_list hl (wpAny_bind (wpAny_holding (PySem.W.kun_draw hlt i 0 _ _ ⟨_, Heap.get?_push_size _ rfl, rfl, rfl⟩ (hl.push _) (by omega) fun h₁ hit₁ hs₁ => ?_)))))
  have hl₁ : h₁.IsList l items := (hl.push _).extBut hs₁.extBut hlt
  rw [Nat.zero_add] at hit₁
  have hit2 := hit₁; have hl2 := hl₁
  obtain ⟨oi, hoi, _⟩ := hit2
  obtain ⟨ol, hol, _⟩ := hl2
  have hfl : (items.toList.take i).length = i := by rw [List.length_take, Array.length_toList]; omega
  rw [List.drop_zero, if_neg (by rw [hfl]; omega)]
  refine wpAny_bind (wpAny_holding (PySem.W.kun_collect (s := { s with heap := h₁ }) (T := "list_iterator") (.inr (.inr (.inl rfl))) (Walks.list (A := A.in1) hh s.heap.objs.size l hlt items) (fun j u st => st.1.typeIs) (k := i) hi ⟨hit₁, hl₁⟩ (Heap.lt_size hoi) (Heap.lt_size hol) (fun h₂ tk hk => ?_) (by rw [sizeLine_eq]; omega)))
  have keep : ∀ b o, s.heap.get? b = some o → h₂.get? b = some o := fun b o e =>
    have hb : b ≠ s.heap.objs.size := Nat.ne_of_lt (Heap.lt_size e)
    hk b o hb (hs₁.extBut b o hb (Heap.get?_push_of_some _ e))
  have e0 : i + 1 - 1 - i = 0 := by omega
  show wpAny _ _ (if (items.toList.drop i).length < i + 1 - 1 - i then _ else _) _ _ _
  rw [if_neg (by rw [e0]; omega)]
  show wpAny _ _ (newList ((items.toList.drop i).take ((items.toList.drop i).length - (i + 1 - 1 - i))) >>= fun d => pure (items.toList.take i ++ [d] ++ (items.toList.drop i).drop ((items.toList.drop i).length - (i + 1 - 1 - i)))) _ _ _
  rw [e0, Nat.sub_zero, List.take_length, List.drop_length]
  refine wpAny_bind (wpAny_newList (wpAny_pure ?_) (by rw [List.length_drop, Array.length_toList, sizeLine_eq]; omega))
  rw [List.append_nil]
  exact h h₂ tk keep
end
section
variable {X : Cx} {g : Ga} {W : Om} {pos : Pos}
/-- x, y, *z = a list of texts -/
theorem xg_star3 (i j m : Nat) {x y z : Str} {px py pz ps : Pos} {k : Nat} {l : Addr} {d0 d1 : D} {ds : List D} {O : Ga → Om → Prop} (hN : X.N.Nodup) (hl : W l = some (.lst (d0 :: d1 :: ds))) (hz : ds.length ≤ 1000)
    (h : ∀ q, W q = none → O (((g.set i (some d0)).set j (some d1)).set m (some (.p q))) (updO W q (.lst ds))) (hc : X.calm = true := by rfl) (hi : X.N[i]? = some x := by rfl) (hj : X.N[j]? = some y := by rfl) (hm : X.N[m]? = some z := by rfl)
    (hx : Loc X.env.scope x := by first | exact .inl rfl | exact .inr rfl) (hy : Loc X.env.scope y := by first | exact .inl rfl | exact .inr rfl) (hzl : Loc X.env.scope z := by first | exact .inl rfl | exact .inr rfl)
    (hfx : X.fn x = true ∨ X.env.scope.names.lookup x = some .local := by first | exact .inl rfl | exact .inr rfl) (hfy : X.fn y = true ∨ X.env.scope.names.lookup y = some .local := by first | exact .inl rfl | exact .inr rfl) (hfz : X.fn z = true ∨ X.env.scope.names.lookup z = some .local := by first | exact .inl rfl | exact .inr rfl) :
    XG X (.Tuple [.Name x px, .Name y py, .Starred (.Name z pz) ps] k pos) (.p l) g W O := by
  intro v σ H r o rv Q q pins s u I ru
  cases rv
  cases ru
  obtain ⟨xs, hxs, rx⟩ := o l _ hl
  have hlen := rx.length
  obtain ⟨its, rvv, pl, hsz⟩ := I.list (.inl (.inl hxs))
  have hli : s.heap.IsList l its.toArray := by
    obtain ⟨ob, n, e, c, d, q⟩ := pl
    exact ⟨ob, e, c, n, q⟩
  have hil : its.length = ds.length + 2 := by rw [← rvv.length, hlen]; rfl
  rw [PyProof.Rows.assign_Tuple]
  refine wpAny_bind (wpAny_standAt ?_)
  show wpAny _ _ (unpack (.ref l) [(false, assign (.Name x px) X.env), (false, assign (.Name y py) X.env), (true, assign (.Name z pz) X.env)]) _ _ _
  unfold unpack
  refine wpAny_bind (wpAny_holding ?_)
  show wpAny _ _ (unpackItems (.ref l) (2 + 1) (some 2)) _ _ _
  refine star_last hli (I.ok.hd hc) (by simp; omega) (by simp; omega) fun h' tk keep => ?_
  match its, xs, rvv, rx, hil with
  | [], _, _, _, hil => simp at hil
  | [_], _, _, _, hil => simp at hil
  | u0 :: u1 :: us, v0 :: v1 :: vs, .cons a0 (.cons a1 ar), .cons b0 (.cons b1 br), hil => ?_
  obtain ⟨D, eD⟩ : ∃ D, D = h'.objs.size := ⟨_, rfl⟩
  have I0 : Inv X pins σ H { s with heap := h', toks := tk } := I.kept (t' := tk) keep
  have hfree : H D = none := I0.hok.fresh (by rw [eD]; exact Nat.le_refl _)
  have I1 : Inv X pins σ (upd H D (.lst vs)) { s with heap := h'.push { cls := .type "list", data := .seq us.toArray }, toks := tk } :=
    I0.laid (t' := tk) (fun b o e => Heap.get?_push_of_some _ e) (by rw [eD]; exact Nat.le_refl _) ⟨by rw [br.length]; exact Nat.le_of_lt (small1000 hz), us, 0, ar, by rw [eD]; exact Heap.get?_push_size _ rfl⟩
  have kk : Kp H (upd H D (.lst vs)) := Kp.new hfree
  have oo := o.new (o := .lst ds) hfree ⟨vs, upd_same, br.kp kk⟩
  show wpAny _ _ (assignInOrder [assign (.Name x px) X.env, assign (.Name y py) X.env, assign (.Name z pz) X.env] [u0, u1, .ref h'.objs.size]) _ _ { s with heap := h'.push { cls := .type "list", data := .seq us.toArray }, toks := tk }
  rw [← eD]
  have P3 : PGs X [.Name x px, .Name y py, .Name z pz] _ := pgs_cons (pg_name (i := i) hN hi hx hfx) (pgs_cons (pg_name (i := j) hN hj hy hfy) (pgs_cons (pg_name (i := m) hN hm hzl hfz) pgs_nil))
  refine P3.run pins _ σ _ [v0, v1, .ref D] [u0, u1, .ref D] Q I1 (.cons a0 (.cons a1 (.cons rfl .nil))) ?_
  refine ⟨v0, _, rfl, v1, _, rfl, .ref D, _, rfl, rfl, ?_⟩
  exact q _ _ _ _ kk oo ((((r.kp kk).set i (b0.kp kk)).set j (b1.kp kk)).set m (.p D)) (h D (o.free hfree))
end
end SR
/-! Plain facts: texts of stores. -/
namespace SR
open PySem TL
/-- a number as text -/
abbrev numS (n : Int) : Str := Str.ofString (toString n)
def digs (n : Int) : List Nat := if n < 10 then [48 + n.toNat] else [48 + n.toNat / 10, 48 + n.toNat % 10]
theorem num_fin : ∀ n : Fin 100, tl (numS ((n.val : Nat) : Int)) = digs ((n.val : Nat) : Int) := by decide +kernel
theorem tl_num {n : Int} (h0 : 0 ≤ n) (h1 : n ≤ 99) : tl (numS n) = digs n := by
  have := num_fin ⟨n.toNat, by omega⟩
  rwa [show (((⟨n.toNat, by omega⟩ : Fin 100).val : Nat) : Int) = n by simp; omega] at this
theorem digs_mem {n : Int} (h0 : 0 ≤ n) (h1 : n ≤ 99) : ∀ c ∈ digs n, 48 ≤ c ∧ c ≤ 57 := by
  unfold digs
  split
  · intro c hc
    rw [List.mem_singleton] at hc
    omega
  · intro c hc
    simp only [List.mem_cons, List.not_mem_nil, or_false] at hc
    rcases hc with rfl | rfl <;> omega
theorem digs_len {n : Int} : (digs n).length ≤ 2 := by
  unfold digs
  split <;> simp
/-! ### the number of a word -/
theorem repl_filter {y : Nat} : ∀ l : List Nat, PySem.StrLaws.replL [y] [] l = l.filter (· ≠ y)
  | [] => PySem.StrLaws.replL_nil
  | c :: r => by
    by_cases h : c = y
    · subst h
      rw [PySem.StrLaws.replL_hit (by simp) (by simp)]
      simp only [List.length_singleton, List.drop_one, List.tail_cons, List.nil_append]
      rw [repl_filter r]
      simp
    · rw [PySem.StrLaws.replL_miss (by simpa using h), repl_filter r]
      simp [h]
theorem tl_repl (x : Str) (y : Nat) : tl (Txt.replace x ⟨#[y]⟩ Str.empty) = (tl x).filter (· ≠ y) := by
  have := PySem.StrLaws.replace_list (x := x) (y := ⟨#[y]⟩) (z := Str.empty) (by show 1 ≤ 1; omega)
  exact this.trans (repl_filter _)
def isDig (c : Nat) : Bool := decide (48 ≤ c) && decide (c ≤ 57)
def numL : List Nat → Int
  | [c] => if isDig c = true then ((c - 48 : Nat) : Int) else -1
  | [c, d] => if (isDig c && isDig d) = true then ((10 * (c - 48) + (d - 48) : Nat) : Int) else -1
  | _ => -1
def wnum (w : Str) : Int := numL ((tl w).filter (· ≠ 44))
theorem numL_digs {n : Int} (h0 : 0 ≤ n) (h1 : n ≤ 99) : numL (digs n) = n := by
  unfold digs
  split
  · show (if isDig (48 + n.toNat) = true then (((48 + n.toNat) - 48 : Nat) : Int) else -1) = n
    rw [if_pos (by unfold isDig; rw [decide_eq_true (by omega), decide_eq_true (by omega)] <;> rfl)]
    omega
  · show (if (isDig (48 + n.toNat / 10) && isDig (48 + n.toNat % 10)) = true then _ else -1) = n
    rw [if_pos (by unfold isDig; rw [decide_eq_true (by omega), decide_eq_true (by omega), decide_eq_true (by omega), decide_eq_true (by omega)] <;> rfl)]
    omega
theorem filter_digs {n : Int} (h0 : 0 ≤ n) (h1 : n ≤ 99) : (digs n).filter (· ≠ 44) = digs n := by
  refine List.filter_eq_self.mpr fun c hc => ?_
  have := digs_mem h0 h1 c hc
  simp; omega
theorem tl_comma : tl ("," : Str) = [44] := by decide +kernel
theorem wnum_num {n : Int} (h0 : 0 ≤ n) (h1 : n ≤ 99) : wnum (numS n) = n := by
  unfold wnum
  rw [tl_num h0 h1, filter_digs h0 h1, numL_digs h0 h1]
theorem wnum_comma {n : Int} (h0 : 0 ≤ n) (h1 : n ≤ 99) : wnum (numS n ++ ",") = n := by
  unfold wnum
  rw [tl_append, tl_num h0 h1, tl_comma, List.filter_append, filter_digs h0 h1]
  simp [numL_digs h0 h1]
theorem int_one : ∀ c : Fin 10, PySem.intText? ⟨#[48 + c.val]⟩ = some ((c.val : Nat) : Int) := by decide +kernel
theorem int_two : ∀ c d : Fin 10, PySem.intText? ⟨#[48 + c.val, 48 + d.val]⟩ = some ((10 * c.val + d.val : Nat) : Int) := by decide +kernel
theorem isDig_of {c : Nat} (h : isDig c = true) : ∃ k : Fin 10, c = 48 + k.val := by
  unfold isDig at h
  simp only [Bool.and_eq_true, decide_eq_true_eq] at h
  exact ⟨⟨c - 48, by omega⟩, by simp; omega⟩
/-- the digits' text -/
theorem dig_signs : tl ("0123456789" : Str) = [48, 49, 50, 51, 52, 53, 54, 55, 56, 57] := by decide +kernel
theorem in_digs (c : Nat) : decide (c ∈ ("0123456789" : Str).cps.toList) = isDig c := by
  have e : ("0123456789" : Str).cps.toList = [48, 49, 50, 51, 52, 53, 54, 55, 56, 57] := dig_signs
  rw [e]
  unfold isDig
  apply Bool.eq_iff_iff.mpr
  simp
  omega
/-- int of what numL takes -/
theorem int_numL {l : List Nat} (hl : 1 ≤ l.length ∧ l.length ≤ 2) (hd : l.all isDig = true) : PySem.intText? ⟨l.toArray⟩ = some (numL l) := by
  match l, hl with
  | [c], _ =>
    simp only [List.all_cons, List.all_nil, Bool.and_true] at hd
    obtain ⟨k, rfl⟩ := isDig_of hd
    have := int_one k
    show PySem.intText? ⟨#[48 + k.val]⟩ = some (if isDig (48 + k.val) = true then (((48 + k.val) - 48 : Nat) : Int) else -1)
    rw [if_pos hd, this]
    congr 2; omega
  | [c, d], _ =>
    simp only [List.all_cons, List.all_nil, Bool.and_true, Bool.and_eq_true] at hd
    obtain ⟨k, rfl⟩ := isDig_of hd.1
    obtain ⟨m, rfl⟩ := isDig_of hd.2
    have := int_two k m
    show PySem.intText? ⟨#[48 + k.val, 48 + m.val]⟩ = some (if (isDig (48 + k.val) && isDig (48 + m.val)) = true then ((10 * ((48 + k.val) - 48) + ((48 + m.val) - 48) : Nat) : Int) else -1)
    rw [if_pos (by rw [hd.1, hd.2] <;> rfl), this]
    congr 2; omega
  | [], h => simp at h
  | _ :: _ :: _ :: _, h => simp at h
theorem numL_no {l : List Nat} (h : ¬ ((1 ≤ l.length ∧ l.length ≤ 2) ∧ l.all isDig = true)) : numL l = -1 := by
  match l with
  | [] => rfl
  | [c] =>
    show (if isDig c = true then _ else -1) = -1
    rw [if_neg fun z => h ⟨by simp, by simp [z]⟩]
  | [c, d] =>
    show (if (isDig c && isDig d) = true then _ else -1) = -1
    rw [if_neg fun z => h ⟨by simp, by simpa [Bool.and_eq_true] using z⟩]
  | _ :: _ :: _ :: _ => rfl
/-! ### the text of a store -/
def ruleS (b : Bool) : Str := if b then "fill to" else "lots of"
def stText (s : Sto) : Str := (((((((((Str.empty ++ "room ") ++ numS s.room) ++ ", wait ") ++ numS s.wait) ++ ", ") ++ ruleS s.fill) ++ " ") ++ numS s.size) ++ " when at most ") ++ numS s.level
def stWords (s : Sto) : List Str := ["room", numS s.room ++ ",", "wait", numS s.wait ++ ",", (if s.fill then "fill" else "lots"), (if s.fill then "to" else "of"), numS s.size, "when", "at", "most", numS s.level]
theorem sgn1 : tl ("room " : Str) = [114, 111, 111, 109, 32] ∧ tl ("room" : Str) = [114, 111, 111, 109] ∧ tl (", wait " : Str) = [44, 32, 119, 97, 105, 116, 32] ∧ tl ("wait" : Str) = [119, 97, 105, 116] ∧ tl (", " : Str) = [44, 32] ∧ tl (" " : Str) = [32] ∧
    tl (" when at most " : Str) = [32, 119, 104, 101, 110, 32, 97, 116, 32, 109, 111, 115, 116, 32] ∧ tl ("when" : Str) = [119, 104, 101, 110] ∧ tl ("at" : Str) = [97, 116] ∧ tl ("most" : Str) = [109, 111, 115, 116] := by decide +kernel
theorem sgn2 : tl ("fill to" : Str) = [102, 105, 108, 108, 32, 116, 111] ∧ tl ("lots of" : Str) = [108, 111, 116, 115, 32, 111, 102] ∧ tl ("fill" : Str) = [102, 105, 108, 108] ∧ tl ("lots" : Str) = [108, 111, 116, 115] ∧ tl ("to" : Str) = [116, 111] ∧ tl ("of" : Str) = [111, 102] ∧ tl Str.empty = [] := by decide +kernel
theorem stText_join (s : Sto) : stText s = Txt.join " " (stWords s) := by
  obtain ⟨a1, a2, a3, a4, a5, a6, a7, a8, a9, a10⟩ := sgn1
  obtain ⟨b1, b2, b3, b4, b5, b6, b7⟩ := sgn2
  refine ext_tl ?_
  rw [join_eq, tl_join]
  unfold stText stWords ruleS
  cases s.fill <;>
    simp only [tl_append, List.map_cons, List.map_nil, joinL, a1, a2, a3, a4, a5, a6, a7, a8, a9, a10, b1, b2, b3, b4, b5, b6, b7, tl_comma, if_true, if_false, Bool.false_eq_true, List.append_assoc, List.cons_append, List.nil_append]
theorem no32_num {n : Int} (h0 : 0 ≤ n) (h1 : n ≤ 99) : 32 ∉ tl (numS n) := fun h => by
  rw [tl_num h0 h1] at h
  have := digs_mem h0 h1 _ h
  omega
theorem no32_comma {n : Int} (h0 : 0 ≤ n) (h1 : n ≤ 99) : 32 ∉ tl (numS n ++ ",") := fun h => by
  rw [tl_append, tl_comma, List.mem_append] at h
  rcases h with h | h
  · exact no32_num h0 h1 h
  · simp at h
theorem stText_split {s : Sto} (h : s.ok) : Txt.split (stText s) " " = stWords s := by
  obtain ⟨a1, a2, a3, a4, a5, a6, a7, a8, a9, a10⟩ := sgn1
  obtain ⟨b1, b2, b3, b4, b5, b6, b7⟩ := sgn2
  have := h.r1; have := h.r12; have := h.w1; have := h.w3; have := h.l0; have := h.l12; have := h.s1; have := h.s18
  rw [stText_join]
  refine split_join (s := 32) (S := []) a6 (by decide +kernel) (by unfold stWords; simp) fun p hp => ?_
  unfold stWords at hp
  simp only [List.mem_cons, List.not_mem_nil, or_false] at hp
  rcases hp with rfl | rfl | rfl | rfl | rfl | rfl | rfl | rfl | rfl | rfl | rfl
  · rw [a2]; decide
  · exact no32_comma (by omega) (by omega)
  · rw [a4]; decide
  · exact no32_comma (by omega) (by omega)
  · cases s.fill <;> simp [b3, b4]
  · cases s.fill <;> simp [b5, b6]
  · exact no32_num (by omega) (by omega)
  · rw [a8]; decide
  · rw [a9]; decide
  · rw [a10]; decide
  · exact no32_num (by omega) (by omega)
/-- what is read of eleven words -/
def rdSto (ws : List Str) : List Int := [wnum (ws.getD 1 Str.empty), wnum (ws.getD 3 Str.empty), wnum (ws.getD 10 Str.empty), wnum (ws.getD 6 Str.empty)]
theorem rdSto_of {s : Sto} (h : s.ok) : rdSto (stWords s) = [s.room, s.wait, s.level, s.size] := by
  have := h.r1; have := h.r12; have := h.w1; have := h.w3; have := h.l0; have := h.l12; have := h.s1; have := h.s18
  show [wnum (numS s.room ++ ","), wnum (numS s.wait ++ ","), wnum (numS s.level), wnum (numS s.size)] = _
  rw [wnum_comma (by omega) (by omega), wnum_comma (by omega) (by omega), wnum_num (by omega) (by omega), wnum_num (by omega) (by omega)]
theorem stText_inj {s t : Sto} (hs : s.ok) (ht : t.ok) (h : stText s = stText t) : s = t := by
  have e : stWords s = stWords t := by rw [← stText_split hs, ← stText_split ht, h]
  have e1 : [s.room, s.wait, s.level, s.size] = [t.room, t.wait, t.level, t.size] := by rw [← rdSto_of hs, ← rdSto_of ht, e]
  have e2 : s.fill = t.fill := by
    unfold stWords at e
    simp only [List.cons.injEq] at e
    have e5 := e.2.2.2.2.1
    cases h1 : s.fill <;> cases h2 : t.fill <;> rw [h1, h2] at e5 <;> first | rfl | (exact absurd e5 (by decide +kernel))
  simp only [List.cons.injEq, and_true] at e1
  obtain ⟨r1, w1, f1, l1, z1⟩ := s
  obtain ⟨r2, w2, f2, l2, z2⟩ := t
  simp only at e1 e2
  obtain ⟨rfl, rfl, rfl, rfl⟩ := e1
  subst e2
  rfl
theorem len_num {n : Int} (h0 : 0 ≤ n) (h1 : n ≤ 99) : (numS n).length ≤ 2 := by
  rw [len_tl, tl_num h0 h1]; exact digs_len
theorem stText_len {s : Sto} (h : s.ok) : (stText s).length ≤ 60 := by
  have := h.r1; have := h.r12; have := h.w1; have := h.w3; have := h.l0; have := h.l12; have := h.s1; have := h.s18
  have n1 := digs_len (n := s.room); have n2 := digs_len (n := s.wait); have n3 := digs_len (n := s.size); have n4 := digs_len (n := s.level)
  obtain ⟨a1, a2, a3, a4, a5, a6, a7, a8, a9, a10⟩ := sgn1
  obtain ⟨b1, b2, b3, b4, b5, b6, b7⟩ := sgn2
  rw [len_tl]
  unfold stText ruleS
  cases s.fill <;>
    simp only [tl_append, a1, a3, a5, a6, a7, b1, b2, b7, if_true, if_false, Bool.false_eq_true, List.length_append, List.length_cons, List.length_nil] <;>
    rw [tl_num (by omega) (by omega), tl_num (by omega) (by omega), tl_num (by omega) (by omega), tl_num (by omega) (by omega)] <;> omega
/-- the parts of a split text are no longer than it -/
theorem spl_len (S : List Nat) : ∀ (l : List Nat) (k : Nat) (acc : List Nat), ∀ p ∈ spl S k acc l, p.length ≤ acc.length + l.length
  | [], k, acc, p, h => by
    rw [spl_nil, List.mem_singleton] at h
    subst h; simp
  | c :: r, 0, acc, p, h => by
    by_cases hp : pre S (c :: r) = true
    · rw [spl_hit hp, List.mem_cons] at h
      rcases h with rfl | h
      · simp
      · have := spl_len S r (S.length - 1) [] p h
        simp at this ⊢; omega
    · rw [spl_miss (by simpa using hp)] at h
      have := spl_len S r 0 (acc ++ [c]) p h
      simp at this ⊢; omega
  | c :: r, k + 1, acc, p, h => by
    have := spl_len S r k acc p h
    simp at this ⊢; omega
theorem split_len {x : Str} {n : Nat} (hx : x.length ≤ n) : ∀ y ∈ Txt.split x " ", y.length ≤ n := fun y hy => by
  obtain ⟨a1, a2, a3, a4, a5, a6, a7, a8, a9, a10⟩ := sgn1
  have e := split_spl x " " (by rw [a6]; simp) (kind_ok (by decide +kernel))
  have hm : tl y ∈ spl (tl " ") 0 [] (tl x) := by rw [← e]; exact List.mem_map.mpr ⟨y, hy, rfl⟩
  have := spl_len _ _ _ _ _ hm
  have h1 := len_tl x; have h2 := len_tl y
  simp only [List.length_nil, Nat.zero_add] at this
  omega
end SR
/-! list(text); a token given out by a written list. -/
namespace SR
open PySem PySem.Spec PyProof.Rows L2
section
variable {X : Cx} {E : XK} {XC : XCt} {g : Ga} {W : Om} {a b c : Expr} {pos : Pos} {O : OD} {C : EndD}
def signsV (x : Str) : List V := x.cps.toList.map fun c => .str ⟨#[c]⟩
theorem vals_of : ∀ (ys : List V) (us : List Value), ys.length = us.length → (∀ (i : Nat) (v : V) (u : Value), ys[i]? = some v → us[i]? = some u → RelV v u) → Vals ys us
  | [], [], _, _ => .nil
  | [], _ :: _, h, _ => by simp at h
  | _ :: _, [], h, _ => by simp at h
  | y :: ys, u :: us, h, hr => .cons (hr 0 y u rfl rfl) (vals_of ys us (by simpa using h) fun i v w h1 h2 => hr (i + 1) v w (by simpa using h1) (by simpa using h2))
theorem cr_listS (hc : X.calm = true) : CallR X (.type "list") (fun xs H Q => ∃ x : Str, xs = [.str x] ∧ x.length ≤ sizeLine ∧ ∀ l, H l = none → Q (.ref l) (upd H l (.lst (signsV x)))) := by
  intro pins s σ H xs us Q I r h
  obtain ⟨x, rfl, hz, q⟩ := h
  obtain ⟨u, rfl, rx⟩ := Vals.one r
  obtain ⟨t, rfl⟩ := rx
  refine PySem.call_list_str (I.ok.hd hc) x t (fun h' tk acc c kp e ha => ?_) hz
  have hl : (signsV x).length = x.cps.size := by unfold signsV; simp
  refine ⟨.ref s.heap.objs.size, upd H s.heap.objs.size (.lst (signsV x)), I.laid (t' := tk) kp (Nat.le_refl _) ⟨by rw [hl]; exact hz, acc.toList, c, ?_, by simpa using e⟩, rfl, q _ (I.hok.fresh (Nat.le_refl _))⟩
  refine vals_of _ _ (by rw [hl, Array.length_toList, ha.1]) fun i v w h1 h2 => ?_
  rw [Array.getElem?_toList] at h2
  obtain ⟨d, t2, h3, rfl⟩ := ha.2 i w h2
  unfold signsV at h1
  rw [List.getElem?_map, Array.getElem?_toList, h3] at h1
  cases h1
  exact ⟨t2, rfl⟩
theorem signs_rp {K : PySem.W.Frag} {H : Hp} (x : Str) : RpAll K H (signsV x) (signsD x) := by
  unfold signsV signsD
  generalize x.cps.toList = l
  induction l with
  | nil => exact .nil
  | cons c r ih => exact .cons (.str _) ih
theorem xe_listS {p : Pos} (hm : X.mg "list" = none) (h : XE X E XC a g W fun d W1 => ∃ x : Str, d = .str x ∧ x.length ≤ 1000 ∧ ∀ l, W1 l = none → O (.p l) (updO W1 l (.lst (signsD x)))) (hc : X.calm = true := by rfl) (hg : Gl X "list" := by rfl) (hs : starEach [a] X.env = (false, eval a X.env) :: starEach [] X.env := by rfl) (hp : (backTo pos (starEach [] X.env)).any (·.1) = false := by rfl) :
    XE X E XC (.Call (.Name "list" p) [a] [] pos) g W O := by
  refine xe_callTy (cr_listS hc) hm (by decide +kernel) (xa1 (fun σ H r k el Q q => h σ H r k el Q fun v H1 d W1 k1 o1 r1 h1 => q v H1 d W1 k1 o1 r1 ?_) hs) hg (hs := hs) (hp := hp)
  intro vs H2 Q2 r2 o2 q2
  obtain ⟨x, rfl, hl, h2⟩ := h1
  cases r2 with
  | cons rv rn =>
    cases rn; cases rv
    exact ⟨x, rfl, le1000 hl, fun l hl2 => q2 _ _ _ _ (Kp.new hl2) (o2.new (o := .lst (signsD x)) hl2 ⟨_, upd_same, signs_rp x⟩) (.p l) (h2 l (o2.free hl2))⟩
/-! ### a token out behind -/
def taWp (X : Cx) (es : List Expr) : TA := fun σ H Q => ∀ (pos : Pos) (pins : List (Addr × Obj)) (s : Shared), Inv X pins σ H s → wpAny (model X.prog X.w) X.A (spliced (backTo pos (starEach es X.env))) (fun us s' => 1 ≤ s'.toks ∧ AP X pins σ Q us s') X.xe s
def XAp (X : Cx) (E : XK) (XC : XCt) (es : List Expr) (g : Ga) (W : Om) (O : List D → Om → Prop) : Prop := ExA X.K E XC (taWp X es) g W O
theorem xap_str {x : Str} {j : Nat} {p : Pos} {es : List Expr} {O : List D → Om → Prop} (h : XA X E XC es g W fun ds W2 => O (.str x :: ds) W2)
    (hs : starEach (.Constant (.str x) j p :: es) X.env = (false, eval (.Constant (.str x) j p) X.env) :: starEach es X.env := by rfl) : XAp X E XC (.Constant (.str x) j p :: es) g W O := by
  intro σ H r k el Q q pos pins s I
  rw [hs]
  show wpAny _ _ (spliced ((false, eval (.Constant (.str x) j p) X.env) :: backTo pos (starEach es X.env))) _ _ s
  refine Calls.spliced_cons (Calls.Constant_str ?_)
  have I1 := I.tok (s.toks + 1)
  have h1 := h σ H r k el (fun vs H2 => Q (.str x :: vs) H2) (fun vs H2 ds W2 k2 o2 r2 h2 => q _ H2 _ W2 k2 o2 (.cons (.str x) r2) h2) pos pins { s with toks := s.toks + 1 } I1
  refine wpAny_mono (PySem.wpAny_toks h1) (fun us s2 hz => ?_) fun _ _ z => z.2
  obtain ⟨hk, vs, H2, I2, r2, q2⟩ := hz
  have hk : s.toks + 1 ≤ s2.toks := hk
  exact ⟨by omega, .str x :: vs, H2, I2, .cons ⟨_, rfl⟩ r2, q2⟩
theorem xap_cons {e : Expr} {es : List Expr} {O : List D → Om → Prop} (h : XE X E XC e g W fun d W1 => XAp X E XC es g W1 fun ds W2 => O (d :: ds) W2)
    (hs : starEach (e :: es) X.env = (false, eval e X.env) :: starEach es X.env := by rfl) : XAp X E XC (e :: es) g W O := by
  intro σ H r k el Q q pos pins s I
  rw [hs]
  show wpAny _ _ (spliced ((false, eval e X.env) :: backTo pos (starEach es X.env))) _ _ s
  refine Calls.spliced_cons (thn (h σ H r k el (fun v H1 => taWp X es σ H1 fun vs H2 => Q (v :: vs) H2) (fun v H1 d W1 k1 o1 r1 h1 => ?_) pins s I) fun u s1 hu => ?_)
  · exact h1 σ H1 (r.kp k1) o1 (el.kp k1) _ fun vs H2 ds W2 k2 o2 r2 h2 => q _ H2 _ W2 (k1.trans k2) o2 (.cons (r1.kp k2) r2) h2
  · obtain ⟨v, H1, I1, rv, q1⟩ := hu
    refine thn (q1 pos pins s1 I1) fun us s2 hz => ?_
    obtain ⟨hk, vs, H2, I2, r2, q2⟩ := hz
    exact ⟨hk, v :: vs, H2, I2, .cons rv r2, q2⟩
/-- x = [..], a text among the items: behind it a token is out -/
theorem xb_lstp (i : Nat) {x : Str} {es : List Expr} {pos' pos2 : Pos} {rest : List Stmt} (hN : X.N.Nodup) (h : XAp X E XC es g W fun ds W1 => ds.length ≤ 1000 ∧ ∀ l, W1 l = none → XBt X E XC rest (g.set i (some (.p l))) (updO W1 l (.lst ds)) C)
    (hi : X.N[i]? = some x := by rfl) (hx : Loc X.env.scope x := by first | exact .inl rfl | exact .inr rfl)
    (hs : swapsWith (.List es pos2) (some (.Name x pos')) pos.line X.env = pure false := by rfl) (hf : X.fn x = true ∨ X.env.scope.names.lookup x = some .local := by first | exact .inl rfl | exact .inr rfl) : XB X E XC (.Assign [.Name x pos'] (.List es pos2) pos :: rest) g W C := by
  intro D σ H r k el l pins s I
  have h1 := h σ H r k el (fun vs H1 => vs.length ≤ sizeLine ∧ ∀ q, H1 q = none → tssWt X rest D (σ.set i (some (.ref q))) (upd H1 q (.lst vs))) (fun vs H1 ds W1 k1 o1 r1 ⟨hz, h2⟩ => ?_) pos2 pins s I
  · refine wpAny_execs_cons (wpAny_Assign_Name (wpAny_List_spliced (thn h1 fun us s1 hz => ?_)) hs)
    obtain ⟨ht, vs, H1, I1, r1, hl, q⟩ := hz
    refine ⟨by rw [← r1.length]; exact hl, ?_⟩
    have hfr : H1 s1.heap.objs.size = none := I1.hok.fresh (Nat.le_refl _)
    have I2 : Inv X pins σ (upd H1 s1.heap.objs.size (.lst vs)) { s1 with heap := s1.heap.push { cls := .type "list", data := .seq us.toArray } } :=
      I1.laid (t' := s1.toks) (fun b o e => Heap.get?_push_of_some _ e) (Nat.le_refl _) ⟨hl, us, 0, r1, Heap.get?_push_size _ rfl⟩
    refine wpAny_mono (PySem.wpAny_toks (store_ok (v := V.ref s1.heap.objs.size) (Q := fun _ s2 => Inv X pins (σ.set i (some (V.ref s1.heap.objs.size))) (upd H1 s1.heap.objs.size (.lst vs)) s2) I2 hN hi hx rfl (fun _ I3 => I3) hf)) (fun _ s2 hq => ?_) fun _ _ z => z.2
    have hk : s1.toks ≤ s2.toks := hq.1
    exact q _ hfr pins s2 (by omega) hq.2
  · refine ⟨by rw [r1.length]; exact Nat.le_of_lt (small1000 hz), fun q hq => ?_⟩
    have kk : Kp H1 (upd H1 q (.lst vs)) := Kp.new hq
    exact h2 q (o1.free hq) D _ _ (((r.kp k1).kp kk).set i (.p q)) (o1.new (o := .lst ds) hq ⟨vs, upd_same, r1.kp kk⟩) ((el.kp k1).kp kk) ((l.kp k1).kp kk)
/-- xs.append(e), e wants a token -/
theorem xet_append {e : Expr} {apos : Pos} (h : XE X E XC a g W fun d W1 => ∃ l xs, d = .p l ∧ W1 l = some (.lst xs) ∧ XEt X E XC e g W1 fun y W2 => ∃ ys, W2 l = some (.lst ys) ∧ ys.length < sizeLine ∧ O .non (updO W2 l (.lst (ys ++ [y]))))
    (hbase : attributeBase a "append" X.env (eval a X.env) = eval a X.env := by rfl)
    (hfew : ((backTo pos (starEach [e] X.env)).all (fun x => !x.1) && (backToKw pos (keywordEach [] X.env)).all (fun x => x.1.isSome) && decide ([e].length + ([] : List Keyword).length + (if ([] : List Keyword).isEmpty then 0 else 1) < 30)) = true := by rfl)
    (hline : (apos.endLine == pos.line) = true := by rfl) (hs : starEach [e] X.env = (false, eval e X.env) :: starEach [] X.env := by rfl) (hplain : (backTo pos (starEach [] X.env)).any (·.1) = false := by rfl) :
    XEt X E XC (.Call (.Attribute a "append" apos) [e] [] pos) g W O := by
  intro σ H r k el Q q pins s h0 I
  have h9 := h σ H r k el (fun v H1 => tyV X.K "list" v H1 ∧ taWt X [e] σ H1 fun vs H2 => rAppend v vs H2 Q) (fun v H1 d W1 k1 o1 r1 h8 => ?_) pins s I
  · refine wpAny_Call_method_late hbase hfew hline rfl (wpAny_mono (PySem.wpAny_toks h9) (fun u s1 hz => ?_) fun _ _ z => z.2)
    obtain ⟨hk, v, H1, I1, rv, ty, q1⟩ := hz
    obtain ⟨t1, t2⟩ := tyV_is I1 rv ty
    refine ⟨"list", "list.append", PySem.F.plainAttrs_list, PySem.F.slot_list_append, PySem.F.type_list_append, t1, t2, ?_⟩
    have hA := q1 pos pins s1 (Nat.le_trans h0 hk) I1
    rw [hs] at hA ⊢
    refine Calls.callWith_builtin (by show (false || (backTo pos (starEach [] X.env)).any (·.1)) = false; rw [hplain] <;> rfl) (Calls.evalArgs_plain (thn hA fun us s2 hw => ?_))
    obtain ⟨vs, H2, I2, r2, q2⟩ := hw
    exact mt_append pins s2 σ H2 v vs u us Q I2 rv r2 q2
  · obtain ⟨l, xs, e1, hl, h1⟩ := h8
    subst e1
    cases r1
    obtain ⟨zs, hz, _⟩ := o1 l _ hl
    refine ⟨.inl ⟨rfl, zs, .of hz⟩, ?_⟩
    refine (xat_cons (es := []) (O := fun ds W2 => ∃ y ys, ds = [y] ∧ W2 l = some (.lst ys) ∧ ys.length < sizeLine ∧ O .non (updO W2 l (.lst (ys ++ [y])))) (fun σ H r k el Q q => h1 σ H r k el Q fun v H1 d W1 k1 o1 r1 ⟨ys, h3, h4, h5⟩ => q v H1 d W1 k1 o1 r1 (xat_nil ⟨d, ys, rfl, h3, h4, h5⟩)) hs) σ H1 (r.kp k1) o1 (el.kp k1) _ fun vs H2 ds W2 k2 o2 r2 hd => ?_
    obtain ⟨y, ys, rfl, hy, hlen, h2⟩ := hd
    cases r2 with
    | @cons y2 _ _ _ ry rn =>
      cases rn
      obtain ⟨us, hu, ru⟩ := o2 l _ hy
      have kk : Kp H2 (upd H2 l (.lst (us ++ [y2]))) := Kp.at hu (fun _ z => by cases z) (fun _ _ z => by cases z)
      refine ⟨l, us, y2, rfl, rfl, hu, by rw [ru.length]; exact hlen, ?_⟩
      exact q _ _ _ _ ((k1.trans k2).trans kk) (o2.set kk (o := .lst (ys ++ [y])) ⟨_, upd_same, (ru.append (.cons ry .nil)).kp kk⟩) .non h2
end
end SR
namespace Law
open PySem PySem.Spec PyProof.Rows L2 SR
def topS (i : Nat) : Stmt := PySem.Challenge.pw_stockrules_k52_whole_texts.main.body.getD i (.Pass ⟨0, 0, 0, 0⟩)
abbrev s_is_between : Stmt := topS 13
abbrev n_is_between : List Str := ["value", "low", "high"]
theorem sc_is_between : FnScope n_is_between ["value", "low", "high"] (defScope s_is_between) := ⟨rfl, rfl, rfl, by decide +kernel, rfl, by decide +kernel, by decide +kernel⟩
abbrev s_is_store : Stmt := topS 14
abbrev n_is_store : List Str := ["value", "room", "wait", "kind", "level", "size"]
theorem sc_is_store : FnScope n_is_store ["value"] (defScope s_is_store) := ⟨rfl, rfl, rfl, by decide +kernel, rfl, by decide +kernel, by decide +kernel⟩
abbrev s_is_bounds : Stmt := topS 15
abbrev n_is_bounds : List Str := ["value", "low", "high", "days", "most"]
theorem sc_is_bounds : FnScope n_is_bounds ["value"] (defScope s_is_bounds) := ⟨rfl, rfl, rfl, by decide +kernel, rfl, by decide +kernel, by decide +kernel⟩
abbrev s_check_store : Stmt := topS 16
abbrev n_check_store : List Str := ["value"]
theorem sc_check_store : FnScope n_check_store ["value"] (defScope s_check_store) := ⟨rfl, rfl, rfl, by decide +kernel, rfl, by decide +kernel, by decide +kernel⟩
abbrev s_check_bounds : Stmt := topS 17
abbrev n_check_bounds : List Str := ["value"]
theorem sc_check_bounds : FnScope n_check_bounds ["value"] (defScope s_check_bounds) := ⟨rfl, rfl, rfl, by decide +kernel, rfl, by decide +kernel, by decide +kernel⟩
abbrev s_store_text : Stmt := topS 19
abbrev n_store_text : List Str := ["store", "room", "wait", "kind", "level", "size", "rule"]
theorem sc_store_text : FnScope n_store_text ["store"] (defScope s_store_text) := ⟨rfl, rfl, rfl, by decide +kernel, rfl, by decide +kernel, by decide +kernel⟩
abbrev s_bounds_text : Stmt := topS 20
abbrev n_bounds_text : List Str := ["bounds", "low", "high", "days", "most"]
theorem sc_bounds_text : FnScope n_bounds_text ["bounds"] (defScope s_bounds_text) := ⟨rfl, rfl, rfl, by decide +kernel, rfl, by decide +kernel, by decide +kernel⟩
abbrev s_format_store : Stmt := topS 21
abbrev n_format_store : List Str := ["store"]
theorem sc_format_store : FnScope n_format_store ["store"] (defScope s_format_store) := ⟨rfl, rfl, rfl, by decide +kernel, rfl, by decide +kernel, by decide +kernel⟩
abbrev s_format_bounds : Stmt := topS 22
abbrev n_format_bounds : List Str := ["bounds"]
theorem sc_format_bounds : FnScope n_format_bounds ["bounds"] (defScope s_format_bounds) := ⟨rfl, rfl, rfl, by decide +kernel, rfl, by decide +kernel, by decide +kernel⟩
abbrev s_number_of : Stmt := topS 23
abbrev n_number_of : List Str := ["word", "sign"]
theorem sc_number_of : FnScope n_number_of ["word"] (defScope s_number_of) := ⟨rfl, rfl, rfl, by decide +kernel, rfl, by decide +kernel, by decide +kernel⟩
abbrev s_words_of : Stmt := topS 24
abbrev n_words_of : List Str := ["text", "many", "words"]
theorem sc_words_of : FnScope n_words_of ["text", "many"] (defScope s_words_of) := ⟨rfl, rfl, rfl, by decide +kernel, rfl, by decide +kernel, by decide +kernel⟩
abbrev s_parse_store : Stmt := topS 25
abbrev n_parse_store : List Str := ["text", "words", "kind", "found"]
theorem sc_parse_store : FnScope n_parse_store ["text"] (defScope s_parse_store) := ⟨rfl, rfl, rfl, by decide +kernel, rfl, by decide +kernel, by decide +kernel⟩
abbrev s_parse_bounds : Stmt := topS 26
abbrev n_parse_bounds : List Str := ["text", "words", "found"]
theorem sc_parse_bounds : FnScope n_parse_bounds ["text"] (defScope s_parse_bounds) := ⟨rfl, rfl, rfl, by decide +kernel, rfl, by decide +kernel, by decide +kernel⟩
abbrev s__law_town : Stmt := topS 28
abbrev n__law_town : List Str := ["script"]
theorem sc__law_town : FnScope n__law_town ["script"] (defScope s__law_town) := ⟨rfl, rfl, rfl, by decide +kernel, rfl, by decide +kernel, by decide +kernel⟩
abbrev s__law_draw : Stmt := topS 29
abbrev n__law_draw : List Str := ["script", "town", "limit", "at", "left", "number"]
theorem sc__law_draw : FnScope n__law_draw ["script", "town", "limit"] (defScope s__law_draw) := ⟨rfl, rfl, rfl, by decide +kernel, rfl, by decide +kernel, by decide +kernel⟩
abbrev s__law_pick : Stmt := topS 30
abbrev n__law_pick : List Str := ["script", "town", "choices"]
theorem sc__law_pick : FnScope n__law_pick ["script", "town", "choices"] (defScope s__law_pick) := ⟨rfl, rfl, rfl, by decide +kernel, rfl, by decide +kernel, by decide +kernel⟩
abbrev s__law_outcome : Stmt := topS 31
abbrev n__law_outcome : List Str := ["way", "arguments", "caught", "result", "error"]
theorem sc__law_outcome : FnScope n__law_outcome ["way", "arguments"] (defScope s__law_outcome) := ⟨rfl, rfl, rfl, by decide +kernel, rfl, by decide +kernel, by decide +kernel⟩
abbrev s__law_name : Stmt := topS 32
abbrev n__law_name : List Str := ["caught", "found"]
theorem sc__law_name : FnScope n__law_name ["caught"] (defScope s__law_name) := ⟨rfl, rfl, rfl, by decide +kernel, rfl, by decide +kernel, by decide +kernel⟩
abbrev s__law_raises : Stmt := topS 33
abbrev n__law_raises : List Str := ["name", "names"]
theorem sc__law_raises : FnScope n__law_raises ["name"] (defScope s__law_raises) := ⟨rfl, rfl, rfl, by decide +kernel, rfl, by decide +kernel, by decide +kernel⟩
abbrev s__law_store : Stmt := topS 34
abbrev n__law_store : List Str := ["script", "town", "room", "wide", "wait", "level"]
theorem sc__law_store : FnScope n__law_store ["script", "town", "room"] (defScope s__law_store) := ⟨rfl, rfl, rfl, by decide +kernel, rfl, by decide +kernel, by decide +kernel⟩
abbrev s__law_bounds : Stmt := topS 35
abbrev n__law_bounds : List Str := ["script", "town", "most", "high", "low", "days"]
theorem sc__law_bounds : FnScope n__law_bounds ["script", "town", "most"] (defScope s__law_bounds) := ⟨rfl, rfl, rfl, by decide +kernel, rfl, by decide +kernel, by decide +kernel⟩
abbrev s__law_call : Stmt := topS 36
abbrev n__law_call : List Str := ["way", "arguments"]
theorem sc__law_call : FnScope n__law_call ["way", "arguments"] (defScope s__law_call) := ⟨rfl, rfl, rfl, by decide +kernel, rfl, by decide +kernel, by decide +kernel⟩
abbrev s__law_line : Stmt := topS 37
abbrev n__law_line : List Str := ["way", "value", "some", "one", "rule", "parts"]
theorem sc__law_line : FnScope n__law_line ["way", "value"] (defScope s__law_line) := ⟨rfl, rfl, rfl, by decide +kernel, rfl, by decide +kernel, by decide +kernel⟩
abbrev s_law : Stmt := topS 38
abbrev n_law : List Str := ["script", "town", "store", "bounds", "way", "value", "line", "k", "at", "sign", "other", "told", "good", "bads", "bad"]
theorem sc_law : FnScope n_law ["script"] (defScope s_law) := ⟨rfl, rfl, rfl, by decide +kernel, rfl, by decide +kernel, by decide +kernel⟩
end Law
namespace Law
open PySem PySem.Spec PyProof.Rows L2 SR
variable {P : Program} {w : World} {K : PySem.W.Frag} {mg : Str → Option Value} {base : Heap} {f : Addr} {fd : FuncData}
/-! ### is_between -/
def betw (d : D) (lo hi : Int) : Bool := match d with
  | .int i => decide (lo ≤ i) && decide (i ≤ hi)
  | _ => false
def S_is_between : SpT := fun ds W O _ => ∃ d lo hi, ds = [d, .int lo, .int hi] ∧ (tyD W d).isSome = true ∧ O (.bl (betw d lo hi)) W
theorem ok_is_between (B : Bi mg) (F : Fun K "is_between" "is_between" s_is_between f fd) (hm : mg "is_between" = some (.ref f)) (hb : Binds K fd ["value", "low", "high"] []) : Cal P w K mg base 1 "is_between" ["value", "low", "high"] S_is_between := by
  refine cal_mk F hm hb sc_is_between (fun ds W O XC h => ?_) (fun cdv A outer s H E ds W O XC hr h => ?_)
  · obtain ⟨d, lo, hi, rfl, _⟩ := h
    rfl
  · obtain ⟨d, lo, hi, rfl, ht, h⟩ := h
    have go : ∀ t r, tyD W d = some t → kitB t "int" = some r → (r = false → betw d lo hi = false) → (∀ r2, r = true → kitB t "bool" = some r2 → (r2 = true → betw d lo hi = false) ∧ (r2 = false → ∃ i, d = .int i)) → (r = true → ∃ r2, kitB t "bool" = some r2) →
        XB (cxOf (L2.CX P w) P w K mg base n_is_between "is_between" (defScope s_is_between) f cdv A outer s H E) E XC (defBody s_is_between) (startD 3 [d, .int lo, .int hi]) W { nx := fun _ W' => O .non W', rt := O } := by
      intro t r h1 h2 h3 h4 h5
      refine xb_one (xs_ret (xe_and (xe_isi B.isinstance (xe_name 0 rfl (xe_ty B.int (by decide +kernel) ⟨"int", t, r, rfl, h1, h2, r, rfl, fun hr => ?_, fun hr => ?_⟩)))))
      · obtain ⟨r2, h6⟩ := h5 hr
        obtain ⟨h7, h8⟩ := h4 r2 hr h6
        refine xe_and (xe_not (xe_isi B.isinstance (xe_name 0 rfl (xe_ty B.bool (by decide +kernel) ⟨"bool", t, r2, rfl, h1, h6, r2, rfl, !r2, rfl, fun hr2 => ?_, fun hr2 => ?_⟩))))
        · obtain ⟨i, rfl⟩ := h8 (by cases r2 <;> simp_all)
          refine xe_one (xe_chain (xe_name 1 rfl (xe_name 0 rfl ⟨lo, i, rfl, rfl, fun hl => xe_name 2 rfl ⟨hi, rfl, ?_⟩, fun hl => ?_⟩)))
          · simpa [betw, hl] using h
          · simpa [betw, hl] using h
        · rw [h7 (by cases r2 <;> simp_all)] at h
          exact h
      · rw [h3 hr] at h
        exact h
    cases d with
    | int i => exact go "int" true rfl (by decide +kernel) (by simp) (fun r2 _ h => ⟨fun e => by subst e; exact absurd h (by decide +kernel), fun _ => ⟨i, rfl⟩⟩) (fun _ => ⟨false, by decide +kernel⟩)
    | bl i => exact go "bool" true rfl (by decide +kernel) (by simp) (fun r2 _ h => ⟨fun e => rfl, fun e => by subst e; exact absurd h (by decide +kernel)⟩) (fun _ => ⟨true, by decide +kernel⟩)
    | non => exact go "NoneType" false rfl (by decide +kernel) (fun _ => rfl) (fun _ h => by cases h) (fun h => by cases h)
    | str x => exact go "str" false rfl (by decide +kernel) (fun _ => rfl) (fun _ h => by cases h) (fun h => by cases h)
    | tup x => exact go "tuple" false rfl (by decide +kernel) (fun _ => rfl) (fun _ h => by cases h) (fun h => by cases h)
    | p a =>
      cases q : W a with
      | none => simp [tyD, q] at ht
      | some ob =>
        cases ob with
        | lst xs => exact go "list" false (by simp [tyD, q]) (by decide +kernel) (fun _ => rfl) (fun _ h => by cases h) (fun h => by cases h)
        | _ => simp [tyD, q] at ht
    | ty n => cases ht
    | scr a ns => cases ht
    | exc a C => cases ht
end Law
namespace Law
open PySem PySem.Spec PyProof.Rows L2 SR
variable {P : Program} {w : World} {K : PySem.W.Frag} {mg : Str → Option Value} {base : Heap} {f : Addr} {fd : FuncData}
/-! ### is_bounds -/
def iv : D → Int
  | .int i => i
  | _ => 0
theorem betw_int {d : D} {lo hi : Int} (h : betw d lo hi = true) : d = .int (iv d) ∧ lo ≤ iv d ∧ iv d ≤ hi := by
  cases d with
  | int i => simp only [betw, Bool.and_eq_true, decide_eq_true_eq] at h; exact ⟨rfl, h⟩
  | _ => simp [betw] at h
structure KnD (W : Om) (d : D) : Prop where
  ty : (tyD W d).isSome = true
  all : ∀ xs, d = .tup xs → ∀ x ∈ xs, (tyD W x).isSome = true
/-- which data is a tuple -/
def isTu : D → Bool
  | .tup _ => true
  | _ => false
theorem kit_tuple : kitB "int" "tuple" = some false ∧ kitB "bool" "tuple" = some false ∧ kitB "NoneType" "tuple" = some false ∧ kitB "str" "tuple" = some false ∧ kitB "tuple" "tuple" = some true ∧ kitB "list" "tuple" = some false := by decide +kernel
theorem kit_tu {W : Om} {d : D} (h : (tyD W d).isSome = true) : ∃ t, tyD W d = some t ∧ kitB t "tuple" = some (isTu d) := by
  obtain ⟨k1, k2, k3, k4, k5, k6⟩ := kit_tuple
  cases d with
  | int i => exact ⟨"int", rfl, k1⟩
  | bl i => exact ⟨"bool", rfl, k2⟩
  | non => exact ⟨"NoneType", rfl, k3⟩
  | str x => exact ⟨"str", rfl, k4⟩
  | tup x => exact ⟨"tuple", rfl, k5⟩
  | p a =>
    cases q : W a with
    | none => simp [tyD, q] at h
    | some ob =>
      cases ob with
      | lst xs => exact ⟨"list", by simp [tyD, q], k6⟩
      | _ => simp [tyD, q] at h
  | ty n => cases h
  | scr a ns => cases h
  | exc a C => cases h
end Law
namespace Law
open PySem PySem.Spec PyProof.Rows L2 SR
variable {P : Program} {w : World} {K : PySem.W.Frag} {mg : Str → Option Value} {base : Heap} {f : Addr} {fd : FuncData}
theorem filterMap_some' {α β : Type} (f : α → β) (l : List α) : l.filterMap (fun x => some (f x)) = l.map f := by
  induction l with
  | nil => rfl
  | cons a r ih => simp [ih]
theorem all_map_id {α : Type} (p : α → Bool) (l : List α) : (l.map p).all id = l.all p := by
  induction l with
  | nil => rfl
  | cons a r ih => simp [ih]
abbrev tupI (ms : List Int) : D := .tup (ms.map D.int)
theorem knI (ms : List Int) (W : Om) : KnD W (tupI ms) := ⟨rfl, fun xs e x hx => by
  cases e
  obtain ⟨m, _, rfl⟩ := List.mem_map.mp hx
  rfl⟩
theorem sIx_nat' (n d : Nat) (k : Int) (hk : 0 ≤ k) : HT.sIx n d (some k) = min k.toNat n := by
  have := HT.sIx_nat n d k.toNat
  rw [show ((k.toNat : Nat) : Int) = k by omega] at this
  exact this
theorem cutA_nat {α : Type} (xs : List α) (k d : Int) (hk : 0 ≤ k) (hd : 0 ≤ d) : cutA xs (some k) (some (k + d)) = (xs.drop k.toNat).take d.toNat := by
  unfold cutA
  rw [sIx_nat' _ _ k hk, sIx_nat' _ _ (k + d) (by omega)]
  by_cases h : k.toNat ≤ xs.length
  · rw [Nat.min_eq_left h]
    by_cases h2 : (k + d).toNat ≤ xs.length
    · rw [Nat.min_eq_left h2]
      congr 1
      omega
    · rw [Nat.min_eq_right (by omega), List.take_of_length_le (by rw [List.length_drop]; omega), List.take_of_length_le (by rw [List.length_drop]; omega)]
  · rw [show min k.toNat xs.length = xs.length by omega, List.drop_length, List.drop_eq_nil_of_le (by omega)]
    simp
theorem flat_rep {α : Type} (x : α) : ∀ k : Nat, (List.replicate k [x]).flatten = List.replicate k x
  | 0 => rfl
  | k + 1 => by rw [List.replicate_succ, List.flatten_cons, flat_rep x k, List.replicate_succ]; rfl
theorem rangeD_map (n : Nat) : rangeD 0 n = (List.range n).map fun i => D.int ((i : Nat) : Int) := by
  unfold rangeD
  congr 1
  funext i
  rw [Int.zero_add]
theorem mem_rangeD {n i : Nat} {d : D} (h : (rangeD 0 n)[i]? = some d) : i < n ∧ d = .int ((i : Nat) : Int) := by
  obtain ⟨h1, h2⟩ := List.getElem?_eq_some_iff.mp h
  rw [rangeD_len] at h1
  rw [rangeD_get h1] at h
  exact ⟨h1, by rw [← Option.some.inj h]; simp⟩
theorem toPs_ints : ∀ ns : List Int, toPs (ns.map D.int) = some (ns.map PyData.int)
  | [] => by simp [toPs]
  | n :: r => by simp only [List.map_cons, toPs, toP, toPs_ints r]
theorem fm_filter {α β : Type} (p : α → Bool) (h : α → β) (l : List α) : l.filterMap (fun x => if p x then some (h x) else none) = (l.filter p).map h := by
  induction l with
  | nil => rfl
  | cons a r ih =>
    by_cases e : p a = true
    · simp [e, ih]
    · simp [e, ih]
theorem rangeD_irange (lo hi : Int) : rangeD lo (hi + 1 - lo).toNat = (irange lo hi).map D.int := by
  unfold rangeD irange
  rw [List.map_map]
  rfl
theorem mem_rangeD' {lo : Int} {n i : Nat} {d : D} (h : (rangeD lo n)[i]? = some d) : i < n ∧ d = .int (lo + (i : Nat)) := by
  obtain ⟨h1, h2⟩ := List.getElem?_eq_some_iff.mp h
  rw [rangeD_len] at h1
  rw [rangeD_get h1] at h
  exact ⟨h1, by rw [← Option.some.inj h]⟩
theorem canLay_ints : ∀ ns : List Int, PyData.canLayAll0 (ns.map PyData.int) = true
  | [] => by simp [PyData.canLayAll0]
  | n :: r => by rw [List.map_cons, PyData.canLayAll0, canLay_ints r]; simp [PyData.canLay0]
theorem depth_ints : ∀ ns : List Int, PyData.depthAll (ns.map PyData.int) = 0
  | [] => by simp [PyData.depthAll]
  | n :: r => by rw [List.map_cons, PyData.depthAll, depth_ints r]; simp [PyData.depth]
theorem shaped_ints (ns : List Int) : SeqAt.shaped (.list (ns.map PyData.int)) = true := by
  unfold SeqAt.shaped
  rw [PyData.canLay0, canLay_ints, PyData.depth, depth_ints]
  rfl
theorem eqv_nil (ns : List Int) : PyData.eqv (.list (ns.map PyData.int)) (.list []) = ns.isEmpty := by
  cases ns with
  | nil => simp [PyData.eqv, PyData.eqvAll]
  | cons n r => simp [PyData.eqv, PyData.eqvAll]
theorem nobs_ints : ∀ ns : List Int, nobs (ns.map PyData.int) = true
  | [] => by simp [nobs]
  | n :: r => by rw [List.map_cons, nobs, nobs_ints r]; simp [nob]
theorem eqv_ints (ns : List Int) : PyData.eqv (.list (ns.map PyData.int)) (.list (ns.map PyData.int)) = true :=
  (eqv_iff _ _ (by rw [nob]; exact nobs_ints ns) (by rw [nob]; exact nobs_ints ns)).mpr rfl
theorem topP_ints {W : Om} {l : Addr} {ns : List Int} (h : W l = some (.lst (ns.map D.int))) : topP W (.p l) = some (.list (ns.map PyData.int)) := by
  simp only [topP, h, toPs_ints]
  rfl
theorem tupI_snoc (ms : List Int) (d : Int) : D.tup (ms.map D.int ++ [D.int d]) = tupI (ms ++ [d]) := by
  show _ = D.tup _
  rw [List.map_append]
  rfl
end Law
namespace Law
open PySem PySem.Spec PyProof.Rows L2 SR
variable {P : Program} {w : World} {K : PySem.W.Frag} {mg : Str → Option Value} {base : Heap} {f : Addr} {fd : FuncData}
theorem at0 {α : Type} (x : α) (xs : List α) : atI (x :: xs) 0 = some x := atI_nat (j := 0) rfl
theorem ix0 {α : Type} (x : α) (xs : List α) : ixN (x :: xs).length 0 = some 0 := by
  unfold ixN
  rw [if_pos (by decide), if_pos (by rw [List.length_cons]; omega)]
  rfl
end Law
namespace Law
open PySem PySem.Spec PyProof.Rows L2 SR
variable {P : Program} {w : World} {K : PySem.W.Frag} {mg : Str → Option Value} {base : Heap} {f : Addr} {fd : FuncData}
def isBd : D → Bool
  | .tup [a, b, c, m] => betw b 0 4 && (betw a 0 (iv b) && (betw c 1 3 && betw m (iv c * iv a) 12))
  | _ => false
def S_is_bounds : SpT := fun ds W O _ => ∃ d, ds = [d] ∧ KnD W d ∧ O (.bl (isBd d)) W
theorem ok_is_bounds (B : Bi mg) (c1 : Cal P w K mg base 1 "is_between" ["value", "low", "high"] S_is_between) (F : Fun K "is_bounds" "is_bounds" s_is_bounds f fd) (hm : mg "is_bounds" = some (.ref f)) (hb : Binds K fd ["value"] []) : Cal P w K mg base 2 "is_bounds" ["value"] S_is_bounds := by
  refine cal_mk F hm hb sc_is_bounds (fun ds W O XC h => ?_) (fun cdv A outer s H E ds W O XC hr h => ?_)
  · obtain ⟨d, rfl, _⟩ := h
    rfl
  · obtain ⟨d, rfl, hk, h⟩ := h
    obtain ⟨t, ht, hkt⟩ := kit_tu hk.ty
    refine xb_cons (xs_if (xt_or2 (xt_not (xt_val (xe_isi B.isinstance (xe_name 0 rfl (xe_ty B.tuple (by decide +kernel) ⟨"tuple", t, _, rfl, ht, hkt, _, rfl, fun e1 => ?_, fun e1 => ⟨fun _ => ?_, fun e2 => by cases e2⟩⟩)))))))
    · -- a tuple
      cases d with
      | tup xs =>
        refine xt_neS (xe_len B.len (xe_name 0 rfl ⟨xs, rfl, xe_int ⟨_, rfl, _, rfl, fun e2 => ?_, fun e2 => ?_⟩⟩))
        · -- not four
          have hn : xs.length ≠ 4 := fun z => by simp [z] at e2
          have hB : isBd (.tup xs) = false := by
            unfold isBd
            split
            · rename_i a b c m e; cases e; exact absurd rfl hn
            · rfl
          rw [hB] at h
          exact xb_one (xs_ret (xe_bl h))
        · have hn : xs.length = 4 := by
            have : ((xs.length : Int)) = 4 := by simpa using e2
            omega
          obtain ⟨a, b, c, m, rfl⟩ : ∃ a b c m, xs = [a, b, c, m] := by
            match xs, hn with
            | [a, b, c, m], _ => exact ⟨a, b, c, m, rfl⟩
          have hall := hk.all _ rfl
          refine xb_nil (xb_cons (xs_asg (xe_name 0 rfl (xg_tup rfl (xgs_cons (xg_name 1 sc_is_bounds.nd (xgs_cons (xg_name 2 sc_is_bounds.nd (xgs_cons (xg_name 3 sc_is_bounds.nd (xgs_cons (xg_name 4 sc_is_bounds.nd (xgs_nil ?_)))))))))))))
          refine xb_cons (xs_if (xt_or3 (xt_not (xt_val (xe_call c1 hr passX (xa_cons (xe_name 2 rfl (xa_cons (xe_int (xa_cons (xe_int (xa_nil ⟨b, 0, 4, rfl, hall b (by simp), _, rfl, fun e3 => ?_, fun e3 => ⟨fun _ => ?_, fun z => by cases z⟩⟩))))))))))))
          · have e3 : betw b 0 4 = true := by simpa using e3
            obtain ⟨eb, _, _⟩ := betw_int e3
            refine xt_not (xt_val (xe_call c1 hr passX (xa_cons (xe_name 1 rfl (xa_cons (xe_int (xa_cons (xe_name 2 rfl (xa_nil ⟨a, 0, iv b, by rw [← eb], hall a (by simp), _, rfl, fun e4 => ?_, fun e4 => ⟨fun _ => ?_, fun z => by cases z⟩⟩)))))))))
            · have e4 : betw a 0 (iv b) = true := by simpa using e4
              obtain ⟨ea, _, _⟩ := betw_int e4
              refine xt_not (xt_val (xe_call c1 hr passX (xa_cons (xe_name 3 rfl (xa_cons (xe_int (xa_cons (xe_int (xa_nil ⟨c, 1, 3, rfl, hall c (by simp), _, rfl, fun e5 => ?_, fun e5 => ?_⟩)))))))))
              · have e5 : betw c 1 3 = false := by simpa using e5
                refine xb_one (xs_ret (xe_bl ?_))
                simpa [isBd, e3, e4, e5] using h
              · have e5 : betw c 1 3 = true := by simpa using e5
                obtain ⟨ec, h1, h2⟩ := betw_int e5
                refine xb_nil (xb_one (xs_ret (xe_call c1 hr passX (xa_cons (xe_name 4 rfl (xa_cons (xe_mul (xe_name 3 rfl (xe_name 1 rfl ⟨iv c, iv a, ec, ea, .inl ⟨by omega, by omega⟩, xa_cons (xe_int (xa_nil ⟨m, _, 12, rfl, hall m (by simp), ?_⟩))⟩)))))))))
                simpa [isBd, e3, e4, e5] using h
            · have e4 : betw a 0 (iv b) = false := by simpa using e4
              refine xb_one (xs_ret (xe_bl ?_))
              simpa [isBd, e3, e4] using h
          · have e3 : betw b 0 4 = false := by simpa using e3
            refine xb_one (xs_ret (xe_bl ?_))
            simpa [isBd, e3] using h
      | _ => simp [isTu] at e1
    · have hB : isBd d = false := by
        cases d with
        | tup xs => simp [isTu] at e1
        | _ => rfl
      rw [hB] at h
      exact xb_one (xs_ret (xe_bl h))
/-! ### check_bounds -/
def S_check_bounds (CB : Addr) : SpT := fun ds W O XC => ∃ d, ds = [d] ∧ KnD W d ∧ (isBd d = true → O .non W) ∧ (isBd d = false → XC CB W)
theorem ok_check_bounds {CB : Addr} (cB : ExC K mg "InvalidBounds" CB) (c1 : Cal P w K mg base 2 "is_bounds" ["value"] S_is_bounds) (F : Fun K "check_bounds" "check_bounds" s_check_bounds f fd) (hm : mg "check_bounds" = some (.ref f)) (hb : Binds K fd ["value"] []) : Cal P w K mg base 3 "check_bounds" ["value"] (S_check_bounds CB) := by
  refine cal_mk F hm hb sc_check_bounds (fun ds W O XC h => ?_) (fun cdv A outer s H E ds W O XC hr h => ?_)
  · obtain ⟨d, rfl, _⟩ := h
    rfl
  · obtain ⟨d, rfl, hk, h1, h2⟩ := h
    refine xb_one (xs_if (xt_not (xt_val (xe_call c1 hr passX (xa_cons (xe_name 0 rfl (xa_nil ⟨d, rfl, hk, _, rfl, fun e => ?_, fun e => ?_⟩)))))))
    · exact xb_one (xs_raise cB (takes_of rfl rfl rfl rfl) (h2 (by simpa using e)))
    · exact xb_nil (h1 (by simpa using e))
def _root_.SR.Bd.d (b : Bd) : D := .tup [.int b.low, .int b.high, .int b.days, .int b.most]
theorem _root_.SR.Bd.is {b : Bd} (h : b.ok) : isBd b.d = true := by
  have := h.l0; have := h.lh; have := h.h4; have := h.d1; have := h.d3; have := h.dl; have := h.m12
  simp only [isBd, Bd.d, betw, iv, decide_eq_true h.l0, decide_eq_true h.lh, decide_eq_true h.h4, decide_eq_true h.d1, decide_eq_true h.d3, decide_eq_true h.dl, decide_eq_true h.m12, decide_eq_true (show (0 : Int) ≤ b.high by omega), Bool.and_self, Bool.true_and, Bool.and_true, Bool.and_eq_true]
  exact ⟨decide_eq_true h.lh, decide_eq_true h.dl⟩
theorem _root_.SR.Bd.kn (b : Bd) (W : Om) : KnD W b.d := ⟨rfl, fun xs e x hx => by
  cases e
  simp only [List.mem_cons, List.not_mem_nil, or_false] at hx
  rcases hx with rfl | rfl | rfl | rfl <;> rfl⟩
end Law
namespace Law
open PySem PySem.Spec PyProof.Rows L2 SR
variable {P : Program} {w : World} {K : PySem.W.Frag} {mg : Str → Option Value} {base : Heap} {f : Addr} {fd : FuncData}
/-! ### is_store -/
abbrev kindS (b : Bool) : Str := if b then "fill" else "lots"
def _root_.SR.Sto.d (s : Sto) : D := .tup [.int s.room, .int s.wait, .str (kindS s.fill), .int s.level, .int s.size]
def isSr : D → Bool
  | .str _ => true
  | _ => false
theorem kit_strs : kitB "int" "str" = some false ∧ kitB "bool" "str" = some false ∧ kitB "NoneType" "str" = some false ∧ kitB "str" "str" = some true ∧ kitB "tuple" "str" = some false ∧ kitB "list" "str" = some false := by decide +kernel
theorem kit_sr {W : Om} {d : D} (h : (tyD W d).isSome = true) : ∃ t, tyD W d = some t ∧ kitB t "str" = some (isSr d) := by
  obtain ⟨k1, k2, k3, k4, k5, k6⟩ := kit_strs
  cases d with
  | int i => exact ⟨"int", rfl, k1⟩
  | bl i => exact ⟨"bool", rfl, k2⟩
  | non => exact ⟨"NoneType", rfl, k3⟩
  | str x => exact ⟨"str", rfl, k4⟩
  | tup x => exact ⟨"tuple", rfl, k5⟩
  | p a =>
    cases q : W a with
    | none => simp [tyD, q] at h
    | some ob =>
      cases ob with
      | lst xs => exact ⟨"list", by simp [tyD, q], k6⟩
      | _ => simp [tyD, q] at h
  | ty n => cases h
  | scr a ns => cases h
  | exc a C => cases h
def kindOk (c l z : D) : Bool := match c with
  | .str x => (decide (x = "lots") && betw z 1 6) || (decide (x = "fill") && betw z (iv l + 1) 18)
  | _ => false
def isSt : D → Bool
  | .tup [a, b, c, l, z] => betw a 1 12 && (betw b 1 3 && (betw l 0 12 && kindOk c l z))
  | _ => false
theorem lots_fill : ¬ (("lots" : Str) = "fill") := by decide +kernel
theorem _root_.SR.Sto.is {s : Sto} (h : s.ok) : isSt s.d = true := by
  have := h.r1; have := h.r12; have := h.w1; have := h.w3; have := h.l0; have := h.l12; have hz := h.sz
  have e1 : betw (.int s.room) 1 12 = true := by simp [betw]; omega
  have e2 : betw (.int s.wait) 1 3 = true := by simp [betw]; omega
  have e3 : betw (.int s.level) 0 12 = true := by simp [betw]; omega
  show (betw (.int s.room) 1 12 && (betw (.int s.wait) 1 3 && (betw (.int s.level) 0 12 && kindOk (.str (kindS s.fill)) (.int s.level) (.int s.size)))) = true
  rw [e1, e2, e3]
  cases hf : s.fill with
  | true =>
    rw [hf] at hz
    simp only [if_true] at hz
    have e4 : betw (.int s.size) (iv (.int s.level) + 1) 18 = true := by
      unfold betw iv
      rw [Bool.and_eq_true]
      exact ⟨decide_eq_true hz.1, decide_eq_true hz.2⟩
    simp only [kindOk, kindS, if_true, e4]
    simp
  | false =>
    rw [hf] at hz
    simp only [Bool.false_eq_true, if_false] at hz
    have e4 : betw (.int s.size) 1 6 = true := by simp [betw]; omega
    simp only [kindOk, kindS, Bool.false_eq_true, if_false, e4]
    simp
theorem isSt_of {d : D} (h : isSt d = true) : ∃ s : Sto, s.ok ∧ d = s.d := by
  unfold isSt at h
  split at h
  · rename_i a b c l z
    simp only [Bool.and_eq_true] at h
    obtain ⟨h1, h2, h3, h4⟩ := h
    obtain ⟨e1, a1, a2⟩ := betw_int h1
    obtain ⟨e2, b1, b2⟩ := betw_int h2
    obtain ⟨e3, l1, l2⟩ := betw_int h3
    unfold kindOk at h4
    split at h4
    · rename_i x
      simp only [Bool.or_eq_true, Bool.and_eq_true, decide_eq_true_eq] at h4
      rcases h4 with ⟨rfl, h5⟩ | ⟨rfl, h5⟩
      · obtain ⟨e5, z1, z2⟩ := betw_int h5
        exact ⟨⟨iv a, iv b, false, iv l, iv z⟩, ⟨a1, a2, b1, b2, l1, l2, ⟨z1, z2⟩⟩, by rw [e1, e2, e3, e5]; rfl⟩
      · obtain ⟨e5, z1, z2⟩ := betw_int h5
        exact ⟨⟨iv a, iv b, true, iv l, iv z⟩, ⟨a1, a2, b1, b2, l1, l2, ⟨z1, z2⟩⟩, by rw [e1, e2, e3, e5]; rfl⟩
    · cases h4
  · cases h
theorem _root_.SR.Sto.kn (s : Sto) (W : Om) : KnD W s.d := ⟨rfl, fun xs e x hx => by
  cases e
  simp only [List.mem_cons, List.not_mem_nil, or_false] at hx
  rcases hx with rfl | rfl | rfl | rfl | rfl <;> rfl⟩
abbrev CBetw (P : Program) (w : World) (K : PySem.W.Frag) (mg : Str → Option Value) (base : Heap) : Prop := Cal P w K mg base 1 "is_between" ["value", "low", "high"] S_is_between
def S_is_store : SpT := fun ds W O _ => ∃ d, ds = [d] ∧ KnD W d ∧ O (.bl (isSt d)) W
theorem ok_is_store (B : Bi mg) (c1 : CBetw P w K mg base) (F : Fun K "is_store" "is_store" s_is_store f fd) (hm : mg "is_store" = some (.ref f)) (hb : Binds K fd ["value"] []) : Cal P w K mg base 2 "is_store" ["value"] S_is_store := by
  refine cal_mk F hm hb sc_is_store (fun ds W O XC h => ?_) (fun cdv A outer s H E ds W O XC hr h => ?_)
  · obtain ⟨d, rfl, _⟩ := h
    rfl
  · obtain ⟨d, rfl, hk, h⟩ := h
    obtain ⟨t, ht, hkt⟩ := kit_tu hk.ty
    refine xb_cons (xs_if (xt_or2 (xt_not (xt_val (xe_isi B.isinstance (xe_name 0 rfl (xe_ty B.tuple (by decide +kernel) ⟨"tuple", t, _, rfl, ht, hkt, _, rfl, fun e1 => ?_, fun e1 => ⟨fun _ => ?_, fun e2 => by cases e2⟩⟩)))))))
    · cases d with
      | tup xs =>
        refine xt_neS (xe_len B.len (xe_name 0 rfl ⟨xs, rfl, xe_int ⟨_, rfl, _, rfl, fun e2 => ?_, fun e2 => ?_⟩⟩))
        · have hn : xs.length ≠ 5 := fun z => by simp [z] at e2
          have hB : isSt (.tup xs) = false := by
            unfold isSt
            split
            · rename_i a b c l z e; cases e; exact absurd rfl hn
            · rfl
          rw [hB] at h
          exact xb_one (xs_ret (xe_bl h))
        · have hn : xs.length = 5 := by
            have : ((xs.length : Int)) = 5 := by simpa using e2
            omega
          obtain ⟨a, b, c, l, z, rfl⟩ : ∃ a b c l z, xs = [a, b, c, l, z] := by
            match xs, hn with
            | [a, b, c, l, z], _ => exact ⟨a, b, c, l, z, rfl⟩
          have hall := hk.all _ rfl
          refine xb_nil (xb_cons (xs_asg (xe_name 0 rfl (xg_tup rfl (xgs_cons (xg_name 1 sc_is_store.nd (xgs_cons (xg_name 2 sc_is_store.nd (xgs_cons (xg_name 3 sc_is_store.nd (xgs_cons (xg_name 4 sc_is_store.nd (xgs_cons (xg_name 5 sc_is_store.nd (xgs_nil ?_)))))))))))))))
          refine xb_cons (xs_if (xt_or3 (xt_not (xt_val (xe_call c1 hr passX (xa_cons (xe_name 1 rfl (xa_cons (xe_int (xa_cons (xe_int (xa_nil ⟨a, 1, 12, rfl, hall a (by simp), _, rfl, fun e3 => ?_, fun e3 => ⟨fun _ => ?_, fun z => by cases z⟩⟩))))))))))))
          · have e3 : betw a 1 12 = true := by simpa using e3
            refine xt_not (xt_val (xe_call c1 hr passX (xa_cons (xe_name 2 rfl (xa_cons (xe_int (xa_cons (xe_int (xa_nil ⟨b, 1, 3, rfl, hall b (by simp), _, rfl, fun e4 => ?_, fun e4 => ⟨fun _ => ?_, fun z => by cases z⟩⟩)))))))))
            · have e4 : betw b 1 3 = true := by simpa using e4
              refine xt_not (xt_val (xe_call c1 hr passX (xa_cons (xe_name 4 rfl (xa_cons (xe_int (xa_cons (xe_int (xa_nil ⟨l, 0, 12, rfl, hall l (by simp), _, rfl, fun e5 => ?_, fun e5 => ?_⟩)))))))))
              · have e5 : betw l 0 12 = false := by simpa using e5
                refine xb_one (xs_ret (xe_bl ?_))
                simpa [isSt, e3, e4, e5] using h
              · have e5 : betw l 0 12 = true := by simpa using e5
                obtain ⟨el, _, _⟩ := betw_int e5
                obtain ⟨t2, ht2, hk2⟩ := kit_sr (hall c (by simp))
                refine xb_nil (xb_cons (xs_if (xt_not (xt_val (xe_isi B.isinstance (xe_name 3 rfl (xe_ty B.str (by decide +kernel) ⟨"str", t2, _, rfl, ht2, hk2, _, rfl, fun e6 => ?_, fun e6 => ?_⟩)))))))
                · have e6 : isSr c = false := by simpa using e6
                  refine xb_one (xs_ret (xe_bl ?_))
                  have : kindOk c l z = false := by
                    cases c with
                    | str x => cases e6
                    | _ => rfl
                  simpa [isSt, this] using h
                · cases c with
                  | str x =>
                    have hfin : isSt (.tup [a, b, .str x, l, z]) = ((decide (x = "lots") && betw z 1 6) || (decide (x = "fill") && betw z (iv l + 1) 18)) := by
                      simp only [isSt, e3, e4, e5, Bool.true_and, kindOk]
                    rw [hfin] at h
                    have second : ∀ r : Bool, (decide (x = "lots") && betw z 1 6) = false → r = (decide (x = "fill") && betw z (iv l + 1) 18) → O (.bl r) W := fun r h1 h2 => by
                      rw [h1, Bool.false_or, ← h2] at h
                      exact h
                    refine xb_nil (xb_one (xs_ret (xe_or (xe_and (xe_eqS (xe_name 3 rfl (xe_str ⟨_, rfl, _, rfl, fun e7 => ?_, fun e7 => ⟨_, rfl, fun _ => ?_, fun z => by cases z⟩⟩)))))))
                    · refine xe_one (xe_call c1 hr passX (xa_cons (xe_name 5 rfl (xa_cons (xe_int (xa_cons (xe_int (xa_nil ⟨z, 1, 6, rfl, hall z (by simp), _, rfl, fun e8 => ?_, fun e8 => ?_⟩))))))))
                      · refine xe_one (xe_and (xe_eqS (xe_name 3 rfl (xe_str ⟨_, rfl, _, rfl, fun e9 => ?_, fun e9 => ?_⟩))))
                        · simp only [decide_eq_true_eq] at e7 e9
                          rw [e7] at e9
                          exact absurd e9 lots_fill
                        · exact second false (by rw [e8, Bool.and_false]) (by rw [e9]; rfl)
                      · rw [e7, e8] at h
                        exact h
                    · refine xe_one (xe_and (xe_eqS (xe_name 3 rfl (xe_str ⟨_, rfl, _, rfl, fun e9 => ?_, fun e9 => ?_⟩))))
                      · refine xe_one (xe_call c1 hr passX (xa_cons (xe_name 5 rfl (xa_cons (xe_add (xe_name 4 (d := .int (iv l)) (by rw [← el]; rfl) (xe_int (xa_cons (xe_int (xa_nil ⟨z, _, 18, rfl, hall z (by simp), ?_⟩))))))))))
                        exact second _ (by rw [e7]; rfl) (by rw [e9]; rfl)
                      · exact second false (by rw [e7]; rfl) (by rw [e9]; rfl)
                  | _ => simp [isSr] at e6
            · have e4 : betw b 1 3 = false := by simpa using e4
              refine xb_one (xs_ret (xe_bl ?_))
              simpa [isSt, e3, e4] using h
          · have e3 : betw a 1 12 = false := by simpa using e3
            refine xb_one (xs_ret (xe_bl ?_))
            simpa [isSt, e3] using h
      | _ => simp [isTu] at e1
    · have hB : isSt d = false := by
        cases d with
        | tup xs => simp [isTu] at e1
        | _ => rfl
      rw [hB] at h
      exact xb_one (xs_ret (xe_bl h))
/-! ### check_store, check_start -/
def S_check_store (CS : Addr) : SpT := fun ds W O XC => ∃ d, ds = [d] ∧ KnD W d ∧ (isSt d = true → O .non W) ∧ (isSt d = false → XC CS W)
theorem ok_check_store {CS : Addr} (cS : ExC K mg "InvalidStore" CS) (c1 : Cal P w K mg base 2 "is_store" ["value"] S_is_store) (F : Fun K "check_store" "check_store" s_check_store f fd) (hm : mg "check_store" = some (.ref f)) (hb : Binds K fd ["value"] []) : Cal P w K mg base 3 "check_store" ["value"] (S_check_store CS) := by
  refine cal_mk F hm hb sc_check_store (fun ds W O XC h => ?_) (fun cdv A outer s H E ds W O XC hr h => ?_)
  · obtain ⟨d, rfl, _⟩ := h
    rfl
  · obtain ⟨d, rfl, hk, h1, h2⟩ := h
    refine xb_one (xs_if (xt_not (xt_val (xe_call c1 hr passX (xa_cons (xe_name 0 rfl (xa_nil ⟨d, rfl, hk, _, rfl, fun e => ?_, fun e => ?_⟩)))))))
    · exact xb_one (xs_raise cS (takes_of rfl rfl rfl rfl) (h2 (by simpa using e)))
    · exact xb_nil (h1 (by simpa using e))
end Law
namespace Law
open PySem PySem.Spec PyProof.Rows L2 SR
variable {P : Program} {w : World} {K : PySem.W.Frag} {mg : Str → Option Value} {base : Heap} {f : Addr} {fd : FuncData}
/-! ### given demands -/
theorem XI.imp {X : Cx} {E : XK} {XC : XCt} {g : Ga} {W : Om} {tg iter : Expr} {O O' : List D → (Om → Prop) → Om → Prop} (h : XI X E XC tg iter g W O) (i : ∀ ds ok W', O ds ok W' → O' ds ok W') : XI X E XC tg iter g W O' := by
  obtain ⟨wi, h1, h2⟩ := h
  exact ⟨wi, h1, fun σ H r k el R q => h2 σ H r k el R fun J H' ds ok W' k1 o1 it h3 => q J H' ds ok W' k1 o1 it (i ds ok W' h3)⟩
/-- a store, a start, demands: what is wrong first, or what they are -/
theorem Sto.d_inj {s t : Sto} (h : s.d = t.d) : s = t := by
  obtain ⟨a, b, c, d, e⟩ := s
  obtain ⟨a', b', c', d', e'⟩ := t
  simp only [Sto.d, D.tup.injEq, List.cons.injEq, D.int.injEq, D.str.injEq, and_true] at h
  obtain ⟨rfl, rfl, hk, rfl, rfl⟩ := h
  have : c = c' := by
    cases c <;> cases c' <;> first | rfl | exact absurd hk lots_fill | exact absurd hk.symm lots_fill
  rw [this]
theorem ints_inj : ∀ {a b : List Int}, a.map D.int = b.map D.int → a = b
  | [], [], _ => rfl
  | [], _ :: _, h => by cases h
  | _ :: _, [], h => by cases h
  | x :: a, y :: b, h => by
    rw [List.map_cons, List.map_cons, List.cons.injEq, D.int.injEq] at h
    rw [h.1, ints_inj h.2]
theorem tupI_inj {a b : List Int} (h : tupI a = tupI b) : a = b := ints_inj (D.tup.inj h)
theorem dayS_len {s : Sto} (h : s.ok) {x : Sit} (k : x.coming.length = s.wait.toNat) (d : Int) : (dayS s x d).coming.length = s.wait.toNat := by
  have := h.w1
  show (x.coming.tail ++ [_]).length = _
  rw [List.length_append, List.length_tail, k]
  show s.wait.toNat - 1 + 1 = _
  omega
theorem begunS_len {s : Sto} (h : s.ok) (x : Int) : (begunS s x).coming.length = s.wait.toNat := by
  have := h.w1
  show (List.replicate _ _ ++ [_]).length = _
  rw [List.length_append, List.length_replicate]
  show (s.wait - 1).toNat + 1 = _
  omega
theorem runS_len {s : Sto} (h : s.ok) : ∀ {x : Sit} (ms : List Int), x.coming.length = s.wait.toNat → (runS s x ms).coming.length = s.wait.toNat
  | _, [], k => k
  | x, d :: r, k => runS_len h (x := dayS s x d) r (dayS_len h k d)
theorem tupI_noscr {ms : List Int} (a : Addr) (ns : List Int) : tupI ms ≠ .scr a ns := by intro e; cases e
end Law
namespace Law
open PySem PySem.Spec PyProof.Rows L2 SR
variable {P : Program} {w : World} {K : PySem.W.Frag} {mg : Str → Option Value} {base : Heap} {f : Addr} {fd : FuncData}
/-! ### texts of stores -/
theorem slen (a b : Str) : (a ++ b).length = a.length + b.length := by
  show (Str.append a b).length = _
  simp [Str.length, Str.append]
theorem clen : (Str.empty).length = 0 ∧ ("room " : Str).length = 5 ∧ (", wait " : Str).length = 7 ∧ (", " : Str).length = 2 ∧ (" " : Str).length = 1 ∧ (" when at most " : Str).length = 14 ∧ ("fill to" : Str).length = 7 ∧ ("lots of" : Str).length = 7 := by decide +kernel
theorem lg_small {i : Int} (a : 0 ≤ i) (b : i ≤ 99) : i.natAbs.log2 < 1920 := by
  have : i.natAbs.log2 ≤ i.natAbs := Nat.log2_le_self _
  omega
def S_store_text : SpT := fun ds W O _ => ∃ st : Sto, ds = [st.d] ∧ st.ok ∧ O (.str (stText st)) W
theorem ok_store_text (F : Fun K "store_text" "store_text" s_store_text f fd) (hm : mg "store_text" = some (.ref f)) (hb : Binds K fd ["store"] []) : Cal P w K mg base 1 "store_text" ["store"] S_store_text := by
  refine cal_mk F hm hb sc_store_text (fun ds W O XC h => ?_) (fun cdv A outer s H E ds W O XC hr h => ?_)
  · obtain ⟨st, rfl, _⟩ := h
    rfl
  · obtain ⟨st, rfl, hs, h⟩ := h
    have := hs.r1; have := hs.r12; have := hs.w1; have := hs.w3; have := hs.l0; have := hs.l12; have := hs.s1; have := hs.s18
    have n1 : (Str.ofString (toString st.room)).length ≤ 2 := len_num (by omega) (by omega)
    have n2 : (Str.ofString (toString st.wait)).length ≤ 2 := len_num (by omega) (by omega)
    have n3 : (Str.ofString (toString st.size)).length ≤ 2 := len_num (by omega) (by omega)
    have n4 : (Str.ofString (toString st.level)).length ≤ 2 := len_num (by omega) (by omega)
    obtain ⟨z0, z1, z2, z3, z4, z5, z6, z7⟩ := clen
    have nr : (ruleS st.fill).length = 7 := by unfold ruleS; cases st.fill <;> first | exact z6 | exact z7
    refine xb_cons (xs_asg (xe_name 0 rfl (xg_tup rfl (xgs_cons (xg_name 1 sc_store_text.nd (xgs_cons (xg_name 2 sc_store_text.nd (xgs_cons (xg_name 3 sc_store_text.nd (xgs_cons (xg_name 4 sc_store_text.nd (xgs_cons (xg_name 5 sc_store_text.nd (xgs_nil ?_))))))))))))))
    have fin : ∀ W', W' = W → XB (cxOf (L2.CX P w) P w K mg base n_store_text "store_text" (defScope s_store_text) f cdv A outer s H E) E XC ((defBody s_store_text).drop 2) [some st.d, some (.int st.room), some (.int st.wait), some (.str (kindS st.fill)), some (.int st.level), some (.int st.size), some (.str (ruleS st.fill))] W' { nx := fun _ W' => O .non W', rt := O } := by
      intro W' eW
      subst eW
      refine xb_one (xs_ret (xe_joined (xe_str ⟨_, rfl, le1000 (by rw [slen, z0]; omega), ?_⟩)))
      refine xe_fmt (xe_name 1 rfl (.inr ⟨_, rfl, lg_small (by omega) (by omega), _, rfl, le1000 (by simp only [slen]; omega), ?_⟩))
      refine xe_str ⟨_, rfl, le1000 (by simp only [slen]; omega), ?_⟩
      refine xe_fmt (xe_name 2 rfl (.inr ⟨_, rfl, lg_small (by omega) (by omega), _, rfl, le1000 (by simp only [slen]; omega), ?_⟩))
      refine xe_str ⟨_, rfl, le1000 (by simp only [slen]; omega), ?_⟩
      refine xe_fmt (xe_name 6 rfl (.inl ⟨_, rfl, le1000 (by omega), _, rfl, le1000 (by simp only [slen]; omega), ?_⟩))
      refine xe_str ⟨_, rfl, le1000 (by simp only [slen]; omega), ?_⟩
      refine xe_fmt (xe_name 5 rfl (.inr ⟨_, rfl, lg_small (by omega) (by omega), _, rfl, le1000 (by simp only [slen]; omega), ?_⟩))
      refine xe_str ⟨_, rfl, le1000 (by simp only [slen]; omega), ?_⟩
      exact xe_fmt (xe_name 4 rfl (.inr ⟨_, rfl, lg_small (by omega) (by omega), _, rfl, le1000 (by simp only [slen]; omega), h⟩))
    refine xb_cons (xs_set 6 sc_store_text.nd (xe_if (xt_eqS (xe_name 3 rfl (xe_str ⟨_, rfl, _, rfl, fun e => ?_, fun e => ?_⟩)))))
    · have ef : st.fill = false := by
        cases hf : st.fill with
        | false => rfl
        | true => rw [hf] at e; exact absurd (of_decide_eq_true e) (by decide +kernel)
      have hru : ruleS st.fill = ("lots of" : Str) := by unfold ruleS; rw [ef]; rfl
      have t := fin _ rfl
      rw [hru] at t
      exact xe_str t
    · have ef : st.fill = true := by
        cases hf : st.fill with
        | true => rfl
        | false => rw [hf] at e; exact absurd rfl (of_decide_eq_false e)
      have hru : ruleS st.fill = ("fill to" : Str) := by unfold ruleS; rw [ef]; rfl
      have t := fin _ rfl
      rw [hru] at t
      exact xe_str t
/-! ### number_of -/
theorem comma1 : ("," : Str) = ⟨#[44]⟩ ∧ ("" : Str) = Str.empty := by decide +kernel
def sgOk : D → Bool
  | .str x => isDig (x.cps.toList.headD 0)
  | _ => false
def S_number_of : SpT := fun ds W O _ => ∃ x : Str, ds = [.str x] ∧ x.length ≤ 1000 ∧ O (.int (wnum x)) W
theorem ok_number_of (B : Bi mg) (F : Fun K "number_of" "number_of" s_number_of f fd) (hm : mg "number_of" = some (.ref f)) (hb : Binds K fd ["word"] []) : Cal P w K mg base 1 "number_of" ["word"] S_number_of := by
  refine cal_mkT F hm hb sc_number_of (by decide +kernel) (by decide) (fun ds W O XC h => ?_) (fun cdv A outer s H E ds W O XC hr h => ?_)
  · obtain ⟨x, rfl, _⟩ := h
    rfl
  · obtain ⟨x, rfl, hx, h⟩ := h
    refine xbt_cons (xst_set 0 sc_number_of.nd (xet_repl (xe_name 0 rfl ⟨x, rfl, ?_, ?_⟩)))
    · rw [show (("" : Str)).length = 0 by decide +kernel]; omega
    rw [comma1.1, comma1.2]
    have eu := tl_repl x 44
    generalize Txt.replace x ⟨#[44]⟩ Str.empty = u at eu ⊢
    have hn : wnum x = numL (TL.tl u) := by unfold wnum; rw [eu]
    have hul : u.length ≤ 1000 := by
      rw [TL.len_tl, eu]
      have := List.length_filter_le (fun c => decide (c ≠ 44)) (TL.tl x)
      have := TL.len_tl x
      omega
    have e1 : u.length = (TL.tl u).length := TL.len_tl u
    rw [hn] at h
    have h1 : ((1 ≤ (TL.tl u).length ∧ (TL.tl u).length ≤ 2) ∧ (TL.tl u).all isDig = true) ∨ numL (TL.tl u) = -1 := by
      by_cases hh : ((1 ≤ (TL.tl u).length ∧ (TL.tl u).length ≤ 2) ∧ (TL.tl u).all isDig = true)
      · exact .inl hh
      · exact .inr (numL_no hh)
    refine xbt_xb (xb_one (xs_ret (xe_if (xt_and2 (xt_chain (xe_int (xe_len B.len (xe_name 0 rfl ⟨le1000 hul, 1, _, rfl, rfl, fun a1 => xe_int ⟨2, rfl, fun a2 => ?_, fun a2 => ⟨fun z => (by cases z), fun _ => xe_neg (xe_int ⟨1, rfl, ?_⟩)⟩⟩, fun a1 => ⟨fun z => (by cases z), fun _ => ⟨fun z => (by cases z), fun _ => xe_neg (xe_int ⟨1, rfl, ?_⟩)⟩⟩⟩))))))))
    · refine xt_val (xe_all B.all (xe_lcP [("sign", 1)] sc_number_of.nd (lcTg_name 1 sc_number_of.nd) (blkOk_by (N := n_number_of) (sc := defScope s_number_of) (by decide +kernel)) (xi_str (xe_name 0 rfl ⟨u, rfl, fun _ _ => trivial, ?_, fun d => some (.bl (sgOk d)), fun i d W2 hd hs => ?_, fun l hl => ?_⟩))))
      · unfold signsD
        rw [List.length_map]
        exact le1000 (by rw [← e1]; exact hul)
      · obtain ⟨c, hc, rfl⟩ : ∃ c, c ∈ TL.tl u ∧ D.str ⟨#[c]⟩ = d := List.mem_map.mp (List.mem_of_getElem? hd)
        refine ⟨_, rfl, fun s H C cl fp => ⟨Sub.refl _, fun _ s H C cl fp => ?_, fun z => by cases z⟩⟩
        refine xe_inSign (xe_name 1 rfl (xe_str ⟨c, _, rfl, rfl, Sub.refl _, ?_⟩))
        rw [in_digs]
        rfl
      · refine ⟨l, (TL.tl u).map isDig, rfl, ?_, ?_⟩
        · rw [updO_same, filterMap_some', signsD, List.map_map, List.map_map]
          rfl
        · rw [all_map_id]
          refine ⟨_, rfl, fun e => ?_, fun e => ?_⟩
          · refine XE.sub (W' := W) (Sub.new hl) (xe_intS B.int (xe_name 0 rfl ⟨u, _, rfl, ?_, (by have := of_decide_eq_true a2; omega), h⟩))
            have := int_numL (l := TL.tl u) ⟨by omega, by have := of_decide_eq_true a2; omega⟩ e
            rwa [TL.mk_tl] at this
          · refine XE.sub (W' := W) (Sub.new hl) (xe_neg (xe_int ⟨1, rfl, ?_⟩))
            rcases h1 with h1 | h1
            · rw [h1.2] at e; cases e
            · rw [h1] at h; exact h
    · rcases h1 with h1 | h1
      · have := of_decide_eq_false a2
        omega
      · rw [h1] at h; exact h
    · rcases h1 with h1 | h1
      · omega
      · rw [h1] at h; exact h
/-! ### words_of -/
theorem sp1 : (((" " : Str)).length == 0) = false ∧ (((" " : Str)).cps.all (· < 256) = true) := by decide +kernel
def S_words_of (CT : Addr) : SpT := fun ds W O XC => ∃ d many, ds = [d, .int many] ∧ (tyD W d).isSome = true ∧ (isSr d = false → XC CT W) ∧ ∀ x : Str, d = .str x → x.length ≤ 1000 ∧ ((((Txt.split x " ").length : Nat) : Int) ≠ many → XC CT W) ∧
  ((((Txt.split x " ").length : Nat) : Int) = many → ∀ l, W l = none → O (.p l) (updO W l (.lst ((Txt.split x " ").map D.str))))
theorem ok_words_of {CT : Addr} (B : Bi mg) (cT : ExC K mg "InvalidText" CT) (F : Fun K "words_of" "words_of" s_words_of f fd) (hm : mg "words_of" = some (.ref f)) (hb : Binds K fd ["text", "many"] []) : Cal P w K mg base 1 "words_of" ["text", "many"] (S_words_of CT) := by
  refine cal_mk F hm hb sc_words_of (fun ds W O XC h => ?_) (fun cdv A outer s H E ds W O XC hr h => ?_)
  · obtain ⟨d, many, rfl, _⟩ := h
    rfl
  · obtain ⟨d, many, rfl, ht, hx, h⟩ := h
    obtain ⟨t, ht1, hkt⟩ := kit_sr ht
    refine xb_cons (xs_if (xt_not (xt_val (xe_isi B.isinstance (xe_name 0 rfl (xe_ty B.str (by decide +kernel) ⟨"str", t, _, rfl, ht1, hkt, _, rfl, fun e => ?_, fun e => xb_nil ?_⟩))))))
    · exact xb_one (xs_raise cT (takes_of rfl rfl rfl rfl) (hx (by simpa using e)))
    have e : isSr d = true := by simpa using e
    obtain ⟨x, rfl⟩ : ∃ x, d = .str x := by cases d <;> first | exact ⟨_, rfl⟩ | cases e
    obtain ⟨hl, hx2, h⟩ := h x rfl
    refine xb_cons (xs_set 2 sc_words_of.nd (xe_split (xe_name 0 rfl ⟨x, rfl, xe_str ⟨_, rfl, sp1.1, (by rw [sizeLine_eq]; omega), fun l hl => ?_⟩⟩)))
    refine xb_cons (xs_if (xt_neS (xe_len B.len (xe_name 2 rfl ⟨_, updO_same, xe_name 1 rfl ⟨_, rfl, _, rfl, fun e2 => ?_, fun e2 => xb_nil ?_⟩⟩))))
    · refine xb_sub (Sub.new hl) (xb_one (xs_raise cT (takes_of rfl rfl rfl rfl) (hx2 ?_)))
      rw [List.length_map] at e2
      simpa using e2
    · rw [List.length_map] at e2
      exact xb_one (xs_ret (xe_name 2 rfl (h (by simpa using e2) l hl)))
/-! ### parse_store -/
def S_parse_store (CT : Addr) : SpT := fun ds W O XC => ∃ d, ds = [d] ∧ (tyD W d).isSome = true ∧ (∀ x, d = .str x → x.length ≤ 1000) ∧ ((∀ st : Sto, st.ok → d ≠ .str (stText st)) → XC CT W) ∧ (∀ st : Sto, st.ok → d = .str (stText st) → O st.d W)
theorem ok_parse_store {CT : Addr} (cT : ExC K mg "InvalidText" CT) (c1 : Cal P w K mg base 1 "words_of" ["text", "many"] (S_words_of CT)) (c2 : Cal P w K mg base 1 "number_of" ["word"] S_number_of) (c3 : Cal P w K mg base 2 "is_store" ["value"] S_is_store) (c4 : Cal P w K mg base 1 "store_text" ["store"] S_store_text)
    (F : Fun K "parse_store" "parse_store" s_parse_store f fd) (hm : mg "parse_store" = some (.ref f)) (hb : Binds K fd ["text"] []) : Cal P w K mg base 3 "parse_store" ["text"] (S_parse_store CT) := by
  refine cal_mk F hm hb sc_parse_store (fun ds W O XC h => ?_) (fun cdv A outer s H E ds W O XC hr h => ?_)
  · obtain ⟨d, rfl, _⟩ := h
    rfl
  · obtain ⟨d, rfl, ht, hlen, hx, h⟩ := h
    refine xb_cons (xs_set 1 sc_parse_store.nd (xe_call c1 (hr.mono (by decide)) passX (xa_cons (xe_name 0 rfl (xa_cons (xe_int (xa_nil ⟨d, 11, rfl, ht, fun e => hx fun st _ e2 => ?_, fun x e1 => ⟨hlen x e1, fun e => hx fun st hs e2 => ?_, fun e l hl => ?_⟩⟩)))))))
    · rw [e2] at e; cases e
    · rw [e1] at e2
      cases e2
      rw [stText_split hs] at e
      exact e rfl
    subst e1
    have hx1 := hlen x rfl
    have e11 : (Txt.split x " ").length = 11 := by omega
    have hwl : ∀ y ∈ Txt.split x " ", y.length ≤ 1000 := split_len hx1
    have hks := fun st hs e => (stText_split (s := st) hs).symm.trans (congrArg (fun z => Txt.split z " ") (e : stText st = x))
    generalize Txt.split x " " = ws at e11 hwl hks
    match ws, e11 with
    | [w0, w1, w2, w3, w4, w5, w6, w7, w8, w9, w10], _ => ?_
    refine xb_cons (xs_set 2 sc_parse_store.nd (xe_ix (xe_name 1 rfl (xe_int ⟨_, .str w4, updO_same, rfl, ?_⟩))))
    refine xb_cons (xs_set 3 sc_parse_store.nd (xe_tup (xa_cons (xe_call c2 (hr.mono (by decide)) passX (xa_cons (xe_ix (xe_name 1 rfl (xe_int ⟨_, .str w1, updO_same, rfl, xa_nil ⟨w1, rfl, hwl _ (by simp), ?_⟩⟩))))))))
    refine xa_cons (xe_call c2 (hr.mono (by decide)) passX (xa_cons (xe_ix (xe_name 1 rfl (xe_int ⟨_, .str w3, updO_same, rfl, xa_nil ⟨w3, rfl, hwl _ (by simp), ?_⟩⟩)))))
    refine xa_cons (xe_name 2 rfl (xa_cons (xe_call c2 (hr.mono (by decide)) passX (xa_cons (xe_ix (xe_name 1 rfl (xe_int ⟨_, .str w10, updO_same, rfl, xa_nil ⟨w10, rfl, hwl _ (by simp), ?_⟩⟩)))))))
    refine xa_cons (xe_call c2 (hr.mono (by decide)) passX (xa_cons (xe_ix (xe_name 1 rfl (xe_int ⟨_, .str w6, updO_same, rfl, xa_nil ⟨w6, rfl, hwl _ (by simp), xa_nil ⟨by simp, ?_⟩⟩⟩)))))
    refine xb_sub (Sub.new hl) ?_
    have kd : KnD W (.tup [.int (wnum w1), .int (wnum w3), .str w4, .int (wnum w10), .int (wnum w6)]) := ⟨rfl, fun xs e z hz => by
      cases e
      simp only [List.mem_cons, List.not_mem_nil, or_false] at hz
      rcases hz with rfl | rfl | rfl | rfl | rfl <;> rfl⟩
    have uniq : ∀ st : Sto, st.ok → stText st = x → D.tup [.int (wnum w1), .int (wnum w3), .str w4, .int (wnum w10), .int (wnum w6)] = st.d := fun st hs e => by
      have e3 := hks st hs e
      have e4 := rdSto_of hs
      rw [e3] at e4
      have e4 : [wnum w1, wnum w3, wnum w10, wnum w6] = [st.room, st.wait, st.level, st.size] := e4
      simp only [List.cons.injEq, and_true] at e4
      obtain ⟨a1, a2, a3, a4⟩ := e4
      unfold stWords at e3
      simp only [List.cons.injEq, and_true] at e3
      rw [a1, a2, a3, a4, ← e3.2.2.2.2.1]
      rfl
    refine xb_cons (xs_if (xt_or2 (xt_not (xt_val (xe_call c3 hr passX (xa_cons (xe_name 3 rfl (xa_nil ⟨_, rfl, kd, _, rfl, fun e => ?_, fun e => ?_⟩))))))))
    · have e5 : isSt (.tup [.int (wnum w1), .int (wnum w3), .str w4, .int (wnum w10), .int (wnum w6)]) = true := by simpa using e
      obtain ⟨st, hs, e6⟩ := isSt_of e5
      rw [e6]
      refine xt_neS (xe_call c4 (hr.mono (by decide)) passX (xa_cons (xe_name 3 rfl (xa_nil ⟨st, rfl, hs, xe_name 0 rfl ⟨_, rfl, _, rfl, fun e7 => ?_, fun e7 => ?_⟩⟩))))
      · have e8 : ¬ stText st = x := by simpa using e7
        refine xb_one (xs_raise cT (takes_of rfl rfl rfl rfl) (hx fun s2 h2 e9 => e8 ?_))
        cases e9
        have := uniq s2 h2 rfl
        rw [e6] at this
        rw [Sto.d_inj this]
      · have e8 : stText st = x := by simpa using e7
        exact xb_nil (xb_one (xs_ret (xe_name 3 rfl (h st hs (by rw [e8])))))
    · have e5 : isSt (.tup [.int (wnum w1), .int (wnum w3), .str w4, .int (wnum w10), .int (wnum w6)]) = false := by simpa using e
      refine ⟨fun _ => xb_one (xs_raise cT (takes_of rfl rfl rfl rfl) (hx fun s2 h2 e9 => ?_)), fun z => (by cases z)⟩
      cases e9
      rw [uniq s2 h2 rfl, s2.is h2] at e5
      cases e5
end Law
namespace Law
open PySem PySem.Spec PyProof.Rows L2 SR
variable {P : Program} {w : World} {K : PySem.W.Frag} {mg : Str → Option Value} {base : Heap} {f : Addr} {fd : FuncData}
theorem isBd_of {d : D} (h : isBd d = true) : ∃ b : Bd, b.ok ∧ d = b.d := by
  unfold isBd at h
  split at h
  · rename_i l hi dy m
    simp only [Bool.and_eq_true] at h
    obtain ⟨h1, h2, h3, h4⟩ := h
    obtain ⟨e1, a1, a2⟩ := betw_int h1
    obtain ⟨e2, b1, b2⟩ := betw_int h2
    obtain ⟨e3, c1, c2⟩ := betw_int h3
    obtain ⟨e4, g1, g2⟩ := betw_int h4
    exact ⟨⟨iv l, iv hi, iv dy, iv m⟩, ⟨b1, b2, a2, c1, c2, g1, g2⟩, by rw [e1, e2, e3, e4]; rfl⟩
  · cases h
theorem _root_.SR.Bd.d_inj {a b : Bd} (h : a.d = b.d) : a = b := by
  obtain ⟨l, hi, dy, m⟩ := a
  obtain ⟨l2, hi2, dy2, m2⟩ := b
  simp only [Bd.d, D.tup.injEq, List.cons.injEq, D.int.injEq, and_true] at h
  obtain ⟨rfl, rfl, rfl, rfl⟩ := h
  rfl
end Law
namespace Law
open PySem PySem.Spec PyProof.Rows L2 SR
variable {P : Program} {w : World} {K : PySem.W.Frag} {mg : Str → Option Value} {base : Heap} {f : Addr} {fd : FuncData}
/-! ### texts of bounds -/
theorem bclen : (" to " : Str).length = 4 ∧ (", at most " : Str).length = 10 ∧ (" in " : Str).length = 4 := by decide +kernel
def bdText (b : Bd) : Str := ((((((Str.empty ++ numS b.low) ++ " to ") ++ numS b.high) ++ ", at most ") ++ numS b.most) ++ " in ") ++ numS b.days
def bdWords (b : Bd) : List Str := [numS b.low, "to", numS b.high ++ ",", "at", "most", numS b.most, "in", numS b.days]
theorem sgn3 : TL.tl (" to " : Str) = [32, 116, 111, 32] ∧ TL.tl (", at most " : Str) = [44, 32, 97, 116, 32, 109, 111, 115, 116, 32] ∧ TL.tl (" in " : Str) = [32, 105, 110, 32] ∧ TL.tl ("in" : Str) = [105, 110] := by decide +kernel
theorem bdText_join (b : Bd) : bdText b = Txt.join " " (bdWords b) := by
  obtain ⟨a1, a2, a3, a4, a5, a6, a7, a8, a9, a10⟩ := sgn1
  obtain ⟨b1, b2, b3, b4, b5, b6, b7⟩ := sgn2
  obtain ⟨c1, c2, c3, c4⟩ := sgn3
  refine TL.ext_tl ?_
  rw [TL.join_eq, TL.tl_join]
  unfold bdText bdWords
  simp only [TL.tl_append, List.map_cons, List.map_nil, TL.joinL, a6, a9, a10, b5, b7, c1, c2, c3, c4, tl_comma, List.append_assoc, List.cons_append, List.nil_append]
theorem Bd.ok.nums {b : Bd} (h : b.ok) : (0 ≤ b.low ∧ b.low ≤ 99) ∧ (0 ≤ b.high ∧ b.high ≤ 99) ∧ (0 ≤ b.days ∧ b.days ≤ 99) ∧ (0 ≤ b.most ∧ b.most ≤ 99) := by
  have := h.l0; have := h.lh; have := h.h4; have := h.d1; have := h.d3; have := h.m12; have h1 := h.dl
  have : 0 ≤ b.days * b.low := Int.mul_nonneg (by omega) (by omega)
  omega
theorem bdText_split {b : Bd} (h : b.ok) : Txt.split (bdText b) " " = bdWords b := by
  obtain ⟨a1, a2, a3, a4, a5, a6, a7, a8, a9, a10⟩ := sgn1
  obtain ⟨b1, b2, b3, b4, b5, b6, b7⟩ := sgn2
  obtain ⟨c1, c2, c3, c4⟩ := sgn3
  obtain ⟨n1, n2, n3, n4⟩ := Bd.ok.nums h
  rw [bdText_join]
  refine TL.split_join (s := 32) (S := []) a6 (by decide +kernel) (by unfold bdWords; simp) fun p hp => ?_
  unfold bdWords at hp
  simp only [List.mem_cons, List.not_mem_nil, or_false] at hp
  rcases hp with rfl | rfl | rfl | rfl | rfl | rfl | rfl | rfl
  · exact no32_num n1.1 n1.2
  · rw [b5]; decide
  · exact no32_comma n2.1 n2.2
  · rw [a9]; decide
  · rw [a10]; decide
  · exact no32_num n4.1 n4.2
  · rw [c4]; decide
  · exact no32_num n3.1 n3.2
def rdBd (ws : List Str) : List Int := [wnum (ws.getD 0 Str.empty), wnum (ws.getD 2 Str.empty), wnum (ws.getD 7 Str.empty), wnum (ws.getD 5 Str.empty)]
theorem rdBd_of {b : Bd} (h : b.ok) : rdBd (bdWords b) = [b.low, b.high, b.days, b.most] := by
  obtain ⟨n1, n2, n3, n4⟩ := Bd.ok.nums h
  show [wnum (numS b.low), wnum (numS b.high ++ ","), wnum (numS b.days), wnum (numS b.most)] = _
  rw [wnum_num n1.1 n1.2, wnum_comma n2.1 n2.2, wnum_num n3.1 n3.2, wnum_num n4.1 n4.2]
theorem bdText_inj {b c : Bd} (hb : b.ok) (hc : c.ok) (h : bdText b = bdText c) : b = c := by
  have e : bdWords b = bdWords c := by rw [← bdText_split hb, ← bdText_split hc, h]
  have e1 : [b.low, b.high, b.days, b.most] = [c.low, c.high, c.days, c.most] := by rw [← rdBd_of hb, ← rdBd_of hc, e]
  simp only [List.cons.injEq, and_true] at e1
  obtain ⟨l1, h1, d1, m1⟩ := b
  obtain ⟨l2, h2, d2, m2⟩ := c
  simp only at e1
  obtain ⟨rfl, rfl, rfl, rfl⟩ := e1
  rfl
theorem bdText_len {b : Bd} (h : b.ok) : (bdText b).length ≤ 60 := by
  obtain ⟨n1, n2, n3, n4⟩ := Bd.ok.nums h
  have k1 := digs_len (n := b.low); have k2 := digs_len (n := b.high); have k3 := digs_len (n := b.days); have k4 := digs_len (n := b.most)
  obtain ⟨c1, c2, c3, c4⟩ := sgn3
  rw [TL.len_tl]
  unfold bdText
  simp only [TL.tl_append, sgn2.2.2.2.2.2.2, c1, c2, c3, List.length_append, List.length_cons, List.length_nil]
  rw [tl_num n1.1 n1.2, tl_num n2.1 n2.2, tl_num n3.1 n3.2, tl_num n4.1 n4.2]
  omega
def S_bounds_text : SpT := fun ds W O _ => ∃ b : Bd, ds = [b.d] ∧ b.ok ∧ O (.str (bdText b)) W
theorem ok_bounds_text (F : Fun K "bounds_text" "bounds_text" s_bounds_text f fd) (hm : mg "bounds_text" = some (.ref f)) (hb : Binds K fd ["bounds"] []) : Cal P w K mg base 1 "bounds_text" ["bounds"] S_bounds_text := by
  refine cal_mk F hm hb sc_bounds_text (fun ds W O XC h => ?_) (fun cdv A outer s H E ds W O XC hr h => ?_)
  · obtain ⟨b, rfl, _⟩ := h
    rfl
  · obtain ⟨b, rfl, hs, h⟩ := h
    obtain ⟨m1, m2, m3, m4⟩ := Bd.ok.nums hs
    have n1 : (Str.ofString (toString b.low)).length ≤ 2 := len_num m1.1 m1.2
    have n2 : (Str.ofString (toString b.high)).length ≤ 2 := len_num m2.1 m2.2
    have n3 : (Str.ofString (toString b.days)).length ≤ 2 := len_num m3.1 m3.2
    have n4 : (Str.ofString (toString b.most)).length ≤ 2 := len_num m4.1 m4.2
    obtain ⟨z1, z2, z3⟩ := bclen
    have z0 := clen.1
    refine xb_cons (xs_asg (xe_name 0 rfl (xg_tup rfl (xgs_cons (xg_name 1 sc_bounds_text.nd (xgs_cons (xg_name 2 sc_bounds_text.nd (xgs_cons (xg_name 3 sc_bounds_text.nd (xgs_cons (xg_name 4 sc_bounds_text.nd (xgs_nil ?_))))))))))))
    refine xb_one (xs_ret (xe_joined (xe_fmt (xe_name 1 rfl (.inr ⟨_, rfl, lg_small m1.1 m1.2, _, rfl, le1000 (by simp only [slen]; omega), ?_⟩)))))
    refine xe_str ⟨_, rfl, le1000 (by simp only [slen]; omega), ?_⟩
    refine xe_fmt (xe_name 2 rfl (.inr ⟨_, rfl, lg_small m2.1 m2.2, _, rfl, le1000 (by simp only [slen]; omega), ?_⟩))
    refine xe_str ⟨_, rfl, le1000 (by simp only [slen]; omega), ?_⟩
    refine xe_fmt (xe_name 4 rfl (.inr ⟨_, rfl, lg_small m4.1 m4.2, _, rfl, le1000 (by simp only [slen]; omega), ?_⟩))
    refine xe_str ⟨_, rfl, le1000 (by simp only [slen]; omega), ?_⟩
    exact xe_fmt (xe_name 3 rfl (.inr ⟨_, rfl, lg_small m3.1 m3.2, _, rfl, le1000 (by simp only [slen]; omega), h⟩))
/-! ### format_store, format_bounds -/
def S_format_store (CS : Addr) : SpT := fun ds W O XC => ∃ st : Sto, ds = [st.d] ∧ st.ok ∧ O (.str (stText st)) W
theorem ok_format_store {CS : Addr} (c1 : Cal P w K mg base 3 "check_store" ["value"] (S_check_store CS)) (c2 : Cal P w K mg base 1 "store_text" ["store"] S_store_text) (F : Fun K "format_store" "format_store" s_format_store f fd) (hm : mg "format_store" = some (.ref f)) (hb : Binds K fd ["store"] []) : Cal P w K mg base 4 "format_store" ["store"] (S_format_store CS) := by
  refine cal_mk F hm hb sc_format_store (fun ds W O XC h => ?_) (fun cdv A outer s H E ds W O XC hr h => ?_)
  · obtain ⟨st, rfl, _⟩ := h
    rfl
  · obtain ⟨st, rfl, hs, h⟩ := h
    refine xb_cons (xs_expr (xe_call c1 hr passX (xa_cons (xe_name 0 rfl (xa_nil ⟨_, rfl, st.kn _, fun _ => ?_, fun e => (by rw [Sto.is hs] at e; cases e)⟩)))))
    exact xb_one (xs_ret (xe_call c2 (hr.mono (by decide)) passX (xa_cons (xe_name 0 rfl (xa_nil ⟨st, rfl, hs, h⟩)))))
def S_format_bounds (CB : Addr) : SpT := fun ds W O XC => ∃ b : Bd, ds = [b.d] ∧ b.ok ∧ O (.str (bdText b)) W
theorem ok_format_bounds {CB : Addr} (c1 : Cal P w K mg base 3 "check_bounds" ["value"] (S_check_bounds CB)) (c2 : Cal P w K mg base 1 "bounds_text" ["bounds"] S_bounds_text) (F : Fun K "format_bounds" "format_bounds" s_format_bounds f fd) (hm : mg "format_bounds" = some (.ref f)) (hb : Binds K fd ["bounds"] []) : Cal P w K mg base 4 "format_bounds" ["bounds"] (S_format_bounds CB) := by
  refine cal_mk F hm hb sc_format_bounds (fun ds W O XC h => ?_) (fun cdv A outer s H E ds W O XC hr h => ?_)
  · obtain ⟨b, rfl, _⟩ := h
    rfl
  · obtain ⟨b, rfl, hs, h⟩ := h
    refine xb_cons (xs_expr (xe_call c1 hr passX (xa_cons (xe_name 0 rfl (xa_nil ⟨_, rfl, b.kn _, fun _ => ?_, fun e => (by rw [Bd.is hs] at e; cases e)⟩)))))
    exact xb_one (xs_ret (xe_call c2 (hr.mono (by decide)) passX (xa_cons (xe_name 0 rfl (xa_nil ⟨b, rfl, hs, h⟩)))))
/-! ### parse_bounds -/
def S_parse_bounds (CT : Addr) : SpT := fun ds W O XC => ∃ d, ds = [d] ∧ (tyD W d).isSome = true ∧ (∀ x, d = .str x → x.length ≤ 1000) ∧ ((∀ b : Bd, b.ok → d ≠ .str (bdText b)) → XC CT W) ∧ (∀ b : Bd, b.ok → d = .str (bdText b) → O b.d W)
theorem ok_parse_bounds {CT : Addr} (cT : ExC K mg "InvalidText" CT) (c1 : Cal P w K mg base 1 "words_of" ["text", "many"] (S_words_of CT)) (c2 : Cal P w K mg base 1 "number_of" ["word"] S_number_of) (c3 : Cal P w K mg base 2 "is_bounds" ["value"] S_is_bounds) (c4 : Cal P w K mg base 1 "bounds_text" ["bounds"] S_bounds_text)
    (F : Fun K "parse_bounds" "parse_bounds" s_parse_bounds f fd) (hm : mg "parse_bounds" = some (.ref f)) (hb : Binds K fd ["text"] []) : Cal P w K mg base 3 "parse_bounds" ["text"] (S_parse_bounds CT) := by
  refine cal_mk F hm hb sc_parse_bounds (fun ds W O XC h => ?_) (fun cdv A outer s H E ds W O XC hr h => ?_)
  · obtain ⟨d, rfl, _⟩ := h
    rfl
  · obtain ⟨d, rfl, ht, hlen, hx, h⟩ := h
    refine xb_cons (xs_set 1 sc_parse_bounds.nd (xe_call c1 (hr.mono (by decide)) passX (xa_cons (xe_name 0 rfl (xa_cons (xe_int (xa_nil ⟨d, 8, rfl, ht, fun e => hx fun b _ e2 => ?_, fun x e1 => ⟨hlen x e1, fun e => hx fun b hs e2 => ?_, fun e l hl => ?_⟩⟩)))))))
    · rw [e2] at e; cases e
    · rw [e1] at e2
      cases e2
      rw [bdText_split hs] at e
      exact e rfl
    subst e1
    have hx1 := hlen x rfl
    have e8 : (Txt.split x " ").length = 8 := by omega
    have hwl : ∀ y ∈ Txt.split x " ", y.length ≤ 1000 := split_len hx1
    have hks := fun b hs e => (bdText_split (b := b) hs).symm.trans (congrArg (fun z => Txt.split z " ") (e : bdText b = x))
    generalize Txt.split x " " = ws at e8 hwl hks
    match ws, e8 with
    | [w0, w1, w2, w3, w4, w5, w6, w7], _ => ?_
    refine xb_cons (xs_set 2 sc_parse_bounds.nd (xe_tup (xa_cons (xe_call c2 (hr.mono (by decide)) passX (xa_cons (xe_ix (xe_name 1 rfl (xe_int ⟨_, .str w0, updO_same, rfl, xa_nil ⟨w0, rfl, hwl _ (by simp), ?_⟩⟩))))))))
    refine xa_cons (xe_call c2 (hr.mono (by decide)) passX (xa_cons (xe_ix (xe_name 1 rfl (xe_int ⟨_, .str w2, updO_same, rfl, xa_nil ⟨w2, rfl, hwl _ (by simp), ?_⟩⟩)))))
    refine xa_cons (xe_call c2 (hr.mono (by decide)) passX (xa_cons (xe_ix (xe_name 1 rfl (xe_int ⟨_, .str w7, updO_same, rfl, xa_nil ⟨w7, rfl, hwl _ (by simp), ?_⟩⟩)))))
    refine xa_cons (xe_call c2 (hr.mono (by decide)) passX (xa_cons (xe_ix (xe_name 1 rfl (xe_int ⟨_, .str w5, updO_same, rfl, xa_nil ⟨w5, rfl, hwl _ (by simp), xa_nil ⟨by simp, ?_⟩⟩⟩)))))
    refine xb_sub (Sub.new hl) ?_
    have kd : KnD W (.tup [.int (wnum w0), .int (wnum w2), .int (wnum w7), .int (wnum w5)]) := ⟨rfl, fun xs e z hz => by
      cases e
      simp only [List.mem_cons, List.not_mem_nil, or_false] at hz
      rcases hz with rfl | rfl | rfl | rfl <;> rfl⟩
    have uniq : ∀ b : Bd, b.ok → bdText b = x → D.tup [.int (wnum w0), .int (wnum w2), .int (wnum w7), .int (wnum w5)] = b.d := fun b hs e => by
      have e3 := hks b hs e
      have e4 := rdBd_of hs
      rw [e3] at e4
      have e4 : [wnum w0, wnum w2, wnum w7, wnum w5] = [b.low, b.high, b.days, b.most] := e4
      simp only [List.cons.injEq, and_true] at e4
      obtain ⟨a1, a2, a3, a4⟩ := e4
      rw [a1, a2, a3, a4]
      rfl
    refine xb_cons (xs_if (xt_or2 (xt_not (xt_val (xe_call c3 hr passX (xa_cons (xe_name 2 rfl (xa_nil ⟨_, rfl, kd, _, rfl, fun e => ?_, fun e => ?_⟩))))))))
    · have e5 : isBd (.tup [.int (wnum w0), .int (wnum w2), .int (wnum w7), .int (wnum w5)]) = true := by simpa using e
      obtain ⟨b, hs, e6⟩ := isBd_of e5
      rw [e6]
      refine xt_neS (xe_call c4 (hr.mono (by decide)) passX (xa_cons (xe_name 2 rfl (xa_nil ⟨b, rfl, hs, xe_name 0 rfl ⟨_, rfl, _, rfl, fun e7 => ?_, fun e7 => ?_⟩⟩))))
      · have e8 : ¬ bdText b = x := by simpa using e7
        refine xb_one (xs_raise cT (takes_of rfl rfl rfl rfl) (hx fun s2 h2 e9 => e8 ?_))
        cases e9
        have := uniq s2 h2 rfl
        rw [e6] at this
        rw [Bd.d_inj this]
      · have e8 : bdText b = x := by simpa using e7
        exact xb_nil (xb_one (xs_ret (xe_name 2 rfl (h b hs (by rw [e8])))))
    · have e5 : isBd (.tup [.int (wnum w0), .int (wnum w2), .int (wnum w7), .int (wnum w5)]) = false := by simpa using e
      refine ⟨fun _ => xb_one (xs_raise cT (takes_of rfl rfl rfl rfl) (hx fun s2 h2 e9 => ?_)), fun z => (by cases z)⟩
      cases e9
      rw [uniq s2 h2 rfl, Bd.is h2] at e5
      cases e5
end Law
namespace Law
open PySem PySem.Spec PyProof.Rows L2 SR
variable {P : Program} {w : World} {K : PySem.W.Frag} {mg : Str → Option Value} {base : Heap} {f : Addr} {fd : FuncData}
/-! ### the town -/
def S_law_town : SpT := fun ds W O _ => ∃ a ns, ds = [.scr a ns] ∧ ns.length ≤ 63 ∧ ∀ l, W l = none → O (.p l) (updO W l (.lst (.int 0 :: ns.map D.int)))
theorem ok_law_town (B : Bi mg) (F : Fun K "_law_town" "_law_town" s__law_town f fd) (hm : mg "_law_town" = some (.ref f)) (hb : Binds K fd ["script"] []) : Cal P w K mg base 1 "_law_town" ["script"] S_law_town := by
  refine cal_mk F hm hb sc__law_town (fun ds W O XC h => ?_) (fun cdv A outer s H E ds W O XC hr h => ?_)
  · obtain ⟨a, ns, rfl, _⟩ := h
    rfl
  · obtain ⟨a, ns, rfl, hl, h⟩ := h
    refine xb_one (xs_ret (xe_shr (xe_add (xe_lst (xa_cons (xe_int (xa_nil ⟨by simp, fun l1 h1 => ?_⟩)))))))
    refine xe_list B.list (xe_name 0 rfl ⟨ns.map D.int, rfl, fun l2 h2 => ?_⟩)
    have ne : l1 ≠ l2 := fun e => by subst e; rw [updO_same] at h2; cases h2
    refine ⟨[.int 0], ns.map D.int, by rw [updO_ne ne, updO_same], updO_same, le1000 (by simp; omega), fun p hp => ?_⟩
    have hp1 : W p = none := by
      have q := hp
      unfold updO at q
      split at q
      · cases q
      · split at q
        · cases q
        · exact q
    refine ⟨updO W p (.lst (.int 0 :: ns.map D.int)), fun b o e => ?_, h p hp1⟩
    by_cases hb : b = p
    · subst hb; rw [updO_same] at e ⊢; exact e
    · rw [updO_ne hb] at e ⊢
      have h1' : W l1 = none := h1
      rw [updO_ne (fun z => by subst z; rw [updO_ne (show b ≠ l1 from neO e h1')] at h2; rw [h2] at e; cases e), updO_ne (neO e h1')]
      exact e
/-! ### a draw -/
/-- the town behind at most n draws -/
def TwO (ns : List Int) (n : Nat) (ob : Ob) : Prop := ∃ (t : Int) (ls : List Int), ob = .lst (.int t :: ls.map D.int) ∧ ls.length = ns.length ∧ 0 ≤ t ∧ t ≤ n
theorem TwO.mono {ns : List Int} {n m : Nat} {ob : Ob} (h : TwO ns n ob) (hm : n ≤ m) : TwO ns m ob := by
  obtain ⟨t, ls, e, hl, h0, h1⟩ := h
  exact ⟨t, ls, e, hl, h0, by omega⟩
def S_law_draw : SpT := fun ds W O _ => ∃ a ns tw lim n ob, ds = [.scr a ns, .p tw, .int lim] ∧ ns.length ≤ 63 ∧ 0 < lim ∧ lim ≤ 1000 ∧ W tw = some ob ∧ TwO ns n ob ∧ n ≤ 100000 ∧ ∀ r ob', 0 ≤ r → r < lim → TwO ns (n + 1) ob' → O (.int r) (updO W tw ob')
theorem ok_law_draw (B : Bi mg) (F : Fun K "_law_draw" "_law_draw" s__law_draw f fd) (hm : mg "_law_draw" = some (.ref f)) (hb : Binds K fd ["script", "town", "limit"] []) : Cal P w K mg base 1 "_law_draw" ["script", "town", "limit"] S_law_draw := by
  refine cal_mk F hm hb sc__law_draw (fun ds W O XC h => ?_) (fun cdv A outer s H E ds W O XC hr h => ?_)
  · obtain ⟨a, ns, tw, lim, n, ob, rfl, _⟩ := h
    rfl
  · obtain ⟨a, ns, tw, lim, n, ob, rfl, hl, hp, hq, htw, ⟨t, ls, rfl, hls, h0, h1⟩, hn, h⟩ := h
    have cm : ∀ x : Int, CMul x 7 := fun x => .inr ⟨by decide, by decide⟩
    have ct : CMul (t + 1) (t + 1) := .inl ⟨by omega, by omega⟩
    -- town[0] = town[0] + 1
    refine xb_cons (xs_asg (xe_add (xe_ix (xe_name 1 rfl (xe_int ⟨_, .int t, htw, at0 _ _, xe_int (xg_sub (xe_name 1 rfl (xe_int ⟨tw, _, 0, 0, rfl, rfl, htw, ix0 _ _, ?_⟩)))⟩)))))
    rw [show (D.int t :: ls.map D.int).set 0 (.int (t + 1)) = .int (t + 1) :: ls.map D.int from rfl]
    have ht1 : ∀ W', updO W tw (.lst (.int (t + 1) :: ls.map D.int)) = W' → W' tw = some (.lst (.int (t + 1) :: ls.map D.int)) := fun W' e => by rw [← e, updO_same]
    have TT : TwO ns (n + 1) (.lst (.int (t + 1) :: ls.map D.int)) := ⟨t + 1, ls, rfl, hls, by omega, by omega⟩
    -- if script == []
    refine xb_cons (xs_if (xt_eq hr.units (xe_name 0 rfl (xe_lst (xa_nil ⟨by simp, fun l hl2 => ?_⟩)))))
    have hne : tw ≠ l := neO updO_same hl2
    refine ⟨_, .list [], rfl, by simp [topP, updO_same, toPs], shaped_ints ns, by rfl, _, rfl, fun e => ?_, fun e => ?_⟩
    · rw [eqv_nil] at e
      refine xb_sub (Sub.new hl2) ?_
      refine xb_one (xs_ret (xe_mod (xe_div (xe_mul (xe_mul (xe_ix (xe_name 1 rfl (xe_int ⟨_, _, updO_same, at0 _ _, xe_ix (xe_name 1 rfl (xe_int ⟨_, _, updO_same, at0 _ _, _, _, rfl, rfl, ct, ?_⟩))⟩))))))))
      refine xe_int ⟨_, _, rfl, rfl, cm _, xe_int ⟨_, _, rfl, rfl, ⟨by decide, by decide⟩, xe_name 2 rfl ⟨_, _, rfl, rfl, hp, ?_⟩⟩⟩
      exact h _ _ (Int.emod_nonneg _ (by omega)) (Int.emod_lt_of_pos _ hp) TT
    · rw [eqv_nil] at e
      refine xb_sub (Sub.new hl2) (xb_nil ?_)
      have hpos : 0 < ns.length := by
        cases ns with
        | nil => simp at e
        | cons a b => simp
      -- at = town[0] % len(script)
      refine xb_cons (xs_set 3 sc__law_draw.nd (xe_mod (xe_ix (xe_name 1 rfl (xe_int ⟨_, _, updO_same, at0 _ _, xe_len B.len (xe_name 0 rfl ⟨_, rfl, _, _, rfl, rfl, by simp; omega, ?_⟩)⟩)))))
      rw [List.length_map]
      have a0 : 0 ≤ (t + 1) % (ns.length : Int) := Int.emod_nonneg _ (by omega)
      have a1 : (t + 1) % (ns.length : Int) < ns.length := Int.emod_lt_of_pos _ (by omega)
      generalize hat : (t + 1) % (ns.length : Int) = k at *
      have gs : ∃ x, atI ns k = some x := ⟨ns[k.toNat]'(by omega), by
        have := atI_nat (xs := ns) (j := k.toNat) (List.getElem?_eq_getElem (by omega))
        rw [show ((k.toNat : Nat) : Int) = k by omega] at this
        exact this⟩
      obtain ⟨x, hx⟩ := gs
      have gl : ∃ y, ls[k.toNat]? = some y := ⟨ls[k.toNat]'(by omega), List.getElem?_eq_getElem (by omega)⟩
      obtain ⟨y, hy⟩ := gl
      have hy1 : atI (D.int (t + 1) :: ls.map D.int) (1 + k) = some (.int y) := by
        have := atI_nat (xs := D.int (t + 1) :: ls.map D.int) (j := k.toNat + 1) (v := .int y) (by rw [List.getElem?_cons_succ, List.getElem?_map, hy]; rfl)
        rw [show ((k.toNat + 1 : Nat) : Int) = 1 + k by omega] at this
        exact this
      -- left = town[1 + at]
      refine xb_cons (xs_set 4 sc__law_draw.nd (xe_ix (xe_name 1 rfl (xe_add (xe_int (xe_name 3 rfl ⟨_, _, updO_same, hy1, ?_⟩))))))
      -- number = ..
      have last : ∀ W', W' = updO W tw (.lst (.int (t + 1) :: ls.map D.int)) → XB (cxOf (L2.CX P w) P w K mg base n__law_draw "_law_draw" (defScope s__law_draw) f cdv A outer s H E) E XC ((defBody s__law_draw).drop 5) [some (.scr a ns), some (.p tw), some (.int lim), some (.int k), some (.int y), none] W' { nx := fun _ W' => O .non W', rt := O } := by
        intro W' eW
        subst eW
        refine xb_cons (xs_set 5 sc__law_draw.nd (xe_mod (xe_add (xe_ix (xe_name 0 rfl (xe_name 3 rfl ⟨x, hx, xe_mul (xe_int (xe_ix (xe_name 1 rfl (xe_int ⟨_, _, updO_same, at0 _ _, _, _, rfl, rfl, .inl ⟨by decide, by decide⟩, xe_int ⟨_, _, rfl, rfl, by decide, ?_⟩⟩))))⟩))))))
        have b0 : 0 ≤ (x + 104729 * (t + 1)) % 4294967291 := Int.emod_nonneg _ (by decide)
        have b1 : (x + 104729 * (t + 1)) % 4294967291 < 4294967291 := Int.emod_lt_of_pos _ (by decide)
        generalize (x + 104729 * (t + 1)) % 4294967291 = z at *
        refine xb_cons (xs_set 5 sc__law_draw.nd (xe_mod (xe_pow (xe_name 5 rfl (xe_int ⟨_, _, rfl, rfl, ⟨by decide, by decide, by omega⟩, xe_int ⟨_, _, rfl, rfl, by decide, ?_⟩⟩)))))
        refine xb_one (xs_ret (xe_mod (xe_div (xe_mod (xe_add (xe_mul (xe_div (xe_name 5 rfl (xe_int ⟨_, _, rfl, rfl, ⟨by decide, by decide⟩, xe_int ⟨_, _, rfl, rfl, .inr ⟨by decide, by decide⟩, xe_name 5 rfl (xe_int ⟨_, _, rfl, rfl, by decide, xe_int ⟨_, _, rfl, rfl, ⟨by decide, by decide⟩, xe_name 2 rfl ⟨_, _, rfl, rfl, hp, ?_⟩⟩⟩)⟩⟩)))))))))
        exact h _ _ (Int.emod_nonneg _ (by omega)) (Int.emod_lt_of_pos _ hp) TT
      -- if script[at] >= 10 ** 18 and left > 0
      refine xb_cons (xs_if (xt_and2 (xt_cmp (by simp) (xe_ix (xe_name 0 rfl (xe_name 3 rfl ⟨x, hx, xe_pow (xe_int (xe_int ⟨_, _, rfl, rfl, ⟨by decide, by decide, by decide⟩, _, _, _, rfl, rfl, rfl, _, rfl, fun e1 => ?_, fun e1 => ⟨fun z => (by cases z), fun _ => xb_nil (last _ rfl)⟩⟩))⟩))))))
      refine xt_cmp (by simp) (xe_name 4 rfl (xe_int ⟨_, _, _, rfl, rfl, rfl, _, rfl, fun e2 => ?_, fun e2 => xb_nil (last _ rfl)⟩))
      refine xb_cons (xs_asg (xe_div (xe_name 4 rfl (xe_name 2 rfl ⟨_, _, rfl, rfl, ⟨hp, by omega⟩, xg_sub (xe_name 1 rfl (xe_add (xe_int (xe_name 3 rfl ⟨tw, _, 1 + k, k.toNat + 1, rfl, rfl, updO_same, ?_, ?_⟩))))⟩))))
      · unfold ixN
        rw [if_pos (by omega), if_pos (by rw [List.length_cons, List.length_map]; omega)]
        congr 1
        omega
      · rw [updO_updO]
        refine xb_one (xs_ret (xe_mod (xe_name 4 rfl (xe_name 2 rfl ⟨_, _, rfl, rfl, hp, ?_⟩))))
        refine h _ _ (Int.emod_nonneg _ (by omega)) (Int.emod_lt_of_pos _ hp) ⟨t + 1, ls.set k.toNat (y / lim), ?_, by rw [List.length_set]; exact hls, by omega, by omega⟩
        rw [List.set_cons_succ, List.map_set]
abbrev CDraw (P : Program) (w : World) (K : PySem.W.Frag) (mg : Str → Option Value) (base : Heap) : Prop := Cal P w K mg base 1 "_law_draw" ["script", "town", "limit"] S_law_draw
end Law
namespace Law
open PySem PySem.Spec PyProof.Rows L2 SR
variable {P : Program} {w : World} {K : PySem.W.Frag} {mg : Str → Option Value} {base : Heap} {f : Addr} {fd : FuncData}
/-! ### a pick -/
def S_law_pick : SpT := fun ds W O _ => ∃ a ns tw ch cs n ob, ds = [.scr a ns, .p tw, .p ch] ∧ ns.length ≤ 63 ∧ W ch = some (.lst cs) ∧ ch ≠ tw ∧ 0 < cs.length ∧ cs.length ≤ 1000 ∧ W tw = some ob ∧ TwO ns n ob ∧ n ≤ 100000 ∧ ∀ c ob', c ∈ cs → TwO ns (n + 1) ob' → O c (updO W tw ob')
theorem ok_law_pick (B : Bi mg) (c1 : CDraw P w K mg base) (F : Fun K "_law_pick" "_law_pick" s__law_pick f fd) (hm : mg "_law_pick" = some (.ref f)) (hb : Binds K fd ["script", "town", "choices"] []) : Cal P w K mg base 2 "_law_pick" ["script", "town", "choices"] S_law_pick := by
  refine cal_mk F hm hb sc__law_pick (fun ds W O XC h => ?_) (fun cdv A outer s H E ds W O XC hr h => ?_)
  · obtain ⟨a, ns, tw, ch, cs, n, ob, rfl, _⟩ := h
    rfl
  · obtain ⟨a, ns, tw, ch, cs, n, ob, rfl, hl, hch, hne, hc0, hc1, htw, ht, hn, h⟩ := h
    refine xb_one (xs_ret (xe_ix (xe_name 2 rfl (xe_call c1 hr passX (xa_cons (xe_name 0 rfl (xa_cons (xe_name 1 rfl (xa_cons (xe_len B.len (xe_name 2 rfl ⟨cs, hch, xa_nil ⟨a, ns, tw, _, n, ob, rfl, hl, by omega, by omega, htw, ht, hn, fun r ob' h0 h1 ht' => ?_⟩⟩)))))))))))
    have hr : ∃ v, cs[r.toNat]? = some v := ⟨cs[r.toNat]'(by omega), List.getElem?_eq_getElem (by omega)⟩
    obtain ⟨v, hv⟩ := hr
    refine ⟨cs, v, by rw [updO_ne hne]; exact hch, ?_, h v ob' (List.mem_of_getElem? hv) ht'⟩
    have := atI_nat hv
    rw [show ((r.toNat : Nat) : Int) = r by omega] at this
    exact this
end Law
namespace Law
open PySem PySem.Spec PyProof.Rows L2 SR
variable {P : Program} {w : World} {K : PySem.W.Frag} {mg : Str → Option Value} {base : Heap} {f : Addr} {fd : FuncData}
/-! ### a store, drawn -/
def S_law_store : SpT := fun ds W O _ => ∃ a ns tw top n ob, ds = [.scr a ns, .p tw, .int top] ∧ ns.length ≤ 63 ∧ 1 ≤ top ∧ top ≤ 12 ∧ W tw = some ob ∧ TwO ns n ob ∧ n ≤ 99990 ∧ ∀ (s : Sto) ob', s.ok → s.room ≤ top → s.level ≤ 8 → TwO ns (n + 5) ob' → O s.d (updO W tw ob')
def S_law_storeF : SpT := fun ds W O _ => ∃ a ns tw top n ob, ds = [.scr a ns, .p tw, .int top] ∧ ns.length ≤ 63 ∧ 1 ≤ top ∧ top ≤ 12 ∧ W tw = some ob ∧ TwO ns n ob ∧ n ≤ 99990 ∧ ∀ (s : Sto) ob', s.ok → s.room ≤ top → s.level ≤ 8 → (s.fill = true → s.size ≤ s.level + 4) → TwO ns (n + 5) ob' → O s.d (updO W tw ob')
theorem ok_law_storeF (c1 : CDraw P w K mg base) (F : Fun K "_law_store" "_law_store" s__law_store f fd) (hm : mg "_law_store" = some (.ref f)) (hb : Binds K fd ["script", "town", "room"] []) : Cal P w K mg base 2 "_law_store" ["script", "town", "room"] S_law_storeF := by
  refine cal_mk F hm hb sc__law_store (fun ds W O XC h => ?_) (fun cdv A outer s H E ds W O XC hr h => ?_)
  · obtain ⟨a, ns, tw, top, n, ob, rfl, _⟩ := h
    rfl
  · obtain ⟨a, ns, tw, top, n, ob, rfl, hl, ht0, ht4, htw, ht, hn, h⟩ := h
    refine xb_cons (xs_set 3 sc__law_store.nd (xe_add (xe_int (xe_call c1 hr passX (xa_cons (xe_name 0 rfl (xa_cons (xe_name 1 rfl (xa_cons (xe_name 2 rfl (xa_nil ⟨a, ns, tw, top, n, ob, rfl, hl, by omega, by omega, htw, ht, by omega, fun r1 ob1 h10 h11 ht1 => ?_⟩)))))))))))
    refine xb_cons (xs_par 4 5 sc__law_store.nd (xa_cons (xe_add (xe_int (xe_call c1 hr passX (xa_cons (xe_name 0 rfl (xa_cons (xe_name 1 rfl (xa_cons (xe_int (xa_nil ⟨a, ns, tw, 3, n + 1, ob1, rfl, hl, by omega, by omega, updO_same, ht1, by omega, fun r2 ob2 h20 h21 ht2 => ?_⟩))))))))))))
    rw [updO_updO]
    refine xa_cons (xe_call c1 hr passX (xa_cons (xe_name 0 rfl (xa_cons (xe_name 1 rfl (xa_cons (xe_int (xa_nil ⟨a, ns, tw, 9, n + 2, ob2, rfl, hl, by omega, by omega, updO_same, ht2, by omega, fun r3 ob3 h30 h31 ht3 => xa_nil ⟨_, _, rfl, ?_⟩⟩))))))))
    rw [updO_updO]
    refine xb_cons (xs_if (xt_eqS (xe_call c1 hr passX (xa_cons (xe_name 0 rfl (xa_cons (xe_name 1 rfl (xa_cons (xe_int (xa_nil ⟨a, ns, tw, 2, n + 3, ob3, rfl, hl, by omega, by omega, updO_same, ht3, by omega, fun r4 ob4 h40 h41 ht4 => xe_int ⟨_, rfl, _, rfl, fun _ => ?_, fun _ => xb_nil ?_⟩⟩))))))))))
    · rw [updO_updO]
      refine xb_one (xs_ret (xe_tup (xa_cons (xe_name 3 rfl (xa_cons (xe_name 4 rfl (xa_cons (xe_str (xa_cons (xe_name 5 rfl (xa_cons (xe_add (xe_int (xe_call c1 hr passX (xa_cons (xe_name 0 rfl (xa_cons (xe_name 1 rfl (xa_cons (xe_int (xa_nil ⟨a, ns, tw, 6, n + 4, ob4, rfl, hl, by omega, by omega, updO_same, ht4, by omega, fun r5 ob5 h50 h51 ht5 => xa_nil ⟨by simp, ?_⟩⟩)))))))))))))))))))))
      rw [updO_updO]
      exact h ⟨1 + r1, 1 + r2, false, r3, 1 + r5⟩ ob5 ⟨by show 1 ≤ 1 + r1; omega, by show 1 + r1 ≤ 12; omega, by show 1 ≤ 1 + r2; omega, by show 1 + r2 ≤ 3; omega, h30, by show r3 ≤ 12; omega, ⟨by show 1 ≤ 1 + r5; omega, by show 1 + r5 ≤ 6; omega⟩⟩ (by show 1 + r1 ≤ top; omega) (by show r3 ≤ 8; omega) (fun z => by cases z) ht5
    · rw [updO_updO]
      refine xb_one (xs_ret (xe_tup (xa_cons (xe_name 3 rfl (xa_cons (xe_name 4 rfl (xa_cons (xe_str (xa_cons (xe_name 5 rfl (xa_cons (xe_add (xe_add (xe_name 5 rfl (xe_int (xe_call c1 hr passX (xa_cons (xe_name 0 rfl (xa_cons (xe_name 1 rfl (xa_cons (xe_int (xa_nil ⟨a, ns, tw, 4, n + 4, ob4, rfl, hl, by omega, by omega, updO_same, ht4, by omega, fun r5 ob5 h50 h51 ht5 => xa_nil ⟨by simp, ?_⟩⟩)))))))))))))))))))))))
      rw [updO_updO]
      exact h ⟨1 + r1, 1 + r2, true, r3, r3 + 1 + r5⟩ ob5 ⟨by show 1 ≤ 1 + r1; omega, by show 1 + r1 ≤ 12; omega, by show 1 ≤ 1 + r2; omega, by show 1 + r2 ≤ 3; omega, h30, by show r3 ≤ 12; omega, ⟨by show r3 + 1 ≤ r3 + 1 + r5; omega, by show r3 + 1 + r5 ≤ 18; omega⟩⟩ (by show 1 + r1 ≤ top; omega) (by show r3 ≤ 8; omega) (fun _ => by show r3 + 1 + r5 ≤ r3 + 4; omega) ht5
theorem ok_law_store (c1 : CDraw P w K mg base) (F : Fun K "_law_store" "_law_store" s__law_store f fd) (hm : mg "_law_store" = some (.ref f)) (hb : Binds K fd ["script", "town", "room"] []) : Cal P w K mg base 2 "_law_store" ["script", "town", "room"] S_law_store :=
  (ok_law_storeF c1 F hm hb).imp fun ds W O XC ⟨a, ns, tw, top, n, ob, h1, h2, h3, h4, h5, h6, h7, h⟩ => ⟨a, ns, tw, top, n, ob, h1, h2, h3, h4, h5, h6, h7, fun s ob' hs hr hl _ T => h s ob' hs hr hl T⟩
end Law
namespace Law
open PySem PySem.Spec PyProof.Rows L2 SR
variable {P : Program} {w : World} {K : PySem.W.Frag} {mg : Str → Option Value} {base : Heap} {f : Addr} {fd : FuncData}
/-! ### bounds, drawn -/
theorem sub_keep {W : Om} {l tw : Addr} {o ob : Ob} (h : W l = none) (hne : l ≠ tw) : SR.Sub (updO W tw ob) (updO (updO W l o) tw ob) := fun b x e => by
  by_cases hb : b = tw
  · subst hb; rw [updO_same] at e ⊢; exact e
  · rw [updO_ne hb] at e ⊢
    rw [updO_ne (neO e h)]
    exact e
def S_law_bounds : SpT := fun ds W O _ => ∃ a ns tw top n ob, ds = [.scr a ns, .p tw, .int top] ∧ ns.length ≤ 63 ∧ 0 ≤ top ∧ top ≤ 4 ∧ W tw = some ob ∧ TwO ns n ob ∧ n ≤ 99990 ∧ ∀ (b : Bd) ob', b.ok → b.low ≤ 1 → b.high ≤ top → TwO ns (n + 4) ob' → O b.d (updO W tw ob')
theorem ok_law_bounds (B : Bi mg) (c1 : CDraw P w K mg base) (c2 : Cal P w K mg base 2 "_law_pick" ["script", "town", "choices"] S_law_pick) (F : Fun K "_law_bounds" "_law_bounds" s__law_bounds f fd) (hm : mg "_law_bounds" = some (.ref f)) (hb : Binds K fd ["script", "town", "most"] []) : Cal P w K mg base 3 "_law_bounds" ["script", "town", "most"] S_law_bounds := by
  refine cal_mk F hm hb sc__law_bounds (fun ds W O XC h => ?_) (fun cdv A outer s H E ds W O XC hr h => ?_)
  · obtain ⟨a, ns, tw, top, n, ob, rfl, _⟩ := h
    rfl
  · obtain ⟨a, ns, tw, top, n, ob, rfl, hl, ht0, ht4, htw, ht, hn, h⟩ := h
    -- high
    refine xb_cons (xs_set 3 sc__law_bounds.nd (xe_call c1 (hr.mono (by decide)) passX (xa_cons (xe_name 0 rfl (xa_cons (xe_name 1 rfl (xa_cons (xe_add (xe_name 2 rfl (xe_int (xa_nil ⟨a, ns, tw, top + 1, n, ob, rfl, hl, by omega, by omega, htw, ht, by omega, fun high ob1 hh0 hh1 ht1 => ?_⟩)))))))))))
    -- low
    refine xb_cons (xs_set 4 sc__law_bounds.nd (xe_shr (xe_call c2 hr passX (xa_cons (xe_name 0 rfl (xa_cons (xe_name 1 rfl (xa_cons (xe_lst (xa_cons (xe_int (xa_cons (xe_int (xa_cons (xe_min2 B.min (xe_int (xe_name 3 rfl ⟨1, high, rfl, rfl, xa_nil ⟨by simp, fun l hl2 => ?_⟩⟩)))))))))))))))))
    have hne : l ≠ tw := (neO updO_same hl2).symm
    have hlW : W l = none := by rw [updO_ne hne] at hl2; exact hl2
    refine xa_nil ⟨a, ns, tw, l, _, n + 1, ob1, rfl, hl, updO_same, hne, by simp, by simp, by rw [updO_ne hne.symm, updO_same], ht1, by omega, fun c ob2 hc ht2 => ?_⟩
    refine ⟨updO W tw ob2, ?_, ?_⟩
    · have := sub_keep (W := updO W tw ob1) (o := .lst [D.int 0, D.int 0, D.int (min 1 high)]) (ob := ob2) hl2 hne
      rw [updO_updO] at this
      exact this
    have hcl : ∃ low, c = .int low ∧ 0 ≤ low ∧ low ≤ high ∧ low ≤ 1 := by
      simp only [List.mem_cons, List.not_mem_nil, or_false] at hc
      rcases hc with rfl | rfl | rfl
      · exact ⟨0, rfl, by omega, by omega, by omega⟩
      · exact ⟨0, rfl, by omega, by omega, by omega⟩
      · exact ⟨_, rfl, by omega, by omega, by omega⟩
    obtain ⟨low, rfl, hl0, hlh, hl1⟩ := hcl
    -- days
    refine xb_cons (xs_set 5 sc__law_bounds.nd (xe_add (xe_int (xe_call c1 (hr.mono (by decide)) passX (xa_cons (xe_name 0 rfl (xa_cons (xe_name 1 rfl (xa_cons (xe_int (xa_nil ⟨a, ns, tw, 3, n + 2, ob2, rfl, hl, by omega, by omega, updO_same, ht2, by omega, fun r ob3 hr0 hr1 ht3 => ?_⟩)))))))))))
    rw [updO_updO]
    refine xb_one (xs_ret (xe_tup (xa_cons (xe_name 4 rfl (xa_cons (xe_name 3 rfl (xa_cons (xe_name 5 rfl (xa_cons (xe_min2 B.min (xe_int (xe_add (xe_mul (xe_name 5 rfl (xe_name 4 rfl ⟨_, _, rfl, rfl, .inl ⟨by omega, by omega⟩, ?_⟩)))))))))))))))
    refine xe_call c1 (hr.mono (by decide)) passX (xa_cons (xe_name 0 rfl (xa_cons (xe_name 1 rfl (xa_cons (xe_int (xa_nil ⟨a, ns, tw, 6, n + 3, ob3, rfl, hl, by omega, by omega, updO_same, ht3, by omega, fun q ob4 hq0 hq1 ht4' => ⟨_, _, rfl, rfl, xa_nil ⟨by simp, ?_⟩⟩⟩)))))))
    rw [updO_updO]
    have hp : 0 ≤ (1 + r) * low := Int.mul_nonneg (by omega) hl0
    have hp2 : (1 + r) * low ≤ 3 := by
      have : (1 + r) * low ≤ (1 + r) * 1 := Int.mul_le_mul_of_nonneg_left hl1 (by omega)
      omega
    exact h ⟨low, high, 1 + r, min 12 ((1 + r) * low + q)⟩ ob4 ⟨hl0, hlh, by show high ≤ 4; omega, by show 1 ≤ 1 + r; omega, by show 1 + r ≤ 3; omega, by show (1 + r) * low ≤ min 12 ((1 + r) * low + q); omega, by show min 12 ((1 + r) * low + q) ≤ 12; omega⟩ hl1 (by show high ≤ top; omega) ht4'
end Law
namespace Law
open PySem PySem.Spec PyProof.Rows L2 SR
variable {P : Program} {w : World} {K : PySem.W.Frag} {mg : Str → Option Value} {base : Heap} {f : Addr} {fd : FuncData}
/-! ### calls that may raise, by the law -/
/-- the classes of exceptions -/
structure Fam (K : PySem.W.Frag) (mg : Str → Option Value) (Cs : Fin 10 → Addr) (SE : Addr) (R : Fin 10 → Prop) : Prop where
  g0 : mg "InvalidStore" = some (.ref (Cs 0))
  g1 : mg "InvalidStart" = some (.ref (Cs 1))
  g2 : mg "InvalidBounds" = some (.ref (Cs 2))
  g3 : mg "InvalidDemands" = some (.ref (Cs 3))
  g4 : mg "InvalidPosition" = some (.ref (Cs 4))
  g5 : mg "InvalidDays" = some (.ref (Cs 5))
  g6 : mg "InvalidDemand" = some (.ref (Cs 6))
  g7 : mg "InvalidText" = some (.ref (Cs 7))
  g8 : mg "TooLong" = some (.ref (Cs 8))
  g9 : mg "NothingToUndo" = some (.ref (Cs 9))
  gS : mg "StockError" = some (.ref SE)
  vN : mg "ValueError" = none
  ec : ∀ i, R i → ExcC K (Cs i)
  kit : ∀ i, R i → ∀ j, PySem.W.kitOne K (.ref (Cs i)) (.ref (Cs j)) = some (decide (i = j))
  ve : ∀ i, R i → PySem.W.kitOne K (.ref (Cs i)) (.type "ValueError") = some true
  ex : ∀ i, R i → PySem.W.exmOne K (.ref (Cs i)) (.ref SE) = some true
def S_law_name (Cs : Fin 10 → Addr) (R : Fin 10 → Prop) : SpT := fun ds W O _ => ∃ a i, ds = [.exc a (Cs i)] ∧ R i ∧ O (.int ((i.val : Nat) : Int)) W
theorem row10 : ∀ i : Fin 10, ([decide (i = 0), decide (i = 1), decide (i = 2), decide (i = 3), decide (i = 4), decide (i = 5), decide (i = 6), decide (i = 7), decide (i = 8), decide (i = 9)].count true = 1) ∧ ([decide (i = 0), decide (i = 1), decide (i = 2), decide (i = 3), decide (i = 4), decide (i = 5), decide (i = 6), decide (i = 7), decide (i = 8), decide (i = 9)][i.val]? = some true) ∧
    ∀ m : Fin 10, m.val < i.val → [decide (i = 0), decide (i = 1), decide (i = 2), decide (i = 3), decide (i = 4), decide (i = 5), decide (i = 6), decide (i = 7), decide (i = 8), decide (i = 9)][m.val]? = some false := by decide +kernel
theorem ok_law_name {Cs : Fin 10 → Addr} {SE : Addr} {R : Fin 10 → Prop} (B : Bi mg) (Fm : Fam K mg Cs SE R) (F : Fun K "_law_name" "_law_name" s__law_name f fd) (hm : mg "_law_name" = some (.ref f)) (hb : Binds K fd ["caught"] []) : Cal P w K mg base 1 "_law_name" ["caught"] (S_law_name Cs R) := by
  refine cal_mk F hm hb sc__law_name (fun ds W O XC h => ?_) (fun cdv A outer s H E ds W O XC hr h => ?_)
  · obtain ⟨a, i, rfl, _⟩ := h
    rfl
  · obtain ⟨a, i, rfl, hR, h⟩ := h
    have EC := Fm.ec i hR
    refine xb_nox (E' := E0) (xb_ifno ?_ ?_)
    · exact xt_not (xt_val (xe_isX B.isinstance (xe_name 0 rfl (xe_ty Fm.vN (by decide +kernel) ⟨a, Cs i, _, _, rfl, EC, .ty _, Fm.ve i hR, _, rfl, rfl, Sub.refl _⟩))))
    refine xb_cons (xs_set 1 sc__law_name.nd (xe_lst (xa_cons (xe_isX B.isinstance (xe_name 0 rfl (xe_glob Fm.g0 ⟨a, Cs i, _, _, rfl, EC, .own _, Fm.kit i hR 0, xa_cons (xe_isX B.isinstance (xe_name 0 rfl (xe_glob Fm.g1 ⟨a, Cs i, _, _, rfl, EC, .own _, Fm.kit i hR 1, xa_nil ⟨by simp, fun l1 h1 => ?_⟩⟩)))⟩))))))
    refine xb_cons (xs_set 1 sc__law_name.nd (xe_add (xe_name 1 rfl (xe_lst (xa_cons (xe_isX B.isinstance (xe_name 0 rfl (xe_glob Fm.g2 ⟨a, Cs i, _, _, rfl, EC, .own _, Fm.kit i hR 2, xa_cons (xe_isX B.isinstance (xe_name 0 rfl (xe_glob Fm.g3 ⟨a, Cs i, _, _, rfl, EC, .own _, Fm.kit i hR 3, xa_nil ⟨by simp, fun l2 h2 => ⟨_, _, Sub.new h2 _ _ updO_same, updO_same, le1000 (by simp), fun l3 h3 => ?_⟩⟩⟩)))⟩))))))))
    refine xb_cons (xs_set 1 sc__law_name.nd (xe_add (xe_name 1 rfl (xe_lst (xa_cons (xe_isX B.isinstance (xe_name 0 rfl (xe_glob Fm.g4 ⟨a, Cs i, _, _, rfl, EC, .own _, Fm.kit i hR 4, xa_cons (xe_isX B.isinstance (xe_name 0 rfl (xe_glob Fm.g5 ⟨a, Cs i, _, _, rfl, EC, .own _, Fm.kit i hR 5, xa_nil ⟨by simp, fun l4 h4 => ⟨_, _, Sub.new h4 _ _ updO_same, updO_same, le1000 (by simp), fun l5 h5 => ?_⟩⟩⟩)))⟩))))))))
    refine xb_cons (xs_set 1 sc__law_name.nd (xe_add (xe_name 1 rfl (xe_lst (xa_cons (xe_isX B.isinstance (xe_name 0 rfl (xe_glob Fm.g6 ⟨a, Cs i, _, _, rfl, EC, .own _, Fm.kit i hR 6, xa_cons (xe_isX B.isinstance (xe_name 0 rfl (xe_glob Fm.g7 ⟨a, Cs i, _, _, rfl, EC, .own _, Fm.kit i hR 7, xa_nil ⟨by simp, fun l6 h6 => ⟨_, _, Sub.new h6 _ _ updO_same, updO_same, le1000 (by simp), fun l7 h7 => ?_⟩⟩⟩)))⟩))))))))
    refine xb_cons (xs_set 1 sc__law_name.nd (xe_add (xe_name 1 rfl (xe_lst (xa_cons (xe_isX B.isinstance (xe_name 0 rfl (xe_glob Fm.g8 ⟨a, Cs i, _, _, rfl, EC, .own _, Fm.kit i hR 8, xa_cons (xe_isX B.isinstance (xe_name 0 rfl (xe_glob Fm.g9 ⟨a, Cs i, _, _, rfl, EC, .own _, Fm.kit i hR 9, xa_nil ⟨by simp, fun l8 h8 => ⟨_, _, Sub.new h8 _ _ updO_same, updO_same, le1000 (by simp), fun l9 h9 => ?_⟩⟩⟩)))⟩))))))))
    obtain ⟨q1, q2, q3⟩ := row10 i
    refine xb_one (xs_ret (xe_shr (xe_if (xt_eqS (xe_countB (xe_name 1 rfl ⟨l9, _, rfl, updO_same, xe_bl ⟨[decide (i = 0), decide (i = 1), decide (i = 2), decide (i = 3), decide (i = 4), decide (i = 5), decide (i = 6), decide (i = 7), decide (i = 8), decide (i = 9)], rfl, updO_same, xe_int ⟨_, rfl, _, rfl, fun _ => ?_, fun e => ?_⟩⟩⟩))))))
    · refine xe_indexB (xe_name 1 rfl ⟨l9, _, rfl, updO_same, xe_bl ⟨[decide (i = 0), decide (i = 1), decide (i = 2), decide (i = 3), decide (i = 4), decide (i = 5), decide (i = 6), decide (i = 7), decide (i = 8), decide (i = 9)], i.val, rfl, updO_same, q2, fun m hm => q3 ⟨m, by omega⟩ hm, W, ((((((((Sub.new h1).trans (Sub.new h2)).trans (Sub.new h3)).trans (Sub.new h4)).trans (Sub.new h5)).trans (Sub.new h6)).trans (Sub.new h7)).trans (Sub.new h8)).trans (Sub.new h9), h⟩⟩)
    · rw [q1] at e; cases e
/-! ### the outcome that is due -/
def exShort : Fin 10 → Str
  | 0 => "store" | 1 => "start" | 2 => "bounds" | 3 => "demands" | 4 => "position" | 5 => "days" | 6 => "demand" | 7 => "text" | 8 => "long" | 9 => "undo"
def raisedD (i : Fin 10) : D := .tup [.str "raised", .int ((i.val : Nat) : Int)]
def shorts : List Str := ["store", "start", "bounds", "demands", "position", "days", "demand", "text", "long", "undo"]
theorem shorts_at : ∀ i : Fin 10, shorts[i.val]? = some (exShort i) ∧ ∀ m : Fin 10, m.val < i.val → shorts[m.val]? ≠ some (exShort i) := by decide +kernel
def S_law_raises : SpT := fun ds W O _ => ∃ i : Fin 10, ds = [.str (exShort i)] ∧ O (raisedD i) W
theorem ok_law_raises (F : Fun K "_law_raises" "_law_raises" s__law_raises f fd) (hm : mg "_law_raises" = some (.ref f)) (hb : Binds K fd ["name"] []) : Cal P w K mg base 1 "_law_raises" ["name"] S_law_raises := by
  refine cal_mk F hm hb sc__law_raises (fun ds W O XC h => ?_) (fun cdv A outer s H E ds W O XC hr h => ?_)
  · obtain ⟨i, rfl, _⟩ := h
    rfl
  · obtain ⟨i, rfl, h⟩ := h
    refine xb_cons (xs_set 1 sc__law_raises.nd (xe_lst (xa_cons (xe_str (xa_cons (xe_str (xa_cons (xe_str (xa_cons (xe_str (xa_cons (xe_str (xa_cons (xe_str (xa_nil ⟨by simp, fun l1 h1 => ?_⟩)))))))))))))))
    refine xb_cons (xs_set 1 sc__law_raises.nd (xe_add (xe_name 1 rfl (xe_lst (xa_cons (xe_str (xa_cons (xe_str (xa_cons (xe_str (xa_cons (xe_str (xa_nil ⟨by simp, fun l2 h2 => ⟨_, _, Sub.new h2 _ _ updO_same, updO_same, le1000 (by simp), fun l3 h3 => ?_⟩⟩)))))))))))))
    obtain ⟨q1, q2⟩ := shorts_at i
    refine xb_one (xs_ret (xe_shr (xe_tup (xa_cons (xe_str (xa_cons (xe_indexS (xe_name 1 rfl ⟨l3, _, rfl, updO_same, xe_name 0 rfl ⟨shorts, i.val, exShort i, rfl, updO_same, q1, fun m z' hm hz e => ?_, xa_nil ⟨by simp, W, ((Sub.new h1).trans (Sub.new h2)).trans (Sub.new h3), h⟩⟩⟩))))))))
    rw [e] at hz
    exact q2 ⟨m, by omega⟩ hm hz
/-! ### the outcome of a call -/
def returnedD (d : D) : D := .tup [.str "returned", d]
def S_law_outcome (Cs : Fin 10 → Addr) (R : Fin 10 → Prop) (S : SpT) : SpT := fun ds W O _ => (∃ d1 d2, ds = [d1, d2]) ∧ S ds W (fun r W' => O (returnedD r) W') (fun C W' => ∃ i, C = Cs i ∧ R i ∧ O (raisedD i) W')
theorem ok_law_outcome {Cs : Fin 10 → Addr} {SE : Addr} {R : Fin 10 → Prop} {S : SpT} {k : Nat} (Fm : Fam K mg Cs SE R) (c1 : Cal P w K mg base (k + 1) "_law_call" ["way", "arguments"] S) (c2 : Cal P w K mg base 1 "_law_name" ["caught"] (S_law_name Cs R))
    (F : Fun K "_law_outcome" "_law_outcome" s__law_outcome f fd) (hm : mg "_law_outcome" = some (.ref f)) (hb : Binds K fd ["way", "arguments"] []) : Cal P w K mg base (k + 2) "_law_outcome" ["way", "arguments"] (S_law_outcome Cs R S) := by
  refine cal_mk F hm hb sc__law_outcome (fun ds W O XC h => ?_) (fun cdv A outer s H E ds W O XC hr h => ?_)
  · obtain ⟨⟨d1, d2, rfl⟩, _⟩ := h
    rfl
  · obtain ⟨⟨d1, d2, rfl⟩, h⟩ := h
    refine xb_nox (E' := E0) (xb_cons (xs_set 2 sc__law_outcome.nd (xe_non (xb_cons (xs_set 3 sc__law_outcome.nd (xe_non ?_))))))
    refine xb_cons (xs_tryK 4 2 (fun C W' => ∃ i, C = Cs i ∧ R i ∧ O (raisedD i) W') sc__law_outcome.nd Fm.gS (fun pn xe Wx tk => ?_) (fun C0 W' hx => ?_))
    · refine xb_one (xs_set 3 sc__law_outcome.nd ?_)
      refine XE.imp (xe_callT c1 hr tk (xa_cons (xe_name 0 rfl (xa_cons (xe_name 1 rfl (xa_nil h)))))) fun r W' hr2 => ?_
      exact xb_cons (xs_if (xt_isN (xe_name 2 rfl (xe_non ⟨rfl, fun _ => xb_one (xs_ret (xe_tup (xa_cons (xe_str (xa_cons (xe_name 3 rfl (xa_nil ⟨by simp, hr2⟩))))))), fun z => by cases z⟩))))
    · obtain ⟨i, rfl, hR, ho⟩ := hx
      refine ⟨Fm.ex i hR, fun a ha => ?_⟩
      refine xb_cons (xs_if (xt_isN (xe_name 2 rfl (xe_non ⟨rfl, fun z => (by cases z), fun _ => xb_nil ?_⟩))))
      exact xb_one (xs_ret (xe_tup (xa_cons (xe_str (xa_cons (xe_call c2 (hr.mono (by omega)) pass0X (xa_cons (xe_name 2 rfl (xa_nil ⟨a, i, rfl, hR, xa_nil ⟨by simp, ho⟩⟩)))))))))
theorem pln_out (i : Fin 10) : Pln 1 (raisedD i) := .tup fun y hy => by
  simp only [List.mem_cons, List.not_mem_nil, or_false] at hy
  rcases hy with rfl | rfl
  · exact .str (by decide +kernel)
  · exact .int _
def csOf (a0 a1 a2 a3 a4 a5 a6 a7 a8 a9 : Addr) : Fin 10 → Addr
  | 0 => a0 | 1 => a1 | 2 => a2 | 3 => a3 | 4 => a4 | 5 => a5 | 6 => a6 | 7 => a7 | 8 => a8 | 9 => a9
theorem kit_same (K : PySem.W.Frag) (C : Addr) : PySem.W.kitOne K (.ref C) (.ref C) = some true := by
  unfold PySem.W.kitOne
  rw [if_pos (beq_self_eq_true _)]
theorem kit_no {C D : Addr} (h1 : PySem.W.subIn K (.ref C) (.ref C) = some true) (h2 : PySem.W.subIn K (.ref C) (.ref D) = some false) (hd : PySem.W.hasDictIn K D = true) (ht : PySem.W.typeIn K (.ref D) = some (.type "type")) : PySem.W.kitOne K (.ref C) (.ref D) = some false := by
  have hne : ¬ ((Value.ref C == Value.ref D) = true) := fun q => by
    have e : C = D := Value.ref.inj (beq_iff_eq.mp q)
    subst e
    rw [h1] at h2; cases h2
  obtain ⟨cd, hc, _⟩ := PySem.W.any_some hd
  have e2 : ((PySem.W.clsIn K D).isSome && PySem.W.typeIn K (.ref D) == some (.type "type")) = true := by rw [hc, ht] <;> rfl
  show (if (Value.ref C == Value.ref D) = true then some true else (if ((PySem.W.clsIn K D).isSome && PySem.W.typeIn K (.ref D) == some (.type "type")) = true then PySem.W.subIn K (.ref C) (.ref D) else none)) = some false
  rw [if_neg hne, if_pos e2]
  exact h2
theorem kit_ve {C : Addr} (h : PySem.W.subIn K (.ref C) (.type "ValueError") = some true) : PySem.W.kitOne K (.ref C) (.type "ValueError") = some true := by
  have hm : PySem.W.kitMeta "ValueError" = true := by decide +kernel
  have hne : ¬ ((Value.ref C == Value.type "ValueError") = true) := fun q => by have := beq_iff_eq.mp q; cases this
  show (if (Value.ref C == Value.type "ValueError") = true then some true else (if PySem.W.kitMeta "ValueError" = true then PySem.W.subIn K (.ref C) (.type "ValueError") else none)) = some true
  rw [if_neg hne, if_pos hm]
  exact h
end Law
namespace Law
open PySem PySem.Spec PyProof.Rows L2 SR
variable {P : Program} {w : World} {K : PySem.W.Frag} {mg : Str → Option Value} {base : Heap} {f : Addr} {fd : FuncData}
/-! ### the law's own texts -/
/-- v is a store (way 0) or bounds (way 1) with the text y -/
def Vt (way : Int) (v : D) (y : Str) : Prop := (way = 0 ∧ ∃ st : Sto, st.ok ∧ v = st.d ∧ y = stText st) ∨ (way = 1 ∧ ∃ b : Bd, b.ok ∧ v = b.d ∧ y = bdText b)
theorem Vt.inj {way : Int} {v v' : D} {y : Str} (h : Vt way v y) (h' : Vt way v' y) : v = v' := by
  rcases h with ⟨rfl, s, hs, rfl, rfl⟩ | ⟨rfl, s, hs, rfl, rfl⟩ <;> rcases h' with ⟨e, t, ht, rfl, e2⟩ | ⟨e, t, ht, rfl, e2⟩
  · rw [stText_inj hs ht e2]
  · cases e
  · cases e
  · rw [bdText_inj hs ht e2]
theorem Vt.len {way : Int} {v : D} {y : Str} (h : Vt way v y) : y.length ≤ 60 := by
  rcases h with ⟨rfl, s, hs, rfl, rfl⟩ | ⟨rfl, s, hs, rfl, rfl⟩
  · exact stText_len hs
  · exact bdText_len hs
theorem Vt.ways {way : Int} {v : D} {y : Str} (h : Vt way v y) : way = 0 ∨ way = 1 := by
  rcases h with ⟨rfl, _⟩ | ⟨rfl, _⟩
  · exact .inl rfl
  · exact .inr rfl
def strD : D → Str
  | .int i => numS i
  | .str x => x
  | _ => Str.empty
theorem lclen : ("room " : Str).length = 5 ∧ ("wait " : Str).length = 5 ∧ ("lots of " : Str).length = 8 ∧ ("fill to " : Str).length = 8 ∧ (" when at most " : Str).length = 14 ∧ (", " : Str).length = 2 ∧ (" to " : Str).length = 4 ∧ (", at most " : Str).length = 10 ∧ (" in " : Str).length = 4 := by decide +kernel
theorem sgn4 : TL.tl ("wait " : Str) = [119, 97, 105, 116, 32] ∧ TL.tl ("lots of " : Str) = [108, 111, 116, 115, 32, 111, 102, 32] ∧ TL.tl ("fill to " : Str) = [102, 105, 108, 108, 32, 116, 111, 32] := by decide +kernel
theorem line_b (b : Bd) : ((((((numS b.low ++ " to ") ++ numS b.high) ++ ", at most ") ++ numS b.most) ++ " in ") ++ numS b.days) = bdText b := by
  refine TL.ext_tl ?_
  unfold bdText
  simp only [TL.tl_append, sgn2.2.2.2.2.2.2, List.nil_append]
def ruleL (b : Bool) : Str := if b then "fill to " else "lots of "
theorem line_s (s : Sto) : Txt.join ", " ["room " ++ numS s.room, "wait " ++ numS s.wait, ((ruleL s.fill ++ numS s.size) ++ " when at most ") ++ numS s.level] = stText s := by
  obtain ⟨a1, a2, a3, a4, a5, a6, a7, a8, a9, a10⟩ := sgn1
  obtain ⟨b1, b2, b3, b4, b5, b6, b7⟩ := sgn2
  obtain ⟨c1, c2, c3⟩ := sgn4
  refine TL.ext_tl ?_
  rw [TL.join_eq, TL.tl_join]
  unfold stText ruleS ruleL
  cases s.fill <;>
    simp only [TL.tl_append, List.map_cons, List.map_nil, TL.joinL, a1, a3, a5, a6, a7, b1, b2, b7, c1, c2, c3, if_true, if_false, Bool.false_eq_true, List.append_assoc, List.cons_append, List.nil_append]
def S_law_line : SpT := fun ds W O _ => ∃ way v y, ds = [.int way, v] ∧ Vt way v y ∧ O (.str y) W
theorem ok_law_line (B : Bi mg) (F : Fun K "_law_line" "_law_line" s__law_line f fd) (hm : mg "_law_line" = some (.ref f)) (hb : Binds K fd ["way", "value"] []) : Cal P w K mg base 1 "_law_line" ["way", "value"] S_law_line := by
  refine cal_mk F hm hb sc__law_line (fun ds W O XC h => ?_) (fun cdv A outer s H E ds W O XC hr h => ?_)
  · obtain ⟨way, v, y, rfl, _⟩ := h
    rfl
  · obtain ⟨way, v, y, rfl, hV, h⟩ := h
    obtain ⟨z1, z2, z3, z4, z5, z6, z7, z8, z9⟩ := lclen
    rcases hV with ⟨rfl, st, hs, rfl, rfl⟩ | ⟨rfl, b, hs, rfl, rfl⟩
    · have := hs.r1; have := hs.r12; have := hs.w1; have := hs.w3; have := hs.l0; have := hs.l12; have := hs.s1; have := hs.s18
      have n1 : (numS st.room).length ≤ 2 := len_num (by omega) (by omega)
      have n2 : (numS st.wait).length ≤ 2 := len_num (by omega) (by omega)
      have n3 : (numS st.size).length ≤ 2 := len_num (by omega) (by omega)
      have n4 : (numS st.level).length ≤ 2 := len_num (by omega) (by omega)
      refine xb_cons (xs_setR 2 (own := [("one", 3)]) sc__law_line.nd (blkOk_by (N := n__law_line) (sc := defScope s__law_line) (by decide +kernel)) (lcP_R [("one", 3)] (lcTg_name 3 sc__law_line.nd) (xi_tup (xe_name 1 rfl ⟨_, rfl, fun _ _ => trivial, le1000 (by simp), fun d => some (.str (strD d)), fun i d W2 hd hs2 => ⟨_, rfl, fun s H C cl fp => ⟨Sub.refl _, fun _ s H C cl fp => ?_, fun z => by cases z⟩⟩, fun l hl => ?_⟩))))
      · have hm := List.mem_of_getElem? hd
        simp only [List.mem_cons, List.not_mem_nil, or_false] at hm
        rcases hm with rfl | rfl | rfl | rfl | rfl
        · exact xe_strI B.str (xe_name 3 rfl ⟨_, rfl, lg_small (by omega) (by omega), Sub.refl _, rfl⟩)
        · exact xe_strI B.str (xe_name 3 rfl ⟨_, rfl, lg_small (by omega) (by omega), Sub.refl _, rfl⟩)
        · exact xe_strS B.str (xe_name 3 rfl ⟨_, rfl, Sub.refl _, rfl⟩)
        · exact xe_strI B.str (xe_name 3 rfl ⟨_, rfl, lg_small (by omega) (by omega), Sub.refl _, rfl⟩)
        · exact xe_strI B.str (xe_name 3 rfl ⟨_, rfl, lg_small (by omega) (by omega), Sub.refl _, rfl⟩)
      refine xb_cons (xs_if (xt_eqS (xe_name 0 rfl (xe_int ⟨_, rfl, _, rfl, fun z => absurd (of_decide_eq_true z) (by decide), fun _ => xb_nil ?_⟩))))
      have nr : (ruleL st.fill).length = 8 := by unfold ruleL; cases st.fill <;> first | exact z3 | exact z4
      have fin : ∀ W', W' = updO W l (.lst [.str (numS st.room), .str (numS st.wait), .str (kindS st.fill), .str (numS st.level), .str (numS st.size)]) → XB (cxOf (L2.CX P w) P w K mg base n__law_line "_law_line" (defScope s__law_line) f cdv A outer s H E) E XC ((defBody s__law_line).drop 3) [some (.int 0), some st.d, some (.p l), none, some (.str (ruleL st.fill)), none] W' { nx := fun _ W' => O .non W', rt := O } := by
        intro W' eW
        subst eW
        refine xb_cons (xs_set 5 sc__law_line.nd (xe_lst (xa_cons (xe_add (xe_str (xe_ix (xe_name 2 rfl (xe_int ⟨_, .str (numS st.room), updO_same, rfl, by rw [z1]; omega, ?_⟩))))))))
        refine xa_cons (xe_add (xe_str (xe_ix (xe_name 2 rfl (xe_int ⟨_, .str (numS st.wait), updO_same, rfl, by rw [z2]; omega, ?_⟩)))))
        refine xa_cons (xe_add (xe_add (xe_add (xe_name 4 rfl (xe_ix (xe_name 2 rfl (xe_int ⟨_, .str (numS st.size), updO_same, rfl, by rw [nr]; omega, xe_str ⟨by rw [slen, nr, z5]; omega, xe_ix (xe_name 2 rfl (xe_int ⟨_, .str (numS st.level), updO_same, rfl, by rw [slen, slen, nr, z5]; omega, xa_nil ⟨by simp, fun l2 h2 => ?_⟩⟩))⟩⟩)))))))
        refine xb_one (xs_ret (xe_shr ?_))
        refine xe_join (xe_str ⟨_, rfl, xe_name 5 rfl ⟨["room " ++ numS st.room, "wait " ++ numS st.wait, ((ruleL st.fill ++ numS st.size) ++ " when at most ") ++ numS st.level], updO_same, ?_, W, (Sub.new hl).trans (Sub.new h2), ?_⟩⟩)
        · simp only [List.map_cons, List.map_nil, List.sum_cons, List.sum_nil, List.length_cons, List.length_nil, slen, nr, z1, z2, z5, z6]
          omega
        · rw [line_s]
          exact h
      refine xb_cons (xs_set 4 sc__law_line.nd (xe_if (xt_eqS (xe_ix (xe_name 1 rfl (xe_int ⟨_, rfl, xe_str ⟨_, rfl, _, rfl, fun e => ?_, fun e => ?_⟩⟩))))))
      · have ef : st.fill = false := by
          cases hf : st.fill with
          | false => rfl
          | true => rw [hf] at e; exact absurd (of_decide_eq_true e) (by decide +kernel)
        have hru : ruleL st.fill = ("lots of " : Str) := by unfold ruleL; rw [ef]; rfl
        have t := fin _ rfl
        rw [hru] at t
        exact xe_str t
      · have ef : st.fill = true := by
          cases hf : st.fill with
          | true => rfl
          | false => rw [hf] at e; exact absurd rfl (of_decide_eq_false e)
        have hru : ruleL st.fill = ("fill to " : Str) := by unfold ruleL; rw [ef]; rfl
        have t := fin _ rfl
        rw [hru] at t
        exact xe_str t
    · obtain ⟨m1, m2, m3, m4⟩ := Bd.ok.nums hs
      have n1 : (numS b.low).length ≤ 2 := len_num m1.1 m1.2
      have n2 : (numS b.high).length ≤ 2 := len_num m2.1 m2.2
      have n3 : (numS b.days).length ≤ 2 := len_num m3.1 m3.2
      have n4 : (numS b.most).length ≤ 2 := len_num m4.1 m4.2
      refine xb_cons (xs_setR 2 (own := [("one", 3)]) sc__law_line.nd (blkOk_by (N := n__law_line) (sc := defScope s__law_line) (by decide +kernel)) (lcP_R [("one", 3)] (lcTg_name 3 sc__law_line.nd) (xi_tup (xe_name 1 rfl ⟨_, rfl, fun _ _ => trivial, le1000 (by simp), fun d => some (.str (strD d)), fun i d W2 hd hs2 => ⟨_, rfl, fun s H C cl fp => ⟨Sub.refl _, fun _ s H C cl fp => ?_, fun z => by cases z⟩⟩, fun l hl => ?_⟩))))
      · have hm := List.mem_of_getElem? hd
        simp only [List.mem_cons, List.not_mem_nil, or_false] at hm
        rcases hm with rfl | rfl | rfl | rfl
        · exact xe_strI B.str (xe_name 3 rfl ⟨_, rfl, lg_small m1.1 m1.2, Sub.refl _, rfl⟩)
        · exact xe_strI B.str (xe_name 3 rfl ⟨_, rfl, lg_small m2.1 m2.2, Sub.refl _, rfl⟩)
        · exact xe_strI B.str (xe_name 3 rfl ⟨_, rfl, lg_small m3.1 m3.2, Sub.refl _, rfl⟩)
        · exact xe_strI B.str (xe_name 3 rfl ⟨_, rfl, lg_small m4.1 m4.2, Sub.refl _, rfl⟩)
      refine xb_cons (xs_if (xt_eqS (xe_name 0 rfl (xe_int ⟨_, rfl, _, rfl, fun _ => ?_, fun z => absurd (of_decide_eq_false z) (by decide)⟩))))
      refine xb_one (xs_ret (xe_shr ?_))
      refine xe_add (xe_add (xe_add (xe_add (xe_add (xe_add (xe_ix (xe_name 2 rfl (xe_int ⟨_, .str (numS b.low), updO_same, rfl, xe_str ⟨by rw [z7]; omega, ?_⟩⟩))))))))
      refine xe_ix (xe_name 2 rfl (xe_int ⟨_, .str (numS b.high), updO_same, rfl, by simp only [slen]; omega, xe_str ⟨by simp only [slen]; omega, ?_⟩⟩))
      refine xe_ix (xe_name 2 rfl (xe_int ⟨_, .str (numS b.most), updO_same, rfl, by simp only [slen]; omega, xe_str ⟨by simp only [slen]; omega, ?_⟩⟩))
      refine xe_ix (xe_name 2 rfl (xe_int ⟨_, .str (numS b.days), updO_same, rfl, by simp only [slen]; omega, W, Sub.new hl, ?_⟩))
      rw [line_b]
      exact h
end Law
namespace Law
open PySem PySem.Spec PyProof.Rows L2 SR
variable {P : Program} {w : World} {K : PySem.W.Frag} {mg : Str → Option Value} {base : Heap} {f : Addr} {fd : FuncData}
/-! ### k52 -/
def S_call (CT : Addr) : SpT := fun ds W O XC => ∃ way d, ds = [.int way, d] ∧ (way = 0 ∨ way = 1) ∧ (tyD W d).isSome = true ∧ (∀ x, d = .str x → x.length ≤ 1000) ∧ ((∀ v y, Vt way v y → d ≠ .str y) → XC CT W) ∧ (∀ v y, Vt way v y → d = .str y → O v W)
theorem ok_law_call {CT : Addr} (c1 : Cal P w K mg base 3 "parse_store" ["text"] (S_parse_store CT)) (c2 : Cal P w K mg base 3 "parse_bounds" ["text"] (S_parse_bounds CT))
    (F : Fun K "_law_call" "_law_call" s__law_call f fd) (hm : mg "_law_call" = some (.ref f)) (hb : Binds K fd ["way", "arguments"] []) : Cal P w K mg base 4 "_law_call" ["way", "arguments"] (S_call CT) := by
  refine cal_mk F hm hb sc__law_call (fun ds W O XC h => ?_) (fun cdv A outer s H E ds W O XC hr h => ?_)
  · obtain ⟨way, d, rfl, _⟩ := h
    rfl
  · obtain ⟨way, d, rfl, hw, ht, hl, hx, h⟩ := h
    rcases hw with rfl | rfl
    · refine xb_one (xs_ret (xe_if (xt_eqS (xe_name 0 rfl (xe_int ⟨_, rfl, _, rfl, fun _ => ?_, fun z => absurd (of_decide_eq_false z) (by decide)⟩)))))
      refine xe_call c1 hr passX (xa_cons (xe_name 1 rfl (xa_nil ⟨d, rfl, ht, hl, fun e => hx fun v y hv e2 => ?_, fun st hs e => h _ _ (.inl ⟨rfl, st, hs, rfl, rfl⟩) e⟩)))
      rcases hv with ⟨_, st, hs, rfl, rfl⟩ | ⟨z, _⟩
      · exact e st hs e2
      · cases z
    · refine xb_one (xs_ret (xe_if (xt_eqS (xe_name 0 rfl (xe_int ⟨_, rfl, _, rfl, fun z => absurd (of_decide_eq_true z) (by decide), fun _ => ?_⟩)))))
      refine xe_call c2 hr passX (xa_cons (xe_name 1 rfl (xa_nil ⟨d, rfl, ht, hl, fun e => hx fun v y hv e2 => ?_, fun st hs e => h _ _ (.inr ⟨rfl, st, hs, rfl, rfl⟩) e⟩)))
      rcases hv with ⟨z, _⟩ | ⟨_, st, hs, rfl, rfl⟩
      · cases z
      · exact e st hs e2
def RX (i : Fin 10) : Prop := i = 7
/-! what is no text -/
theorem spl_count {c : Nat} : ∀ (l acc : List Nat), (TL.spl [c] 0 acc l).length = l.count c + 1
  | [], acc => rfl
  | x :: r, acc => by
    by_cases h : x = c
    · subst h
      rw [TL.spl_hit (by simp [TL.pre])]
      simp only [List.length_cons, List.length_nil, List.count_cons_self]
      rw [spl_count r []]
    · rw [TL.spl_miss (by simpa [TL.pre] using h), spl_count r, List.count_cons_of_ne h]
theorem split_count (y : Str) : (Txt.split y " ").length = (TL.tl y).count 32 + 1 := by
  have a6 := sgn1.2.2.2.2.2.1
  have e := TL.split_spl y " " (by rw [a6]; simp) (TL.kind_ok (by decide +kernel))
  have := congrArg List.length e
  rw [List.length_map, a6, spl_count] at this
  exact this
def cw (way : Int) : Nat := if way = 0 then 10 else 7
theorem Vt.cnt {way : Int} {v : D} {y : Str} (h : Vt way v y) : (TL.tl y).count 32 = cw way := by
  have e := split_count y
  rcases h with ⟨rfl, s, hs, rfl, rfl⟩ | ⟨rfl, s, hs, rfl, rfl⟩
  · rw [stText_split hs] at e
    exact (Nat.succ.inj e).symm
  · rw [bdText_split hs] at e
    exact (Nat.succ.inj e).symm
def NoV (way : Int) (d : D) : Prop := ∀ v y, Vt way v y → d ≠ .str y
theorem noV_cnt {way : Int} {y : Str} (h : (TL.tl y).count 32 ≠ cw way) : NoV way (.str y) := fun v z hv e => by
  cases e
  exact h hv.cnt
theorem noV_0 {y : Str} {ws : List Str} (e : Txt.split y " " = ws) (h : ∀ s : Sto, s.ok → stWords s ≠ ws) : NoV 0 (.str y) := fun v z hv e2 => by
  cases e2
  rcases hv with ⟨_, s, hs, rfl, rfl⟩ | ⟨z, _⟩
  · rw [stText_split hs] at e
    exact h s hs e
  · cases z
theorem noV_1 {y : Str} {ws : List Str} (e : Txt.split y " " = ws) (h : ∀ b : Bd, b.ok → bdWords b ≠ ws) : NoV 1 (.str y) := fun v z hv e2 => by
  cases e2
  rcases hv with ⟨z, _⟩ | ⟨_, s, hs, rfl, rfl⟩
  · cases z
  · rw [bdText_split hs] at e
    exact h s hs e
abbrev tx1 : Str := "room 6, wait 1, lots of 3 when at most 02"
abbrev tx2 : Str := "room 6, wait 1, fill to 2 when at most 2"
abbrev tx3 : Str := "0 to 2, at most 2"
abbrev tx4 : Str := "room 13, wait 1, lots of 3 when at most 2"
abbrev tx5 : Str := "0 to 2 at most 2 in 1"
abbrev tx6 : Str := "0 to 2, at most 2, in 1"
theorem tx_cnt : (TL.tl tx1).count 32 = 10 ∧ (TL.tl tx2).count 32 = 10 ∧ (TL.tl tx3).count 32 = 5 ∧ (TL.tl tx4).count 32 = 10 ∧ (TL.tl tx5).count 32 = 7 ∧ (TL.tl tx6).count 32 = 7 ∧ (TL.tl ("" : Str)).count 32 = 0 ∧ (TL.tl (" " : Str)).count 32 = 1 := by decide +kernel
theorem tx_len : tx1.length ≤ 1000 ∧ tx2.length ≤ 1000 ∧ tx3.length ≤ 1000 ∧ tx4.length ≤ 1000 ∧ tx5.length ≤ 1000 ∧ tx6.length ≤ 1000 := by decide +kernel
theorem sp_1 : Txt.split tx1 " " = (["room", "6,", "wait", "1,", "lots", "of", "3", "when", "at", "most", "02"] : List Str) := by decide +kernel
theorem sp_2 : Txt.split tx2 " " = (["room", "6,", "wait", "1,", "fill", "to", "2", "when", "at", "most", "2"] : List Str) := by decide +kernel
theorem sp_4 : Txt.split tx4 " " = (["room", "13,", "wait", "1,", "lots", "of", "3", "when", "at", "most", "2"] : List Str) := by decide +kernel
theorem sp_5 : Txt.split tx5 " " = (["0", "to", "2", "at", "most", "2", "in", "1"] : List Str) := by decide +kernel
theorem sp_6 : Txt.split tx6 " " = (["0", "to", "2,", "at", "most", "2,", "in", "1"] : List Str) := by decide +kernel
theorem num_02 : ∀ n : Fin 13, numS ((n.val : Nat) : Int) ≠ "02" := by decide +kernel
theorem num_c2 : ∀ n : Fin 5, numS ((n.val : Nat) : Int) ++ "," ≠ "2" := by decide +kernel
theorem num_2c : ∀ n : Fin 13, numS ((n.val : Nat) : Int) ≠ "2," := by decide +kernel
theorem rd_2 : rdSto (["room", "6,", "wait", "1,", "fill", "to", "2", "when", "at", "most", "2"] : List Str) = [6, 1, 2, 2] := by decide +kernel
theorem rd_4 : rdSto (["room", "13,", "wait", "1,", "lots", "of", "3", "when", "at", "most", "2"] : List Str) = [13, 1, 2, 3] := by decide +kernel
theorem fin_of {m : Int} {k : Nat} (h0 : 0 ≤ m) (h1 : m < k) : ∃ j : Fin k, m = ((j.val : Nat) : Int) := ⟨⟨m.toNat, by omega⟩, by simp; omega⟩
theorem noV_tx1 : NoV 0 (.str tx1) := noV_0 sp_1 fun s hs e => by
  unfold stWords at e
  simp only [List.cons.injEq, and_true] at e
  have := hs.l0; have := hs.l12
  obtain ⟨j, ej⟩ := fin_of (m := s.level) (k := 13) (by omega) (by omega)
  rw [ej] at e
  exact num_02 j e.2.2.2.2.2.2.2.2.2.2
theorem noV_tx2 : NoV 0 (.str tx2) := noV_0 sp_2 fun s hs e => by
  have e1 := rdSto_of hs
  rw [e, rd_2] at e1
  simp only [List.cons.injEq, and_true] at e1
  unfold stWords at e
  simp only [List.cons.injEq, and_true] at e
  have e5 := e.2.2.2.2.1
  have hz := hs.sz
  cases hf : s.fill with
  | false => rw [hf] at e5; exact absurd e5 (by decide +kernel)
  | true =>
    rw [hf] at hz
    simp only [if_true] at hz
    omega
theorem noV_tx4 : NoV 0 (.str tx4) := noV_0 sp_4 fun s hs e => by
  have e1 := rdSto_of hs
  rw [e, rd_4] at e1
  simp only [List.cons.injEq, and_true] at e1
  have := hs.r12
  omega
theorem noV_tx5 : NoV 1 (.str tx5) := noV_1 sp_5 fun b hb e => by
  unfold bdWords at e
  simp only [List.cons.injEq, and_true] at e
  have := hb.l0; have := hb.lh; have := hb.h4
  obtain ⟨j, ej⟩ := fin_of (m := b.high) (k := 5) (by omega) (by omega)
  rw [ej] at e
  exact num_c2 j e.2.2.1
theorem noV_tx6 : NoV 1 (.str tx6) := noV_1 sp_6 fun b hb e => by
  unfold bdWords at e
  simp only [List.cons.injEq, and_true] at e
  obtain ⟨n1, n2, n3, n4⟩ := Bd.ok.nums hb
  have := hb.m12
  obtain ⟨j, ej⟩ := fin_of (m := b.most) (k := 13) (by omega) (by omega)
  rw [ej] at e
  exact num_2c j e.2.2.2.2.2.1
/-- what is refused -/
structure Bad (way : Int) (W : Om) (d : D) : Prop where
  ty : (tyD W d).isSome = true
  no : NoV way d
  len : ∀ x, d = .str x → x.length ≤ 1000
theorem Bad.sub {way : Int} {W W' : Om} {d : D} (h : Bad way W d) (s : SR.Sub W W') : Bad way W' d := by
  refine ⟨?_, h.no, h.len⟩
  have q := h.ty
  cases d with
  | p a =>
    simp only [tyD] at q ⊢
    split at q
    · rename_i ds' q'; rw [s _ _ q']; rfl
    · cases q
  | _ => exact q
theorem bad_str {way : Int} {W : Om} {y : Str} (h : NoV way (.str y)) (hl : y.length ≤ 1000) : Bad way W (.str y) := ⟨rfl, h, fun x e => by cases e; exact hl⟩
theorem bad_oth {way : Int} {W : Om} {d : D} (h : (tyD W d).isSome = true) (hn : ∀ x, d ≠ .str x) : Bad way W d := ⟨h, fun _ y _ => hn y, fun x e => absurd e (hn x)⟩
theorem pln_v {way : Int} {v : D} {y : Str} (h : Vt way v y) : Pln 1 v := by
  rcases h with ⟨rfl, s, hs, rfl, rfl⟩ | ⟨rfl, s, hs, rfl, rfl⟩
  · refine .tup fun y hy => ?_
    simp only [List.mem_cons, List.not_mem_nil, or_false] at hy
    rcases hy with rfl | rfl | rfl | rfl | rfl
    · exact .int _
    · exact .int _
    · exact .str (by cases s.fill <;> decide +kernel)
    · exact .int _
    · exact .int _
  · refine .tup fun y hy => ?_
    simp only [List.mem_cons, List.not_mem_nil, or_false] at hy
    rcases hy with rfl | rfl | rfl | rfl <;> exact .int _
theorem pln_rv {way : Int} {v : D} {y : Str} (h : Vt way v y) : Pln 2 (returnedD v) := .tup fun z hz => by
  simp only [List.mem_cons, List.not_mem_nil, or_false] at hz
  rcases hz with rfl | rfl
  · exact .str (by decide +kernel)
  · exact pln_v h
theorem cutS_len (y : Str) (lo hi : Option Int) : (cutS y lo hi).length ≤ y.length := by
  rw [TL.len_tl, TL.len_tl]
  unfold cutS
  rw [TL.tl_mk, List.length_take, List.length_drop]
  exact Nat.le_trans (Nat.min_le_right _ _) (Nat.sub_le _ _)
theorem sg_len : ("0123459 ,abt" : Str).length ≤ 1000 ∧ (signsD ("0123459 ,abt" : Str)).length = 12 ∧ ("" : Str).length = 0 ∧ (" " : Str).length = 1 := by
  refine ⟨by decide +kernel, ?_, by decide +kernel, by decide +kernel⟩
  unfold signsD
  rw [List.length_map]
  decide +kernel
def badsL (l1 : Addr) (y : Str) (v : D) : List D := ((([.non, .int 5, .str (""), .str (" "), .bl true, .p l1, .tup [.str y], v, .str (y ++ " "), .str (" " ++ y), .str (y ++ y)] ++ [.str (Txt.replace y " " "")]) ++ [.str tx1, .str tx2]) ++ [.str tx3]) ++ [.str tx4, .str tx5, .str tx6]
theorem bads_ok {way : Int} {v : D} {y : Str} {W : Om} {l1 : Addr} (hV : Vt way v y) (hl1 : W l1 = some (.lst [.str y])) : ∀ d ∈ badsL l1 y v, Bad way W d := fun d hd => by
  obtain ⟨x1, x2, x3, x4, x5, x6, x7, x8⟩ := tx_cnt
  obtain ⟨k1, k2, k3, k4, k5, k6⟩ := tx_len
  have hyl := hV.len
  have hcn := hV.cnt
  have hww := hV.ways
  have hcw : cw way = 10 ∨ cw way = 7 := by rcases hww with rfl | rfl <;> simp [cw]
  have s32 := sgn1.2.2.2.2.2.1
  have e1 := sg_len.2.2.2
  unfold badsL at hd
  simp only [List.mem_append, List.mem_cons, List.not_mem_nil, or_false] at hd
  rcases hd with (((hd | rfl) | hd) | rfl) | hd
  · rcases hd with rfl | rfl | rfl | rfl | rfl | rfl | rfl | rfl | rfl | rfl | rfl
    · exact bad_oth rfl fun x e => by cases e
    · exact bad_oth rfl fun x e => by cases e
    · exact bad_str (noV_cnt (by rw [x7]; omega)) (by rw [sg_len.2.2.1]; omega)
    · exact bad_str (noV_cnt (by rw [x8]; omega)) (by rw [e1]; omega)
    · exact bad_oth rfl fun x e => by cases e
    · exact bad_oth (by simp [tyD, hl1]) fun x e => by cases e
    · exact bad_oth rfl fun x e => by cases e
    · rcases hV with ⟨rfl, s, hs, rfl, rfl⟩ | ⟨rfl, s, hs, rfl, rfl⟩
      · exact bad_oth rfl fun x e => by cases e
      · exact bad_oth rfl fun x e => by cases e
    · refine bad_str (noV_cnt ?_) (by rw [slen, e1]; omega)
      rw [TL.tl_append, s32, List.count_append, hcn]
      simp
    · refine bad_str (noV_cnt ?_) (by rw [slen, e1]; omega)
      rw [TL.tl_append, s32, List.count_append, hcn]
      simp
    · refine bad_str (noV_cnt ?_) (by rw [slen]; omega)
      rw [TL.tl_append, List.count_append, hcn]
      omega
  · have e2 : TL.tl (Txt.replace y " " "") = (TL.tl y).filter (· ≠ 32) := tl_repl y 32
    refine bad_str (noV_cnt ?_) ?_
    · rw [e2, List.count_eq_zero.mpr (by simp)]
      omega
    · rw [TL.len_tl, e2]
      have := List.length_filter_le (fun c => decide (c ≠ 32)) (TL.tl y)
      have := TL.len_tl y
      omega
  · rcases hd with rfl | rfl
    · refine bad_str ?_ k1
      rcases hww with rfl | rfl
      · exact noV_tx1
      · exact noV_cnt (by rw [x1]; simp [cw])
    · refine bad_str ?_ k2
      rcases hww with rfl | rfl
      · exact noV_tx2
      · exact noV_cnt (by rw [x2]; simp [cw])
  · exact bad_str (noV_cnt (by rw [x3]; omega)) k3
  · rcases hd with rfl | rfl | rfl
    · refine bad_str ?_ k4
      rcases hww with rfl | rfl
      · exact noV_tx4
      · exact noV_cnt (by rw [x4]; simp [cw])
    · refine bad_str ?_ k5
      rcases hww with rfl | rfl
      · exact noV_cnt (by rw [x5]; simp [cw])
      · exact noV_tx5
    · refine bad_str ?_ k6
      rcases hww with rfl | rfl
      · exact noV_cnt (by rw [x6]; simp [cw])
      · exact noV_tx6
def S_law : SpT := fun ds W O _ => ∃ a ns, ds = [.scr a ns] ∧ ns.length ≤ 63 ∧ ∀ W', O (.bl true) W'
theorem ok_law {SE CS CB CT : Addr} {Cs : Fin 10 → Addr} (B : Bi mg) (Fm : Fam K mg Cs SE RX) (c1 : Cal P w K mg base 1 "_law_town" ["script"] S_law_town) (c2 : CDraw P w K mg base) (c3 : Cal P w K mg base 2 "_law_pick" ["script", "town", "choices"] S_law_pick) (c4 : Cal P w K mg base 2 "_law_store" ["script", "town", "room"] S_law_store) (c5 : Cal P w K mg base 3 "_law_bounds" ["script", "town", "most"] S_law_bounds)
    (o1 : Cal P w K mg base 5 "_law_outcome" ["way", "arguments"] (S_law_outcome Cs RX (S_call (Cs 7)))) (o2 : Cal P w K mg base 1 "_law_raises" ["name"] S_law_raises) (c6 : Cal P w K mg base 1 "_law_line" ["way", "value"] S_law_line) (c7 : Cal P w K mg base 2 "is_store" ["value"] S_is_store) (c8 : Cal P w K mg base 2 "is_bounds" ["value"] S_is_bounds)
    (d1 : Cal P w K mg base 4 "format_store" ["store"] (S_format_store CS)) (d2 : Cal P w K mg base 4 "format_bounds" ["bounds"] (S_format_bounds CB)) (d3 : Cal P w K mg base 3 "parse_bounds" ["text"] (S_parse_bounds CT))
    (F : Fun K "law" "law" s_law f fd) : FnOk P w K mg base (L2.CX P w) 6 f fd ["script"] (SpD K S_law) := by
  refine fnD F sc_law (fun ds W O XC h => ?_) (fun cdv A outer s H E ds W O XC hr h => ?_)
  · obtain ⟨a, ns, rfl, _⟩ := h
    rfl
  · obtain ⟨a, ns, rfl, hns, h⟩ := h
    have hu := hr.units
    have r1 := hr.mono (show 1 ≤ 5 by decide); have r2 := hr.mono (show 2 ≤ 5 by decide); have r3 := hr.mono (show 3 ≤ 5 by decide); have r4 := hr.mono (show 4 ≤ 5 by decide)
    refine xb_nox (E' := E0) (xb_cons (xs_set 1 sc_law.nd (xe_call c1 r1 pass0X (xa_cons (xe_name 0 rfl (xa_nil ⟨a, ns, rfl, hns, fun tw htw => ?_⟩))))))
    have T0 : TwO ns 0 (.lst (.int 0 :: ns.map D.int)) := ⟨0, ns, rfl, rfl, by omega, by omega⟩
    refine xb_cons (xs_par 2 3 sc_law.nd (xa_cons (xe_call c4 r2 pass0X (xa_cons (xe_name 0 rfl (xa_cons (xe_name 1 rfl (xa_cons (xe_int (xa_nil ⟨a, ns, tw, 12, 0, _, rfl, hns, by omega, by omega, updO_same, T0, by omega, fun st ob1 hs _ _ T1 => ?_⟩))))))))))
    rw [updO_updO]
    refine xa_cons (xe_call c5 r3 pass0X (xa_cons (xe_name 0 rfl (xa_cons (xe_name 1 rfl (xa_cons (xe_int (xa_nil ⟨a, ns, tw, 4, _, ob1, rfl, hns, by omega, by omega, updO_same, T1, by omega, fun b ob2 hb _ _ T2 => xa_nil ⟨_, _, rfl, ?_⟩⟩))))))))
    rw [updO_updO]
    have hT : updO W tw ob2 tw = some ob2 := updO_same
    generalize updO W tw ob2 = W0 at hT
    have hV0 : Vt 0 st.d (stText st) := .inl ⟨rfl, st, hs, rfl, rfl⟩
    have hV1 : Vt 1 b.d (bdText b) := .inr ⟨rfl, b, hb, rfl, rfl⟩
    refine xb_ifno ?_ ?_
    · refine xt_or2 (xt_neS (xe_call d1 r4 pass0X (xa_cons (xe_name 2 rfl (xa_nil ⟨st, rfl, hs, xe_call c6 r1 pass0X (xa_cons (xe_int (xa_cons (xe_name 2 rfl (xa_nil ⟨0, _, _, rfl, hV0, _, rfl, _, rfl, fun _ => ?_, fun z => absurd z (by simp)⟩)))))⟩)))))
      exact xt_neS (xe_call d2 r4 pass0X (xa_cons (xe_name 3 rfl (xa_nil ⟨b, rfl, hb, xe_call c6 r1 pass0X (xa_cons (xe_int (xa_cons (xe_name 3 rfl (xa_nil ⟨1, _, _, rfl, hV1, _, rfl, _, rfl, by simp, Sub.refl _⟩)))))⟩))))
    refine xb_cons (xs_for (fun i g' W' => ∃ y4 y5 y6 y7 y8 y9 y10 y11 y12 y13, g' = [some (.scr a ns), some (.p tw), some st.d, some b.d, y4, y5, y6, y7, y8, y9, y10, y11, y12, y13, none] ∧ ∃ ob, W' tw = some ob ∧ TwO ns (9 + 18 * i) ob) ?_)
    refine xi_tup (xe_tup (xa_cons (xe_tup (xa_cons (xe_int (xa_cons (xe_name 2 rfl (xa_nil ⟨by simp, xa_cons (xe_tup (xa_cons (xe_int (xa_cons (xe_name 3 rfl (xa_nil ⟨by simp, xa_nil ⟨by simp, _, rfl, ⟨_, _, _, _, _, _, _, _, _, _, rfl, ob2, hT, T2⟩, fun _ _ _ _ => trivial, ?_, ?_⟩⟩))))))⟩))))))))
    · rintro i d g' W' hd ⟨y4, y5, y6, y7, y8, y9, y10, y11, y12, y13, rfl, ob, hTw, TO⟩
      obtain ⟨hi, way, v, y, rfl, hV⟩ : i < 2 ∧ ∃ way v y, d = .tup [.int way, v] ∧ Vt way v y := by
        match i, hd with
        | 0, hd => cases hd; exact ⟨by omega, 0, _, _, rfl, hV0⟩
        | 1, hd => cases hd; exact ⟨by omega, 1, _, _, rfl, hV1⟩
        | i + 2, hd => cases hd
      have hyl := hV.len
      have hww := hV.ways
      refine xg_tup rfl (xgs_cons (xg_name 4 sc_law.nd (xgs_cons (xg_name 5 sc_law.nd (xgs_nil ?_)))))
      refine xb_cons (xs_set 6 sc_law.nd (xe_call c6 r1 pass0X (xa_cons (xe_name 4 rfl (xa_cons (xe_name 5 rfl (xa_nil ⟨way, v, y, rfl, hV, ?_⟩)))))))
      refine xb_ifno ?_ ?_
      · refine xt_ne hu (xe_call o1 hr pass0X (xa_cons (xe_name 4 rfl (xa_cons (xe_name 6 rfl (xa_nil ⟨⟨_, _, rfl⟩, way, _, rfl, hww, rfl, fun x e => (by cases e; omega), fun z => (z v y hV rfl).elim, fun v' y' hv' e => ?_⟩))))))
        cases e
        cases hV.inj hv'
        exact xe_tup (xa_cons (xe_str (xa_cons (xe_name 5 rfl (xa_nil ⟨by simp, neD_pln (pln_rv hV) (pln_rv hV) (by decide) (by decide) (fun _ => ⟨_, rfl, rfl, Sub.refl _⟩) (fun e => (e rfl).elim)⟩)))))
      -- changed texts
      refine xb_cons (xs_for (fun j g' W' => ∃ y7 y8 y9 y10 y11 y12, g' = [some (.scr a ns), some (.p tw), some st.d, some b.d, some (.int way), some v, some (.str y), y7, y8, y9, y10, y11, y12, y13, none] ∧ ∃ ob, W' tw = some ob ∧ TwO ns (9 + 18 * i + 3 * j) ob) (xi_range1 B.range (xe_int ⟨_, rfl, by omega, by omega, ⟨_, _, _, _, _, _, rfl, ob, hTw, TO⟩, fun _ _ _ _ => trivial, ?_, ?_⟩)))
      · rintro j d g' W1 hd ⟨y7, y8, y9, y10, y11, y12, rfl, ob, hTw, TO⟩
        obtain ⟨hj, rfl⟩ := mem_rangeD hd
        have hj : j < 6 := hj
        refine xg_name 7 sc_law.nd (xb_cons (xs_set 8 sc_law.nd (xe_call c2 r1 pass0X (xa_cons (xe_name 0 rfl (xa_cons (xe_name 1 rfl (xa_cons (xe_add (xe_len B.len (xe_name 6 rfl ⟨le1000 (by omega), xe_int (xa_nil ⟨a, ns, tw, _, _, ob, rfl, hns, by omega, by omega, hTw, TO, by omega, fun at_ ob3 a0 a1 T3 => ?_⟩)⟩)))))))))))
        refine xb_cons (xs_set 9 sc_law.nd (xe_call c3 r2 pass0X (xa_cons (xe_name 0 rfl (xa_cons (xe_name 1 rfl (xa_cons (xe_add (xe_listS B.list (xe_str ⟨_, rfl, sg_len.1, fun l1 h1 => xe_lst (xa_cons (xe_str (xa_nil ⟨by simp, fun l2 h2 => ⟨_, _, Sub.new h2 _ _ updO_same, updO_same, le1000 (by rw [sg_len.2.1]; decide), fun l3 h3 => ?_⟩⟩)))⟩))))))))))
        have hT2 := Sub.new (o := .lst [.str ("" : Str)]) h2 _ _ (Sub.new (o := .lst (signsD ("0123459 ,abt" : Str))) h1 _ _ (updO_same (W := W1) (a := tw) (o := ob3)))
        have n3 : l3 ≠ tw := (neO hT2 h3).symm
        have sb : SR.Sub (updO W1 tw ob3) (updO (updO (updO (updO W1 tw ob3) l1 (.lst (signsD ("0123459 ,abt" : Str)))) l2 (.lst [.str ("" : Str)])) l3 (.lst (signsD ("0123459 ,abt" : Str) ++ [.str ("" : Str)]))) := ((Sub.new h1).trans (Sub.new h2)).trans (Sub.new h3)
        refine xa_nil ⟨a, ns, tw, l3, _, _, ob3, rfl, hns, updO_same, n3, by simp, by rw [List.length_append, sg_len.2.1]; decide, sb _ _ updO_same, T3, by omega, fun c ob4 hc T4 => ?_⟩
        obtain ⟨sg, rfl, hsg⟩ : ∃ sg : Str, c = .str sg ∧ sg.length ≤ 1 := by
          rcases List.mem_append.mp hc with hc | hc
          · unfold signsD at hc
            obtain ⟨k, _, rfl⟩ := List.mem_map.mp hc
            exact ⟨_, rfl, Nat.le_refl _⟩
          · simp at hc
            exact ⟨_, hc, by decide +kernel⟩
        refine xb_sub (W' := updO W1 tw ob4) (fun b o e => ?_) ?_
        · by_cases hb : b = tw
          · subst hb
            rw [updO_same] at e ⊢
            exact e
          · rw [updO_ne hb] at e ⊢
            exact sb _ _ (by rw [updO_ne hb]; exact e)
        clear sb n3 hT2 h1 h2 h3 hc
        have q1 := cutS_len y none (some at_)
        refine xb_cons (xs_set 10 sc_law.nd (xe_add (xe_add (xe_slice (xe_name 6 rfl (xe_name 8 rfl ⟨_, rfl, le1000 (by omega), xe_name 9 rfl ⟨by omega, ?_⟩⟩))))))
        refine xe_slice (xe_name 6 rfl (xe_add (xe_name 8 rfl (xe_call c2 r1 pass0X (xa_cons (xe_name 0 rfl (xa_cons (xe_name 1 rfl (xa_cons (xe_int (xa_nil ⟨a, ns, tw, 2, _, ob4, rfl, hns, by omega, by omega, updO_same, T4, by omega, fun r ob5 p0 p1 T5 => ?_⟩)))))))))))
        rw [updO_updO]
        have q2 := cutS_len y (some (at_ + r)) none
        refine ⟨_, rfl, le1000 (by omega), by rw [slen]; omega, ?_⟩
        have hol : ((cutS y none (some at_) ++ sg) ++ cutS y (some (at_ + r)) none).length ≤ 1000 := by rw [slen, slen]; omega
        generalize (cutS y none (some at_) ++ sg) ++ cutS y (some (at_ + r)) none = o at hol
        have hT5 : updO W1 tw ob5 tw = some ob5 := updO_same
        generalize updO W1 tw ob5 = W2 at hT5
        by_cases hv : ∃ v', Vt way v' o
        · obtain ⟨v', hv'⟩ := hv
          refine xb_cons (xs_set 11 sc_law.nd (xe_call o1 hr pass0X (xa_cons (xe_name 4 rfl (xa_cons (xe_name 10 rfl (xa_nil ⟨⟨_, _, rfl⟩, way, _, rfl, hww, rfl, fun x e => (by cases e; exact hol), fun z => (z v' o hv' rfl).elim, fun v2 y2 hv2 e => ?_⟩)))))))
          cases e
          cases hv'.inj hv2
          refine xb_one (xs_if (xt_eqS (xe_ix (xe_name 11 rfl (xe_int ⟨_, rfl, xe_str ⟨_, rfl, _, rfl, fun _ => ?_, fun z => absurd z (by simp)⟩⟩)))))
          refine xb_cons (xs_set 12 sc_law.nd (XE.imp (O := fun d W3 => d = .bl true ∧ W3 = W2) ?_ ?_))
          · rcases hv' with ⟨rfl, s2, hs2, rfl, rfl⟩ | ⟨rfl, s2, hs2, rfl, rfl⟩
            · refine xe_if (xt_eqS (xe_name 4 rfl (xe_int ⟨_, rfl, _, rfl, fun _ => ?_, fun z => absurd (of_decide_eq_false z) (by decide)⟩)))
              exact xe_call c7 r2 pass0X (xa_cons (xe_ix (xe_name 11 rfl (xe_int ⟨_, rfl, xa_nil ⟨_, rfl, s2.kn _, by rw [Sto.is hs2], rfl⟩⟩))))
            · refine xe_if (xt_eqS (xe_name 4 rfl (xe_int ⟨_, rfl, _, rfl, fun z => absurd (of_decide_eq_true z) (by decide), fun _ => ?_⟩)))
              exact xe_call c8 r2 pass0X (xa_cons (xe_ix (xe_name 11 rfl (xe_int ⟨_, rfl, xa_nil ⟨_, rfl, s2.kn _, by rw [Bd.is hs2], rfl⟩⟩))))
          · rintro d W3 ⟨rfl, rfl⟩
            refine xb_ifno1 ?_ ⟨_, _, _, _, _, _, rfl, ob5, hT5, T5.mono (by omega)⟩
            refine xt_or2 (xt_not (xt_val (xe_name 12 rfl ⟨_, rfl, fun _ => ?_, fun z => (by cases z)⟩)))
            exact xt_neS (xe_call c6 r1 pass0X (xa_cons (xe_name 4 rfl (xa_cons (xe_ix (xe_name 11 rfl (xe_int ⟨_, rfl, xa_nil ⟨way, _, _, rfl, hv', xe_name 10 rfl ⟨_, rfl, _, rfl, by simp, Sub.refl _⟩⟩⟩)))))))
        · refine xb_cons (xs_set 11 sc_law.nd (xe_call o1 hr pass0X (xa_cons (xe_name 4 rfl (xa_cons (xe_name 10 rfl (xa_nil ⟨⟨_, _, rfl⟩, way, _, rfl, hww, rfl, fun x e => (by cases e; exact hol), fun z => ⟨7, rfl, rfl, ?_⟩, fun v2 y2 hv2 e => (by cases e; exact absurd ⟨_, hv2⟩ hv)⟩)))))))
          refine xb_one (xs_if (xt_eqS (xe_ix (xe_name 11 rfl (xe_int ⟨_, rfl, xe_str ⟨_, rfl, _, rfl, fun z => absurd z (by decide +kernel), fun _ => ?_⟩⟩)))))
          refine xb_ifno1 ?_ ⟨_, _, _, _, _, _, rfl, ob5, hT5, T5.mono (by omega)⟩
          refine xt_or2 (xt_ne hu (xe_name 11 rfl (xe_call o2 r1 pass0X (xa_cons (xe_str (xa_nil ⟨7, rfl, neD_pln (n := 1) (m := 1) (pln_out 7) (pln_out 7) (by decide) (by decide) (fun _ => ⟨_, rfl, fun _ => ?_, fun z => (by cases z)⟩) (fun e => (e rfl).elim)⟩))))))
          refine xt_eqS (xe_name 10 rfl (xe_name 6 rfl ⟨_, rfl, _, rfl, ?_, Sub.refl _⟩))
          exact decide_eq_false fun e => hv ⟨v, by rw [e]; exact hV⟩
      -- what is refused
      rintro g' W1 ⟨y7, y8, y9, y10, y11, y12, rfl, ob, hTw, TO⟩
      rw [rangeD_len] at TO
      obtain ⟨x1, x2, x3, x4, x5, x6, x7, x8⟩ := tx_cnt
      obtain ⟨l1', l2', l3', l4', l5', l6'⟩ := tx_len
      have hcn := hV.cnt
      have hcw : cw way = 10 ∨ cw way = 7 := by rcases hww with rfl | rfl <;> simp [cw]
      refine xb_lstp 13 sc_law.nd (xap_cons (xe_non (xap_cons (xe_int (xap_str ?_)))))
      refine xa_cons (xe_str (xa_cons (xe_bl (xa_cons (xe_lst (xa_cons (xe_name 6 rfl (xa_nil ⟨by simp, fun l1 h1 => ?_⟩))))))))
      refine xa_cons (xe_tup (xa_cons (xe_name 6 rfl (xa_nil ⟨by simp, ?_⟩))))
      refine xa_cons (xe_name 5 rfl (xa_cons (xe_add (xe_name 6 rfl (xe_str ⟨by rw [sg_len.2.2.2]; omega, ?_⟩)))))
      refine xa_cons (xe_add (xe_str (xe_name 6 rfl ⟨by rw [sg_len.2.2.2]; omega, ?_⟩)))
      refine xa_cons (xe_add (xe_name 6 rfl (xe_name 6 rfl ⟨by omega, xa_nil ⟨by simp, fun l2 h2 => ?_⟩⟩)))
      refine xbt_cons (xst_expr (xet_append (xe_name 13 rfl ⟨l2, _, rfl, updO_same, xet_repl (xe_name 6 rfl ⟨y, rfl, by rw [sg_len.2.2.1]; omega, _, updO_same, small1000 (by simp), ?_⟩)⟩)))
      rw [updO_updO]
      refine xbt_xb (xb_cons (xs_set 13 sc_law.nd (xe_add (xe_name 13 rfl (xe_lst (xa_cons (xe_str (xa_cons (xe_str (xa_nil ⟨by simp, fun l3 h3 => ⟨_, _, Sub.new h3 _ _ updO_same, updO_same, le1000 (by simp), fun l4 h4 => ?_⟩⟩))))))))))
      refine xb_cons (xs_expr (xe_append (xe_name 13 rfl ⟨l4, _, rfl, updO_same, xe_str ⟨_, updO_same, small1000 (by simp), ?_⟩⟩)))
      rw [updO_updO]
      refine xb_cons (xs_set 13 sc_law.nd (xe_add (xe_name 13 rfl (xe_lst (xa_cons (xe_str (xa_cons (xe_str (xa_cons (xe_str (xa_nil ⟨by simp, fun l5 h5 => ⟨_, _, Sub.new h5 _ _ updO_same, updO_same, le1000 (by simp), fun l6 h6 => ?_⟩⟩)))))))))))
      have hT6 : SR.Sub W1 _ := ((((((Sub.new (o := .lst [.str y]) h1).trans (Sub.new (o := .lst ([.non, .int 5, .str (""), .str (" "), .bl true, .p l1, .tup [.str y], v, .str (y ++ " "), .str (" " ++ y), .str (y ++ y)] ++ [.str (Txt.replace y " " "")])) (by exact h2))).trans (Sub.new h3)).trans (Sub.new h4)).trans (Sub.new h5)).trans (Sub.new (o := .lst (badsL l1 y v)) h6))
      have hl1 := (((((Sub.new (o := .lst ([.non, .int 5, .str (""), .str (" "), .bl true, .p l1, .tup [.str y], v, .str (y ++ " "), .str (" " ++ y), .str (y ++ y)] ++ [.str (Txt.replace y " " "")])) (by exact h2)).trans (Sub.new h3)).trans (Sub.new h4)).trans (Sub.new h5)).trans (Sub.new (o := .lst (badsL l1 y v)) h6)) _ _ (updO_same (W := W1) (a := l1) (o := .lst [.str y]))
      refine xb_ifno1 ?_ ⟨_, _, _, _, _, _, _, _, _, _, rfl, ob, hT6 _ _ hTw, TO.mono (by omega)⟩
      have hbad : ∀ d ∈ badsL l1 y v, Bad way _ d := fun d hd => bads_ok hV hl1 d hd
      refine xt_ne hu (xe_lcP [("bad", 14)] sc_law.nd (lcTg_name 14 sc_law.nd) (blkOk_by (N := n_law) (sc := defScope s_law) (by decide +kernel)) (xi_lst (xe_name 13 rfl ⟨l6, badsL l1 y v, rfl, updO_same, fun W2 s2 => s2 _ _ updO_same, le1000 (by simp [badsL]), fun _ => none, fun i d W2 hd hs2 => ⟨_, rfl, fun s H C cl fp => ?_⟩, fun l7 h7 => ?_⟩)))
      · have bd := (hbad d (List.mem_of_getElem? hd)).sub hs2
        refine xt_ne hu (xe_call o1 hr pass0X (xa_cons (xe_name 4 rfl (xa_cons (xe_name 14 rfl (xa_nil ⟨⟨_, _, rfl⟩, way, d, rfl, hww, bd.ty, bd.len, fun _ => ⟨7, rfl, rfl, ?_⟩, fun v2 y2 hv2 e => absurd e (bd.no v2 y2 hv2)⟩))))))
        exact xe_call o2 r1 pass0X (xa_cons (xe_str (xa_nil ⟨7, rfl, neD_pln (n := 1) (m := 1) (pln_out 7) (pln_out 7) (by decide) (by decide) (fun _ => ⟨_, rfl, Sub.refl _, fun z => (by cases z), fun _ => rfl⟩) (fun e => (e rfl).elim)⟩)))
      · rw [show (badsL l1 y v).filterMap (fun _ => (none : Option D)) = [] by simp]
        exact xe_lst (xa_nil ⟨by simp, fun l8 h8 => neD_lst (n := 0) (m := 0) (Sub.new h8 _ _ updO_same) updO_same (fun _ z => by cases z) (fun _ z => by cases z) (by decide) (by decide) (fun _ => ⟨_, rfl, rfl, (Sub.new h7).trans (Sub.new h8)⟩) (fun e => (e rfl).elim)⟩)
    -- the last one
    rintro g' W' ⟨y4, y5, y6, y7, y8, y9, y10, y11, y12, y13, rfl, ob, hTw, TO⟩
    have eb : ("0 to 2, at most 2 in 1" : Str) = bdText ⟨0, 2, 1, 2⟩ := by decide +kernel
    have hb2 : Bd.ok ⟨0, 2, 1, 2⟩ := ⟨by decide, by decide, by decide, by decide, by decide, by decide, by decide⟩
    refine xb_one (xs_ret (xe_eq hu (xe_call d3 r3 pass0X (xa_cons (xe_str (xa_nil ⟨_, rfl, rfl, fun x e => (by cases e; decide +kernel), fun z => (z _ hb2 (by rw [eb])).elim, fun b2 hb3 e => ?_⟩))))))
    rw [eb] at e
    have e := D.str.inj e
    cases bdText_inj hb2 hb3 e
    refine xe_tup (xa_cons (xe_int (xa_cons (xe_int (xa_cons (xe_int (xa_cons (xe_int (xa_nil ⟨by simp, eqD_pln (n := 1) (m := 1) (pln_v (.inr ⟨rfl, _, hb2, rfl, rfl⟩)) (pln_v (.inr ⟨rfl, _, hb2, rfl, rfl⟩)) (by decide) (by decide) (fun _ => h _) (fun e => (e rfl).elim)⟩)))))))))
end Law
namespace Law
open PySem PySem.Spec PyProof.Rows L2 SR
theorem all_mk {l : PySem.W.OpenLaw} {w : World} {K : PySem.W.Frag} {h : Heap} {mg : Str → Option Value} {fa : Addr} (X : K.In h) (G : h.Ns mainGlobals mg) (hfa : mg "law" = some (.ref fa))
    {f0 : Addr} {od0 an0 : Option Addr} {sl0 : Array (Option Value)} {oc0 kV0 dc0 pm0 ct0 : Value} {cd0 : Value}
    (a0 : PySem.W.nsIn K mainGlobals "is_between" = some (some (.ref f0)))
    (l0 : K.lookup f0 = some ⟨oc0, od0, .func (PySem.W.fnOf "is_between" "is_between" (defArgs s_is_between) (defBody s_is_between) (defScope s_is_between) .none kV0 dc0 pm0 an0 cd0 ct0), sl0⟩)
    (c0 : PySem.W.codeIn K cd0 "is_between" = true)
    (k0 : PySem.W.keepIn K (.ref f0) = true)
    {f1 : Addr} {od1 an1 : Option Addr} {sl1 : Array (Option Value)} {oc1 kV1 dc1 pm1 ct1 : Value} {cd1 : Value}
    (a1 : PySem.W.nsIn K mainGlobals "is_store" = some (some (.ref f1)))
    (l1 : K.lookup f1 = some ⟨oc1, od1, .func (PySem.W.fnOf "is_store" "is_store" (defArgs s_is_store) (defBody s_is_store) (defScope s_is_store) .none kV1 dc1 pm1 an1 cd1 ct1), sl1⟩)
    (c1 : PySem.W.codeIn K cd1 "is_store" = true)
    (k1 : PySem.W.keepIn K (.ref f1) = true)
    {f2 : Addr} {od2 an2 : Option Addr} {sl2 : Array (Option Value)} {oc2 kV2 dc2 pm2 ct2 : Value} {cd2 : Value}
    (a2 : PySem.W.nsIn K mainGlobals "is_bounds" = some (some (.ref f2)))
    (l2 : K.lookup f2 = some ⟨oc2, od2, .func (PySem.W.fnOf "is_bounds" "is_bounds" (defArgs s_is_bounds) (defBody s_is_bounds) (defScope s_is_bounds) .none kV2 dc2 pm2 an2 cd2 ct2), sl2⟩)
    (c2 : PySem.W.codeIn K cd2 "is_bounds" = true)
    (k2 : PySem.W.keepIn K (.ref f2) = true)
    {f3 : Addr} {od3 an3 : Option Addr} {sl3 : Array (Option Value)} {oc3 kV3 dc3 pm3 ct3 : Value} {cd3 : Value}
    (a3 : PySem.W.nsIn K mainGlobals "check_store" = some (some (.ref f3)))
    (l3 : K.lookup f3 = some ⟨oc3, od3, .func (PySem.W.fnOf "check_store" "check_store" (defArgs s_check_store) (defBody s_check_store) (defScope s_check_store) .none kV3 dc3 pm3 an3 cd3 ct3), sl3⟩)
    (c3 : PySem.W.codeIn K cd3 "check_store" = true)
    (k3 : PySem.W.keepIn K (.ref f3) = true)
    {f4 : Addr} {od4 an4 : Option Addr} {sl4 : Array (Option Value)} {oc4 kV4 dc4 pm4 ct4 : Value} {cd4 : Value}
    (a4 : PySem.W.nsIn K mainGlobals "check_bounds" = some (some (.ref f4)))
    (l4 : K.lookup f4 = some ⟨oc4, od4, .func (PySem.W.fnOf "check_bounds" "check_bounds" (defArgs s_check_bounds) (defBody s_check_bounds) (defScope s_check_bounds) .none kV4 dc4 pm4 an4 cd4 ct4), sl4⟩)
    (c4 : PySem.W.codeIn K cd4 "check_bounds" = true)
    (k4 : PySem.W.keepIn K (.ref f4) = true)
    {f5 : Addr} {od5 an5 : Option Addr} {sl5 : Array (Option Value)} {oc5 kV5 dc5 pm5 ct5 : Value} {cd5 : Value}
    (a5 : PySem.W.nsIn K mainGlobals "store_text" = some (some (.ref f5)))
    (l5 : K.lookup f5 = some ⟨oc5, od5, .func (PySem.W.fnOf "store_text" "store_text" (defArgs s_store_text) (defBody s_store_text) (defScope s_store_text) .none kV5 dc5 pm5 an5 cd5 ct5), sl5⟩)
    (c5 : PySem.W.codeIn K cd5 "store_text" = true)
    (k5 : PySem.W.keepIn K (.ref f5) = true)
    {f6 : Addr} {od6 an6 : Option Addr} {sl6 : Array (Option Value)} {oc6 kV6 dc6 pm6 ct6 : Value} {cd6 : Value}
    (a6 : PySem.W.nsIn K mainGlobals "bounds_text" = some (some (.ref f6)))
    (l6 : K.lookup f6 = some ⟨oc6, od6, .func (PySem.W.fnOf "bounds_text" "bounds_text" (defArgs s_bounds_text) (defBody s_bounds_text) (defScope s_bounds_text) .none kV6 dc6 pm6 an6 cd6 ct6), sl6⟩)
    (c6 : PySem.W.codeIn K cd6 "bounds_text" = true)
    (k6 : PySem.W.keepIn K (.ref f6) = true)
    {f7 : Addr} {od7 an7 : Option Addr} {sl7 : Array (Option Value)} {oc7 kV7 dc7 pm7 ct7 : Value} {cd7 : Value}
    (a7 : PySem.W.nsIn K mainGlobals "format_store" = some (some (.ref f7)))
    (l7 : K.lookup f7 = some ⟨oc7, od7, .func (PySem.W.fnOf "format_store" "format_store" (defArgs s_format_store) (defBody s_format_store) (defScope s_format_store) .none kV7 dc7 pm7 an7 cd7 ct7), sl7⟩)
    (c7 : PySem.W.codeIn K cd7 "format_store" = true)
    (k7 : PySem.W.keepIn K (.ref f7) = true)
    {f8 : Addr} {od8 an8 : Option Addr} {sl8 : Array (Option Value)} {oc8 kV8 dc8 pm8 ct8 : Value} {cd8 : Value}
    (a8 : PySem.W.nsIn K mainGlobals "format_bounds" = some (some (.ref f8)))
    (l8 : K.lookup f8 = some ⟨oc8, od8, .func (PySem.W.fnOf "format_bounds" "format_bounds" (defArgs s_format_bounds) (defBody s_format_bounds) (defScope s_format_bounds) .none kV8 dc8 pm8 an8 cd8 ct8), sl8⟩)
    (c8 : PySem.W.codeIn K cd8 "format_bounds" = true)
    (k8 : PySem.W.keepIn K (.ref f8) = true)
    {f9 : Addr} {od9 an9 : Option Addr} {sl9 : Array (Option Value)} {oc9 kV9 dc9 pm9 ct9 : Value} {cd9 : Value}
    (a9 : PySem.W.nsIn K mainGlobals "number_of" = some (some (.ref f9)))
    (l9 : K.lookup f9 = some ⟨oc9, od9, .func (PySem.W.fnOf "number_of" "number_of" (defArgs s_number_of) (defBody s_number_of) (defScope s_number_of) .none kV9 dc9 pm9 an9 cd9 ct9), sl9⟩)
    (c9 : PySem.W.codeIn K cd9 "number_of" = true)
    (k9 : PySem.W.keepIn K (.ref f9) = true)
    {f10 : Addr} {od10 an10 : Option Addr} {sl10 : Array (Option Value)} {oc10 kV10 dc10 pm10 ct10 : Value} {cd10 : Value}
    (a10 : PySem.W.nsIn K mainGlobals "words_of" = some (some (.ref f10)))
    (l10 : K.lookup f10 = some ⟨oc10, od10, .func (PySem.W.fnOf "words_of" "words_of" (defArgs s_words_of) (defBody s_words_of) (defScope s_words_of) .none kV10 dc10 pm10 an10 cd10 ct10), sl10⟩)
    (c10 : PySem.W.codeIn K cd10 "words_of" = true)
    (k10 : PySem.W.keepIn K (.ref f10) = true)
    {f11 : Addr} {od11 an11 : Option Addr} {sl11 : Array (Option Value)} {oc11 kV11 dc11 pm11 ct11 : Value} {cd11 : Value}
    (a11 : PySem.W.nsIn K mainGlobals "parse_store" = some (some (.ref f11)))
    (l11 : K.lookup f11 = some ⟨oc11, od11, .func (PySem.W.fnOf "parse_store" "parse_store" (defArgs s_parse_store) (defBody s_parse_store) (defScope s_parse_store) .none kV11 dc11 pm11 an11 cd11 ct11), sl11⟩)
    (c11 : PySem.W.codeIn K cd11 "parse_store" = true)
    (k11 : PySem.W.keepIn K (.ref f11) = true)
    {f12 : Addr} {od12 an12 : Option Addr} {sl12 : Array (Option Value)} {oc12 kV12 dc12 pm12 ct12 : Value} {cd12 : Value}
    (a12 : PySem.W.nsIn K mainGlobals "parse_bounds" = some (some (.ref f12)))
    (l12 : K.lookup f12 = some ⟨oc12, od12, .func (PySem.W.fnOf "parse_bounds" "parse_bounds" (defArgs s_parse_bounds) (defBody s_parse_bounds) (defScope s_parse_bounds) .none kV12 dc12 pm12 an12 cd12 ct12), sl12⟩)
    (c12 : PySem.W.codeIn K cd12 "parse_bounds" = true)
    (k12 : PySem.W.keepIn K (.ref f12) = true)
    {f13 : Addr} {od13 an13 : Option Addr} {sl13 : Array (Option Value)} {oc13 kV13 dc13 pm13 ct13 : Value} {cd13 : Value}
    (a13 : PySem.W.nsIn K mainGlobals "_law_town" = some (some (.ref f13)))
    (l13 : K.lookup f13 = some ⟨oc13, od13, .func (PySem.W.fnOf "_law_town" "_law_town" (defArgs s__law_town) (defBody s__law_town) (defScope s__law_town) .none kV13 dc13 pm13 an13 cd13 ct13), sl13⟩)
    (c13 : PySem.W.codeIn K cd13 "_law_town" = true)
    (k13 : PySem.W.keepIn K (.ref f13) = true)
    {f14 : Addr} {od14 an14 : Option Addr} {sl14 : Array (Option Value)} {oc14 kV14 dc14 pm14 ct14 : Value} {cd14 : Value}
    (a14 : PySem.W.nsIn K mainGlobals "_law_draw" = some (some (.ref f14)))
    (l14 : K.lookup f14 = some ⟨oc14, od14, .func (PySem.W.fnOf "_law_draw" "_law_draw" (defArgs s__law_draw) (defBody s__law_draw) (defScope s__law_draw) .none kV14 dc14 pm14 an14 cd14 ct14), sl14⟩)
    (c14 : PySem.W.codeIn K cd14 "_law_draw" = true)
    (k14 : PySem.W.keepIn K (.ref f14) = true)
    {f15 : Addr} {od15 an15 : Option Addr} {sl15 : Array (Option Value)} {oc15 kV15 dc15 pm15 ct15 : Value} {cd15 : Value}
    (a15 : PySem.W.nsIn K mainGlobals "_law_pick" = some (some (.ref f15)))
    (l15 : K.lookup f15 = some ⟨oc15, od15, .func (PySem.W.fnOf "_law_pick" "_law_pick" (defArgs s__law_pick) (defBody s__law_pick) (defScope s__law_pick) .none kV15 dc15 pm15 an15 cd15 ct15), sl15⟩)
    (c15 : PySem.W.codeIn K cd15 "_law_pick" = true)
    (k15 : PySem.W.keepIn K (.ref f15) = true)
    {f16 : Addr} {od16 an16 : Option Addr} {sl16 : Array (Option Value)} {oc16 kV16 dc16 pm16 ct16 : Value} {cd16 : Value}
    (a16 : PySem.W.nsIn K mainGlobals "_law_outcome" = some (some (.ref f16)))
    (l16 : K.lookup f16 = some ⟨oc16, od16, .func (PySem.W.fnOf "_law_outcome" "_law_outcome" (defArgs s__law_outcome) (defBody s__law_outcome) (defScope s__law_outcome) .none kV16 dc16 pm16 an16 cd16 ct16), sl16⟩)
    (c16 : PySem.W.codeIn K cd16 "_law_outcome" = true)
    (k16 : PySem.W.keepIn K (.ref f16) = true)
    {f17 : Addr} {od17 an17 : Option Addr} {sl17 : Array (Option Value)} {oc17 kV17 dc17 pm17 ct17 : Value} {cd17 : Value}
    (a17 : PySem.W.nsIn K mainGlobals "_law_name" = some (some (.ref f17)))
    (l17 : K.lookup f17 = some ⟨oc17, od17, .func (PySem.W.fnOf "_law_name" "_law_name" (defArgs s__law_name) (defBody s__law_name) (defScope s__law_name) .none kV17 dc17 pm17 an17 cd17 ct17), sl17⟩)
    (c17 : PySem.W.codeIn K cd17 "_law_name" = true)
    (k17 : PySem.W.keepIn K (.ref f17) = true)
    {f18 : Addr} {od18 an18 : Option Addr} {sl18 : Array (Option Value)} {oc18 kV18 dc18 pm18 ct18 : Value} {cd18 : Value}
    (a18 : PySem.W.nsIn K mainGlobals "_law_raises" = some (some (.ref f18)))
    (l18 : K.lookup f18 = some ⟨oc18, od18, .func (PySem.W.fnOf "_law_raises" "_law_raises" (defArgs s__law_raises) (defBody s__law_raises) (defScope s__law_raises) .none kV18 dc18 pm18 an18 cd18 ct18), sl18⟩)
    (c18 : PySem.W.codeIn K cd18 "_law_raises" = true)
    (k18 : PySem.W.keepIn K (.ref f18) = true)
    {f19 : Addr} {od19 an19 : Option Addr} {sl19 : Array (Option Value)} {oc19 kV19 dc19 pm19 ct19 : Value} {cd19 : Value}
    (a19 : PySem.W.nsIn K mainGlobals "_law_store" = some (some (.ref f19)))
    (l19 : K.lookup f19 = some ⟨oc19, od19, .func (PySem.W.fnOf "_law_store" "_law_store" (defArgs s__law_store) (defBody s__law_store) (defScope s__law_store) .none kV19 dc19 pm19 an19 cd19 ct19), sl19⟩)
    (c19 : PySem.W.codeIn K cd19 "_law_store" = true)
    (k19 : PySem.W.keepIn K (.ref f19) = true)
    {f20 : Addr} {od20 an20 : Option Addr} {sl20 : Array (Option Value)} {oc20 kV20 dc20 pm20 ct20 : Value} {cd20 : Value}
    (a20 : PySem.W.nsIn K mainGlobals "_law_bounds" = some (some (.ref f20)))
    (l20 : K.lookup f20 = some ⟨oc20, od20, .func (PySem.W.fnOf "_law_bounds" "_law_bounds" (defArgs s__law_bounds) (defBody s__law_bounds) (defScope s__law_bounds) .none kV20 dc20 pm20 an20 cd20 ct20), sl20⟩)
    (c20 : PySem.W.codeIn K cd20 "_law_bounds" = true)
    (k20 : PySem.W.keepIn K (.ref f20) = true)
    {f21 : Addr} {od21 an21 : Option Addr} {sl21 : Array (Option Value)} {oc21 kV21 dc21 pm21 ct21 : Value} {cd21 : Value}
    (a21 : PySem.W.nsIn K mainGlobals "_law_call" = some (some (.ref f21)))
    (l21 : K.lookup f21 = some ⟨oc21, od21, .func (PySem.W.fnOf "_law_call" "_law_call" (defArgs s__law_call) (defBody s__law_call) (defScope s__law_call) .none kV21 dc21 pm21 an21 cd21 ct21), sl21⟩)
    (c21 : PySem.W.codeIn K cd21 "_law_call" = true)
    (k21 : PySem.W.keepIn K (.ref f21) = true)
    {f22 : Addr} {od22 an22 : Option Addr} {sl22 : Array (Option Value)} {oc22 kV22 dc22 pm22 ct22 : Value} {cd22 : Value}
    (a22 : PySem.W.nsIn K mainGlobals "_law_line" = some (some (.ref f22)))
    (l22 : K.lookup f22 = some ⟨oc22, od22, .func (PySem.W.fnOf "_law_line" "_law_line" (defArgs s__law_line) (defBody s__law_line) (defScope s__law_line) .none kV22 dc22 pm22 an22 cd22 ct22), sl22⟩)
    (c22 : PySem.W.codeIn K cd22 "_law_line" = true)
    (k22 : PySem.W.keepIn K (.ref f22) = true)
    {f23 : Addr} {od23 an23 : Option Addr} {sl23 : Array (Option Value)} {oc23 kV23 dc23 pm23 ct23 : Value} {cd23 : Value}
    (a23 : PySem.W.nsIn K mainGlobals "law" = some (some (.ref f23)))
    (l23 : K.lookup f23 = some ⟨oc23, od23, .func (PySem.W.fnOf "law" "law" (defArgs s_law) (defBody s_law) (defScope s_law) .none kV23 dc23 pm23 an23 cd23 ct23), sl23⟩)
    (c23 : PySem.W.codeIn K cd23 "law" = true)
    (k23 : PySem.W.keepIn K (.ref f23) = true)
    {E0 : Addr} (ea0 : PySem.W.nsIn K mainGlobals "InvalidStore" = some (some (.ref E0))) (eq0 : PySem.W.excIn K E0 [.type "ValueError", .type "Exception", .type "BaseException", .type "object"] "ValueError.__new__" = true) (ek0 : PySem.W.keepIn K (.ref E0) = true) (eb0 : PySem.W.subIn K (.ref E0) (.type "BaseException") = some true) (et0 : PySem.W.typeIn K (.ref E0) = some (.type "type"))
    {E1 : Addr} (ea1 : PySem.W.nsIn K mainGlobals "InvalidBounds" = some (some (.ref E1))) (eq1 : PySem.W.excIn K E1 [.type "ValueError", .type "Exception", .type "BaseException", .type "object"] "ValueError.__new__" = true) (ek1 : PySem.W.keepIn K (.ref E1) = true) (eb1 : PySem.W.subIn K (.ref E1) (.type "BaseException") = some true) (et1 : PySem.W.typeIn K (.ref E1) = some (.type "type"))
    {E2 : Addr} (ea2 : PySem.W.nsIn K mainGlobals "InvalidText" = some (some (.ref E2))) (eq2 : PySem.W.excIn K E2 [.type "ValueError", .type "Exception", .type "BaseException", .type "object"] "ValueError.__new__" = true) (ek2 : PySem.W.keepIn K (.ref E2) = true) (eb2 : PySem.W.subIn K (.ref E2) (.type "BaseException") = some true) (et2 : PySem.W.typeIn K (.ref E2) = some (.type "type"))
    {G1 : Addr}
    (ga1 : PySem.W.nsIn K mainGlobals "InvalidStart" = some (some (.ref G1)))
    {G3 : Addr}
    (ga3 : PySem.W.nsIn K mainGlobals "InvalidDemands" = some (some (.ref G3)))
    {G4 : Addr}
    (ga4 : PySem.W.nsIn K mainGlobals "InvalidPosition" = some (some (.ref G4)))
    {G5 : Addr}
    (ga5 : PySem.W.nsIn K mainGlobals "InvalidDays" = some (some (.ref G5)))
    {G6 : Addr}
    (ga6 : PySem.W.nsIn K mainGlobals "InvalidDemand" = some (some (.ref G6)))
    {G8 : Addr}
    (ga8 : PySem.W.nsIn K mainGlobals "TooLong" = some (some (.ref G8)))
    {G9 : Addr}
    (ga9 : PySem.W.nsIn K mainGlobals "NothingToUndo" = some (some (.ref G9)))
    {SE : Addr}
    (sE : PySem.W.nsIn K mainGlobals "StockError" = some (some (.ref SE)))
    (vE : PySem.W.nsIn K mainGlobals "ValueError" = some none)
    (xn : PySem.W.specialIn K (.builtin "object.__class__") "__get__" = some (some (.builtin "getset_descriptor.__get__")))
    (xt : PySem.W.takesIn K (.builtin "object.__class__") = some true)
    (xg7 : PySem.W.findIn K (.ref E2) "__getattribute__" = some (some (.builtin "BaseException.__getattribute__")))
    (xk7 : PySem.W.findIn K (.ref E2) "__getattr__" = some none)
    (xs7 : PySem.W.subIn K (.ref E2) (.type "BaseException") = some true)
    (xd7 : PySem.W.hasDictIn K E2 = true)
    (xa7 : PySem.W.findIn K (.ref E2) "__class__" = some (some (.builtin "object.__class__")))
    (xm7 : PySem.W.mroIn K E2 (.type "object") = some true)
    (xv7 : PySem.W.subIn K (.ref E2) (.type "ValueError") = some true)
    (xx7 : PySem.W.subIn K (.ref E2) (.ref SE) = some true)
    (x_7_0 : PySem.W.subIn K (.ref E2) (.ref E0) = some false)
    (x_7_1 : PySem.W.subIn K (.ref E2) (.ref G1) = some false)
    (x_7_2 : PySem.W.subIn K (.ref E2) (.ref E1) = some false)
    (x_7_3 : PySem.W.subIn K (.ref E2) (.ref G3) = some false)
    (x_7_4 : PySem.W.subIn K (.ref E2) (.ref G4) = some false)
    (x_7_5 : PySem.W.subIn K (.ref E2) (.ref G5) = some false)
    (x_7_6 : PySem.W.subIn K (.ref E2) (.ref G6) = some false)
    (x_7_7 : PySem.W.subIn K (.ref E2) (.ref E2) = some true)
    (x_7_8 : PySem.W.subIn K (.ref E2) (.ref G8) = some false)
    (x_7_9 : PySem.W.subIn K (.ref E2) (.ref G9) = some false)
    (yd0 : PySem.W.hasDictIn K E0 = true)
    (yt0 : PySem.W.typeIn K (.ref E0) = some (.type "type"))
    (yd1 : PySem.W.hasDictIn K G1 = true)
    (yt1 : PySem.W.typeIn K (.ref G1) = some (.type "type"))
    (yd2 : PySem.W.hasDictIn K E1 = true)
    (yt2 : PySem.W.typeIn K (.ref E1) = some (.type "type"))
    (yd3 : PySem.W.hasDictIn K G3 = true)
    (yt3 : PySem.W.typeIn K (.ref G3) = some (.type "type"))
    (yd4 : PySem.W.hasDictIn K G4 = true)
    (yt4 : PySem.W.typeIn K (.ref G4) = some (.type "type"))
    (yd5 : PySem.W.hasDictIn K G5 = true)
    (yt5 : PySem.W.typeIn K (.ref G5) = some (.type "type"))
    (yd6 : PySem.W.hasDictIn K G6 = true)
    (yt6 : PySem.W.typeIn K (.ref G6) = some (.type "type"))
    (yd7 : PySem.W.hasDictIn K E2 = true)
    (yt7 : PySem.W.typeIn K (.ref E2) = some (.type "type"))
    (yd8 : PySem.W.hasDictIn K G8 = true)
    (yt8 : PySem.W.typeIn K (.ref G8) = some (.type "type"))
    (yd9 : PySem.W.hasDictIn K G9 = true)
    (yt9 : PySem.W.typeIn K (.ref G9) = some (.type "type"))
    (yb : PySem.W.subIn K (.ref SE) (.type "BaseException") = some true)
    (ydS : PySem.W.hasDictIn K SE = true)
    (ytS : PySem.W.typeIn K (.ref SE) = some (.type "type"))
    (z_isinstance : PySem.W.nsIn K mainGlobals "isinstance" = some none)
    (z_int : PySem.W.nsIn K mainGlobals "int" = some none)
    (z_bool : PySem.W.nsIn K mainGlobals "bool" = some none)
    (z_str : PySem.W.nsIn K mainGlobals "str" = some none)
    (z_tuple : PySem.W.nsIn K mainGlobals "tuple" = some none)
    (z_list : PySem.W.nsIn K mainGlobals "list" = some none)
    (z_len : PySem.W.nsIn K mainGlobals "len" = some none)
    (z_min : PySem.W.nsIn K mainGlobals "min" = some none)
    (z_max : PySem.W.nsIn K mainGlobals "max" = some none)
    (z_sum : PySem.W.nsIn K mainGlobals "sum" = some none)
    (z_all : PySem.W.nsIn K mainGlobals "all" = some none)
    (z_range : PySem.W.nsIn K mainGlobals "range" = some none)
    (z_set : PySem.W.nsIn K mainGlobals "set" = some none)
    : ∃ fd : FuncData, (∀ (s : Shared) (v : Value), BindsTo s fd ⟨[v], []⟩ [("script", v)]) ∧ ∀ base : Heap, K.In base → base.Ns mainGlobals mg → FnOk l.prog w K mg base (L2.CX l.prog w) 6 fa fd ["script"] (SpD K S_law) := by
  have e := hfa.symm.trans (PySem.W.mg_of X G a23)
  cases e
  have B : Bi mg := ⟨PySem.W.mg_none_of X G z_isinstance, PySem.W.mg_none_of X G z_int, PySem.W.mg_none_of X G z_bool, PySem.W.mg_none_of X G z_str, PySem.W.mg_none_of X G z_tuple, PySem.W.mg_none_of X G z_list, PySem.W.mg_none_of X G z_len, PySem.W.mg_none_of X G z_min, PySem.W.mg_none_of X G z_max, PySem.W.mg_none_of X G z_sum, PySem.W.mg_none_of X G z_all, PySem.W.mg_none_of X G z_range, PySem.W.mg_none_of X G z_set⟩
  have F_is_between := fun_mk (st := s_is_between) l0 c0 k0
  have m_is_between := PySem.W.mg_of X G a0
  have b_is_between := F_is_between.binds (ps := ["value", "low", "high"]) fun _ _ _ _ _ _ us hl => match us, hl with | [_, _, _], _ => rfl
  have F_is_store := fun_mk (st := s_is_store) l1 c1 k1
  have m_is_store := PySem.W.mg_of X G a1
  have b_is_store := F_is_store.binds (ps := ["value"]) fun _ _ _ _ _ _ us hl => match us, hl with | [_], _ => rfl
  have F_is_bounds := fun_mk (st := s_is_bounds) l2 c2 k2
  have m_is_bounds := PySem.W.mg_of X G a2
  have b_is_bounds := F_is_bounds.binds (ps := ["value"]) fun _ _ _ _ _ _ us hl => match us, hl with | [_], _ => rfl
  have F_check_store := fun_mk (st := s_check_store) l3 c3 k3
  have m_check_store := PySem.W.mg_of X G a3
  have b_check_store := F_check_store.binds (ps := ["value"]) fun _ _ _ _ _ _ us hl => match us, hl with | [_], _ => rfl
  have F_check_bounds := fun_mk (st := s_check_bounds) l4 c4 k4
  have m_check_bounds := PySem.W.mg_of X G a4
  have b_check_bounds := F_check_bounds.binds (ps := ["value"]) fun _ _ _ _ _ _ us hl => match us, hl with | [_], _ => rfl
  have F_store_text := fun_mk (st := s_store_text) l5 c5 k5
  have m_store_text := PySem.W.mg_of X G a5
  have b_store_text := F_store_text.binds (ps := ["store"]) fun _ _ _ _ _ _ us hl => match us, hl with | [_], _ => rfl
  have F_bounds_text := fun_mk (st := s_bounds_text) l6 c6 k6
  have m_bounds_text := PySem.W.mg_of X G a6
  have b_bounds_text := F_bounds_text.binds (ps := ["bounds"]) fun _ _ _ _ _ _ us hl => match us, hl with | [_], _ => rfl
  have F_format_store := fun_mk (st := s_format_store) l7 c7 k7
  have m_format_store := PySem.W.mg_of X G a7
  have b_format_store := F_format_store.binds (ps := ["store"]) fun _ _ _ _ _ _ us hl => match us, hl with | [_], _ => rfl
  have F_format_bounds := fun_mk (st := s_format_bounds) l8 c8 k8
  have m_format_bounds := PySem.W.mg_of X G a8
  have b_format_bounds := F_format_bounds.binds (ps := ["bounds"]) fun _ _ _ _ _ _ us hl => match us, hl with | [_], _ => rfl
  have F_number_of := fun_mk (st := s_number_of) l9 c9 k9
  have m_number_of := PySem.W.mg_of X G a9
  have b_number_of := F_number_of.binds (ps := ["word"]) fun _ _ _ _ _ _ us hl => match us, hl with | [_], _ => rfl
  have F_words_of := fun_mk (st := s_words_of) l10 c10 k10
  have m_words_of := PySem.W.mg_of X G a10
  have b_words_of := F_words_of.binds (ps := ["text", "many"]) fun _ _ _ _ _ _ us hl => match us, hl with | [_, _], _ => rfl
  have F_parse_store := fun_mk (st := s_parse_store) l11 c11 k11
  have m_parse_store := PySem.W.mg_of X G a11
  have b_parse_store := F_parse_store.binds (ps := ["text"]) fun _ _ _ _ _ _ us hl => match us, hl with | [_], _ => rfl
  have F_parse_bounds := fun_mk (st := s_parse_bounds) l12 c12 k12
  have m_parse_bounds := PySem.W.mg_of X G a12
  have b_parse_bounds := F_parse_bounds.binds (ps := ["text"]) fun _ _ _ _ _ _ us hl => match us, hl with | [_], _ => rfl
  have F__law_town := fun_mk (st := s__law_town) l13 c13 k13
  have m__law_town := PySem.W.mg_of X G a13
  have b__law_town := F__law_town.binds (ps := ["script"]) fun _ _ _ _ _ _ us hl => match us, hl with | [_], _ => rfl
  have F__law_draw := fun_mk (st := s__law_draw) l14 c14 k14
  have m__law_draw := PySem.W.mg_of X G a14
  have b__law_draw := F__law_draw.binds (ps := ["script", "town", "limit"]) fun _ _ _ _ _ _ us hl => match us, hl with | [_, _, _], _ => rfl
  have F__law_pick := fun_mk (st := s__law_pick) l15 c15 k15
  have m__law_pick := PySem.W.mg_of X G a15
  have b__law_pick := F__law_pick.binds (ps := ["script", "town", "choices"]) fun _ _ _ _ _ _ us hl => match us, hl with | [_, _, _], _ => rfl
  have F__law_outcome := fun_mk (st := s__law_outcome) l16 c16 k16
  have m__law_outcome := PySem.W.mg_of X G a16
  have b__law_outcome := F__law_outcome.binds (ps := ["way", "arguments"]) fun _ _ _ _ _ _ us hl => match us, hl with | [_, _], _ => rfl
  have F__law_name := fun_mk (st := s__law_name) l17 c17 k17
  have m__law_name := PySem.W.mg_of X G a17
  have b__law_name := F__law_name.binds (ps := ["caught"]) fun _ _ _ _ _ _ us hl => match us, hl with | [_], _ => rfl
  have F__law_raises := fun_mk (st := s__law_raises) l18 c18 k18
  have m__law_raises := PySem.W.mg_of X G a18
  have b__law_raises := F__law_raises.binds (ps := ["name"]) fun _ _ _ _ _ _ us hl => match us, hl with | [_], _ => rfl
  have F__law_store := fun_mk (st := s__law_store) l19 c19 k19
  have m__law_store := PySem.W.mg_of X G a19
  have b__law_store := F__law_store.binds (ps := ["script", "town", "room"]) fun _ _ _ _ _ _ us hl => match us, hl with | [_, _, _], _ => rfl
  have F__law_bounds := fun_mk (st := s__law_bounds) l20 c20 k20
  have m__law_bounds := PySem.W.mg_of X G a20
  have b__law_bounds := F__law_bounds.binds (ps := ["script", "town", "most"]) fun _ _ _ _ _ _ us hl => match us, hl with | [_, _, _], _ => rfl
  have F__law_call := fun_mk (st := s__law_call) l21 c21 k21
  have m__law_call := PySem.W.mg_of X G a21
  have b__law_call := F__law_call.binds (ps := ["way", "arguments"]) fun _ _ _ _ _ _ us hl => match us, hl with | [_, _], _ => rfl
  have F__law_line := fun_mk (st := s__law_line) l22 c22 k22
  have m__law_line := PySem.W.mg_of X G a22
  have b__law_line := F__law_line.binds (ps := ["way", "value"]) fun _ _ _ _ _ _ us hl => match us, hl with | [_, _], _ => rfl
  have F_law := fun_mk (st := s_law) l23 c23 k23
  have m_law := PySem.W.mg_of X G a23
  have b_law := F_law.binds (ps := ["script"]) fun _ _ _ _ _ _ us hl => match us, hl with | [_], _ => rfl
  have Fm : Fam K mg (csOf E0 G1 E1 G3 G4 G5 G6 E2 G8 G9) SE RX := by
    refine ⟨PySem.W.mg_of X G ea0, PySem.W.mg_of X G ga1, PySem.W.mg_of X G ea1, PySem.W.mg_of X G ga3, PySem.W.mg_of X G ga4, PySem.W.mg_of X G ga5, PySem.W.mg_of X G ga6, PySem.W.mg_of X G ea2, PySem.W.mg_of X G ga8, PySem.W.mg_of X G ga9, PySem.W.mg_of X G sE, PySem.W.mg_none_of X G vE, ?_, ?_, ?_, ?_⟩
    · rintro i (rfl)
      · exact (⟨xg7, xk7, xs7, xd7, xa7, xn, xt, xm7⟩ : ExcC K E2)
    · rintro i (rfl) j
      · match j with
        | 0 => exact kit_no x_7_7 x_7_0 yd0 yt0
        | 1 => exact kit_no x_7_7 x_7_1 yd1 yt1
        | 2 => exact kit_no x_7_7 x_7_2 yd2 yt2
        | 3 => exact kit_no x_7_7 x_7_3 yd3 yt3
        | 4 => exact kit_no x_7_7 x_7_4 yd4 yt4
        | 5 => exact kit_no x_7_7 x_7_5 yd5 yt5
        | 6 => exact kit_no x_7_7 x_7_6 yd6 yt6
        | 7 => exact kit_same K _
        | 8 => exact kit_no x_7_7 x_7_8 yd8 yt8
        | 9 => exact kit_no x_7_7 x_7_9 yd9 yt9
    · rintro i (rfl)
      · exact kit_ve xv7
    · rintro i (rfl)
      · exact PySem.W.exm_ref yb ydS ytS xx7
  have X_InvalidStore : ExC K mg "InvalidStore" E0 := ⟨eq0, PySem.W.mg_of X G ea0, ek0, eb0, et0⟩
  have X_InvalidBounds : ExC K mg "InvalidBounds" E1 := ⟨eq1, PySem.W.mg_of X G ea1, ek1, eb1, et1⟩
  have X_InvalidText : ExC K mg "InvalidText" E2 := ⟨eq2, PySem.W.mg_of X G ea2, ek2, eb2, et2⟩
  refine ⟨PySem.W.fnOf "law" "law" (defArgs s_law) (defBody s_law) (defScope s_law) .none kV23 dc23 pm23 an23 cd23 ct23, fun s v => .of_eq rfl, fun base _ _ => ?_⟩
  have C_is_between := ok_is_between (P := l.prog) (w := w) (base := base) B F_is_between m_is_between b_is_between
  have C_is_bounds := ok_is_bounds B C_is_between F_is_bounds m_is_bounds b_is_bounds
  have C_is_store := ok_is_store B C_is_between F_is_store m_is_store b_is_store
  have C_check_store := ok_check_store X_InvalidStore C_is_store F_check_store m_check_store b_check_store
  have C_check_bounds := ok_check_bounds X_InvalidBounds C_is_bounds F_check_bounds m_check_bounds b_check_bounds
  have C_store_text := ok_store_text (P := l.prog) (w := w) (base := base) F_store_text m_store_text b_store_text
  have C_number_of := ok_number_of (P := l.prog) (w := w) (base := base) B F_number_of m_number_of b_number_of
  have C_words_of := ok_words_of (P := l.prog) (w := w) (base := base) B X_InvalidText F_words_of m_words_of b_words_of
  have C_parse_store := ok_parse_store X_InvalidText C_words_of C_number_of C_is_store C_store_text F_parse_store m_parse_store b_parse_store
  have C_bounds_text := ok_bounds_text (P := l.prog) (w := w) (base := base) F_bounds_text m_bounds_text b_bounds_text
  have C_format_store := ok_format_store C_check_store C_store_text F_format_store m_format_store b_format_store
  have C_format_bounds := ok_format_bounds C_check_bounds C_bounds_text F_format_bounds m_format_bounds b_format_bounds
  have C_parse_bounds := ok_parse_bounds X_InvalidText C_words_of C_number_of C_is_bounds C_bounds_text F_parse_bounds m_parse_bounds b_parse_bounds
  have C__law_town := ok_law_town (P := l.prog) (w := w) (base := base) B F__law_town m__law_town b__law_town
  have C__law_draw := ok_law_draw (P := l.prog) (w := w) (base := base) B F__law_draw m__law_draw b__law_draw
  have C__law_pick := ok_law_pick B C__law_draw F__law_pick m__law_pick b__law_pick
  have C__law_store := ok_law_store C__law_draw F__law_store m__law_store b__law_store
  have C__law_storeF := ok_law_storeF C__law_draw F__law_store m__law_store b__law_store
  have C__law_bounds := ok_law_bounds B C__law_draw C__law_pick F__law_bounds m__law_bounds b__law_bounds
  have C__law_name := ok_law_name (P := l.prog) (w := w) (base := base) B Fm F__law_name m__law_name b__law_name
  have C__law_raises := ok_law_raises (P := l.prog) (w := w) (base := base) F__law_raises m__law_raises b__law_raises
  have C__law_call := ok_law_call C_parse_store C_parse_bounds F__law_call m__law_call b__law_call
  have C__law_line := ok_law_line (P := l.prog) (w := w) (base := base) B F__law_line m__law_line b__law_line
  have C__law_outcome := ok_law_outcome Fm C__law_call C__law_name F__law_outcome m__law_outcome b__law_outcome
  exact ok_law B Fm C__law_town C__law_draw C__law_pick C__law_store C__law_bounds C__law_outcome C__law_raises C__law_line C_is_store C_is_bounds C_format_store C_format_bounds C_parse_bounds F_law
theorem walk {l : PySem.W.OpenLaw} {q : Program} {loose : List Str} {XP : (Str → Option Value) → Heap → Prop} {YP : World → Heap → Prop} {d : DefRec} {K : Params → PySem.W.Frag} (hn : l.most = some 63) (hdf : d.params.defaults = [])
    (hY : ∀ (w : World) (h : Heap), YP w h → (K w.params).In h)
    (F : ∀ (w : World) (mg : Str → Option Value) (fa : Addr) (h : Heap), (K w.params).In h → h.Ns mainGlobals mg → mg d.name = some (.ref fa) →
      ∃ fd : FuncData, (∀ (s : Shared) (u : Value), BindsTo s fd ⟨[u], []⟩ [("script", u)]) ∧ ∀ base : Heap, (K w.params).In base → base.Ns mainGlobals mg → FnOk l.prog w (K w.params) mg base (L2.CX l.prog w) 6 fa fd ["script"] (SpD (K w.params) S_law)) :
    PySem.W.WalkO q loose XP YP l.row.toRowW d [] (fun f vs => PySem.call f vs) :=
  L2.walk_of (n := 63) (k := 6) (x := "script") (CX := fun w => L2.CX l.prog w) (sp := fun w => SpD (K w.params) S_law) hn (by decide) hdf ⟨rfl, by decide, by decide⟩ hY F
    (fun w H a ns hl o hS => ⟨[.scr a ns], fun _ => none, fun d _ => d = .bl true, XC0, .cons (.scr (Fz.of o hS)) .nil, (fun _ _ e => by cases e), el0, (fun v H' d W' _ _ r e => by subst e; cases r; rfl), a, ns, rfl, hl, fun _ => rfl⟩)
    fun w H s e s' h => by
      obtain ⟨_, _, _, _, _, _, _, _, _, _, _, _, z⟩ := h
      exact z.elim
end Law
open PySem PySem.W PyProof.Rows
set_option maxRecDepth 100000 in
set_option maxHeartbeats 0 in
theorem PySem.Challenge.cw_stockrules_k52_whole_texts_holds : PySem.Challenge.rw_stockrules_k52_whole_texts.Holds := by
  w_on; o_law; k_head; (case hw => w_witness2)
  k_fill
  refine Law.walk (l := PySem.Challenge.rw_stockrules_k52_whole_texts) rfl rfl (fun w h Y => PySem.W.kIn_of Y) ?F
  case F =>
    intro w mg fa h KX G hmg
    refine' Law.all_mk KX G hmg ?a0 ?l0 ?c0 ?k0 ?a1 ?l1 ?c1 ?k1 ?a2 ?l2 ?c2 ?k2 ?a3 ?l3 ?c3 ?k3 ?a4 ?l4 ?c4 ?k4 ?a5 ?l5 ?c5 ?k5 ?a6 ?l6 ?c6 ?k6 ?a7 ?l7 ?c7 ?k7 ?a8 ?l8 ?c8 ?k8 ?a9 ?l9 ?c9 ?k9 ?a10 ?l10 ?c10 ?k10 ?a11 ?l11 ?c11 ?k11 ?a12 ?l12 ?c12 ?k12 ?a13 ?l13 ?c13 ?k13 ?a14 ?l14 ?c14 ?k14 ?a15 ?l15 ?c15 ?k15 ?a16 ?l16 ?c16 ?k16 ?a17 ?l17 ?c17 ?k17 ?a18 ?l18 ?c18 ?k18 ?a19 ?l19 ?c19 ?k19 ?a20 ?l20 ?c20 ?k20 ?a21 ?l21 ?c21 ?k21 ?a22 ?l22 ?c22 ?k22 ?a23 ?l23 ?c23 ?k23 ?ea0 ?eq0 ?ek0 ?eb0 ?et0 ?ea1 ?eq1 ?ek1 ?eb1 ?et1 ?ea2 ?eq2 ?ek2 ?eb2 ?et2 ?ga1 ?ga3 ?ga4 ?ga5 ?ga6 ?ga8 ?ga9 ?sE ?vE ?xn ?xt ?xg7 ?xk7 ?xs7 ?xd7 ?xa7 ?xm7 ?xv7 ?xx7 ?x_7_0 ?x_7_1 ?x_7_2 ?x_7_3 ?x_7_4 ?x_7_5 ?x_7_6 ?x_7_7 ?x_7_8 ?x_7_9 ?yd0 ?yt0 ?yd1 ?yt1 ?yd2 ?yt2 ?yd3 ?yt3 ?yd4 ?yt4 ?yd5 ?yt5 ?yd6 ?yt6 ?yd7 ?yt7 ?yd8 ?yt8 ?yd9 ?yt9 ?yb ?ydS ?ytS ?z_isinstance ?z_int ?z_bool ?z_str ?z_tuple ?z_list ?z_len ?z_min ?z_max ?z_sum ?z_all ?z_range ?z_set
    (case a0 => k_is)
    (case l0 => k_is)
    (case c0 => k_is)
    (case k0 => k_is)
    (case a1 => k_is)
    (case l1 => k_is)
    (case c1 => k_is)
    (case k1 => k_is)
    (case a2 => k_is)
    (case l2 => k_is)
    (case c2 => k_is)
    (case k2 => k_is)
    (case a3 => k_is)
    (case l3 => k_is)
    (case c3 => k_is)
    (case k3 => k_is)
    (case a4 => k_is)
    (case l4 => k_is)
    (case c4 => k_is)
    (case k4 => k_is)
    (case a5 => k_is)
    (case l5 => k_is)
    (case c5 => k_is)
    (case k5 => k_is)
    (case a6 => k_is)
    (case l6 => k_is)
    (case c6 => k_is)
    (case k6 => k_is)
    (case a7 => k_is)
    (case l7 => k_is)
    (case c7 => k_is)
    (case k7 => k_is)
    (case a8 => k_is)
    (case l8 => k_is)
    (case c8 => k_is)
    (case k8 => k_is)
    (case a9 => k_is)
    (case l9 => k_is)
    (case c9 => k_is)
    (case k9 => k_is)
    (case a10 => k_is)
    (case l10 => k_is)
    (case c10 => k_is)
    (case k10 => k_is)
    (case a11 => k_is)
    (case l11 => k_is)
    (case c11 => k_is)
    (case k11 => k_is)
    (case a12 => k_is)
    (case l12 => k_is)
    (case c12 => k_is)
    (case k12 => k_is)
    (case a13 => k_is)
    (case l13 => k_is)
    (case c13 => k_is)
    (case k13 => k_is)
    (case a14 => k_is)
    (case l14 => k_is)
    (case c14 => k_is)
    (case k14 => k_is)
    (case a15 => k_is)
    (case l15 => k_is)
    (case c15 => k_is)
    (case k15 => k_is)
    (case a16 => k_is)
    (case l16 => k_is)
    (case c16 => k_is)
    (case k16 => k_is)
    (case a17 => k_is)
    (case l17 => k_is)
    (case c17 => k_is)
    (case k17 => k_is)
    (case a18 => k_is)
    (case l18 => k_is)
    (case c18 => k_is)
    (case k18 => k_is)
    (case a19 => k_is)
    (case l19 => k_is)
    (case c19 => k_is)
    (case k19 => k_is)
    (case a20 => k_is)
    (case l20 => k_is)
    (case c20 => k_is)
    (case k20 => k_is)
    (case a21 => k_is)
    (case l21 => k_is)
    (case c21 => k_is)
    (case k21 => k_is)
    (case a22 => k_is)
    (case l22 => k_is)
    (case c22 => k_is)
    (case k22 => k_is)
    (case a23 => k_is)
    (case l23 => k_is)
    (case c23 => k_is)
    (case k23 => k_is)
    (case ea0 => k_is)
    (case eq0 => k_exc)
    (case ek0 => k_is)
    (case eb0 => k_is)
    (case et0 => k_is)
    (case ea1 => k_is)
    (case eq1 => k_exc)
    (case ek1 => k_is)
    (case eb1 => k_is)
    (case et1 => k_is)
    (case ea2 => k_is)
    (case eq2 => k_exc)
    (case ek2 => k_is)
    (case eb2 => k_is)
    (case et2 => k_is)
    (case ga1 => k_is)
    (case ga3 => k_is)
    (case ga4 => k_is)
    (case ga5 => k_is)
    (case ga6 => k_is)
    (case ga8 => k_is)
    (case ga9 => k_is)
    (case sE => k_is)
    (case vE => k_is)
    (case xn => k_is)
    (case xt => k_is)
    (case xg7 => k_is)
    (case xk7 => k_is)
    (case xs7 => k_is)
    (case xd7 => k_is)
    (case xa7 => k_is)
    (case xm7 => k_is)
    (case xv7 => k_is)
    (case xx7 => k_is)
    (case x_7_0 => k_is)
    (case x_7_1 => k_is)
    (case x_7_2 => k_is)
    (case x_7_3 => k_is)
    (case x_7_4 => k_is)
    (case x_7_5 => k_is)
    (case x_7_6 => k_is)
    (case x_7_7 => k_is)
    (case x_7_8 => k_is)
    (case x_7_9 => k_is)
    (case yd0 => k_is)
    (case yt0 => k_is)
    (case yd1 => k_is)
    (case yt1 => k_is)
    (case yd2 => k_is)
    (case yt2 => k_is)
    (case yd3 => k_is)
    (case yt3 => k_is)
    (case yd4 => k_is)
    (case yt4 => k_is)
    (case yd5 => k_is)
    (case yt5 => k_is)
    (case yd6 => k_is)
    (case yt6 => k_is)
    (case yd7 => k_is)
    (case yt7 => k_is)
    (case yd8 => k_is)
    (case yt8 => k_is)
    (case yd9 => k_is)
    (case yt9 => k_is)
    (case yb => k_is)
    (case ydS => k_is)
    (case ytS => k_is)
    (case z_isinstance => k_is)
    (case z_int => k_is)
    (case z_bool => k_is)
    (case z_str => k_is)
    (case z_tuple => k_is)
    (case z_list => k_is)
    (case z_len => k_is)
    (case z_min => k_is)
    (case z_max => k_is)
    (case z_sum => k_is)
    (case z_all => k_is)
    (case z_range => k_is)
    (case z_set => k_is)
