import PyProof.Rows.All
import Wide.All
import OpenK.AllK
import Wide.FinOn
import HandS.ForMost
import HandS.ForExc
import HandS.TupAny
import HandS.TupMul
import HandS.IsInst
import HandS.Style
import HandS.Conv
import KE.KDictDisplayH
import KE.KDictWalk
import HandS.Lambda
import HandS.EndTab
import HandS.DictTup
import KE.DataMinMax
import HandS.CallSlots
import HandS.ExcIs
import HandS.OwnEq
import KE.KCallOwn
import HandS.FStr
import PySem.Challenge.RW_stockrules_k01_argument_ends
set_option Elab.async false
set_option linter.all false
set_option maxRecDepth 100000
set_option maxHeartbeats 4000000
/-! Plain facts: bounds and the demands that fit them. -/
namespace SR
structure Bd where
  low : Int
  high : Int
  days : Int
  most : Int
structure Bd.ok (b : Bd) : Prop where
  l0 : 0 ≤ b.low
  lh : b.low ≤ b.high
  h4 : b.high ≤ 4
  d1 : 1 ≤ b.days
  d3 : b.days ≤ 3
  dl : b.days * b.low ≤ b.most
  m12 : b.most ≤ 12
/-- the demands with further low ones behind them -/
def wholeB (b : Bd) (ms : List Int) : List Int := ms ++ List.replicate (b.days - 1).toNat b.low
def fitB (b : Bd) (ms : List Int) : Bool := (ms.all fun m => decide (b.low ≤ m) && decide (m ≤ b.high)) && (List.range ms.length).all fun k => decide ((((wholeB b ms).drop k).take b.days.toNat).sum ≤ b.most)
def sumTo (f : Nat → Int) : Nat → Int
  | 0 => 0
  | n + 1 => sumTo f n + f n
theorem sumTo_congr {f g : Nat → Int} : ∀ {n : Nat}, (∀ j, j < n → f j = g j) → sumTo f n = sumTo g n
  | 0, _ => rfl
  | n + 1, h => by rw [sumTo, sumTo, sumTo_congr fun j hj => h j (by omega), h n (by omega)]
theorem sumTo_le {f g : Nat → Int} : ∀ {n : Nat}, (∀ j, j < n → f j ≤ g j) → sumTo f n ≤ sumTo g n
  | 0, _ => Int.le_refl _
  | n + 1, h => by
    have h1 := sumTo_le fun j hj => h j (Nat.lt_succ_of_lt hj)
    have h2 := h n (Nat.lt_succ_self n)
    rw [sumTo, sumTo]; omega
theorem sumTo_const (c : Int) : ∀ n : Nat, sumTo (fun _ => c) n = n * c
  | 0 => by simp [sumTo]
  | n + 1 => by rw [sumTo, sumTo_const c n, Int.natCast_add, Int.add_mul]; simp
/-- one place is raised -/
theorem sumTo_upd {f g : Nat → Int} {i : Nat} : ∀ {n : Nat}, (∀ j, j < n → j ≠ i → f j = g j) → sumTo f n = sumTo g n + if i < n then f i - g i else 0
  | 0, _ => by simp [sumTo]
  | n + 1, h => by
    rw [sumTo, sumTo, sumTo_upd (f := f) (g := g) (i := i) (n := n) fun j hj => h j (by omega)]
    by_cases hn : n = i
    · subst hn
      rw [if_neg (by omega), if_pos (by omega)]; omega
    · rw [h n (by omega) hn]
      by_cases hi : i < n
      · rw [if_pos hi, if_pos (by omega)]; omega
      · rw [if_neg hi, if_neg (by omega)]; omega
theorem take_sum : ∀ (l : List Int) (k d : Nat), k + d ≤ l.length → ((l.drop k).take d).sum = sumTo (fun j => l.getD (k + j) 0) d
  | l, k, 0, _ => by simp [sumTo]
  | l, k, d + 1, h => by
    rw [sumTo, ← take_sum l k d (by omega), List.take_add_one, List.sum_append, List.getElem?_drop]
    have e : l[k + d]? = some (l.getD (k + d) 0) := by
      rw [List.getElem?_eq_getElem (by omega), List.getD_eq_getElem?_getD, List.getElem?_eq_getElem (by omega)]
      rfl
    rw [e]
    simp
/-- the sum of a window, with low ones beyond the end -/
def winS (b : Bd) (ms : List Int) (k : Nat) : Int := sumTo (fun j => ms.getD (k + j) b.low) b.days.toNat
theorem whole_get (b : Bd) (ms : List Int) (i : Nat) (h : i < ms.length + (b.days - 1).toNat) : (wholeB b ms).getD i 0 = ms.getD i b.low := by
  unfold wholeB
  rw [List.getD_eq_getElem?_getD, List.getD_eq_getElem?_getD]
  by_cases hi : i < ms.length
  · rw [List.getElem?_append_left hi, List.getElem?_eq_getElem hi]
    rfl
  · rw [List.getElem?_append_right (by omega), List.getElem?_replicate_of_lt (by omega), List.getElem?_eq_none (by omega)]
    rfl
theorem whole_win {b : Bd} (h1 : 1 ≤ b.days) (ms : List Int) (k : Nat) (hk : k < ms.length) : (((wholeB b ms).drop k).take b.days.toNat).sum = winS b ms k := by
  rw [take_sum _ _ _ (by unfold wholeB; rw [List.length_append, List.length_replicate]; omega)]
  exact sumTo_congr fun j hj => whole_get b ms _ (by omega)
theorem fitB_iff {b : Bd} (h1 : 1 ≤ b.days) (ms : List Int) : fitB b ms = true ↔ (∀ m ∈ ms, b.low ≤ m ∧ m ≤ b.high) ∧ ∀ k, k < ms.length → winS b ms k ≤ b.most := by
  unfold fitB
  rw [Bool.and_eq_true, List.all_eq_true, List.all_eq_true]
  constructor
  · rintro ⟨a, c⟩
    refine ⟨fun m hm => by simpa using a m hm, fun k hk => ?_⟩
    have := c k (List.mem_range.mpr hk)
    rw [whole_win h1 ms k hk] at this
    simpa using this
  · rintro ⟨a, c⟩
    refine ⟨fun m hm => by simpa using a m hm, fun k hk => ?_⟩
    have hk' := List.mem_range.mp hk
    rw [whole_win h1 ms k hk']
    simpa using c k hk'
theorem fit_nil (b : Bd) : fitB b [] = true := rfl
theorem getD_low {b : Bd} {ms : List Int} (h : ∀ m ∈ ms, b.low ≤ m ∧ m ≤ b.high) (i : Nat) : b.low ≤ ms.getD i b.low := by
  rw [List.getD_eq_getElem?_getD]
  cases e : ms[i]? with
  | none => exact Int.le_refl _
  | some m => exact (h m (List.mem_of_getElem? e)).1
/-- a beginning fits -/
theorem fit_take {b : Bd} (hb : b.ok) {ms : List Int} (h : fitB b ms = true) (n : Nat) : fitB b (ms.take n) = true := by
  rw [fitB_iff hb.d1] at h ⊢
  obtain ⟨ha, hw⟩ := h
  refine ⟨fun m hm => ha m (List.mem_of_mem_take hm), fun k hk => ?_⟩
  have hk2 : k < ms.length := by rw [List.length_take] at hk; omega
  refine Int.le_trans (sumTo_le fun j _ => ?_) (hw k hk2)
  rw [List.getD_eq_getElem?_getD, List.getElem?_take]
  split
  · rw [← List.getD_eq_getElem?_getD]; exact Int.le_refl _
  · exact getD_low ha _
/-- one demand more -/
theorem fit_snoc {b : Bd} (hb : b.ok) {ms : List Int} (h : fitB b ms = true) (d : Int) :
    fitB b (ms ++ [d]) = true ↔ (b.low ≤ d ∧ d ≤ b.high) ∧ ∀ k, k ≤ ms.length → ms.length < k + b.days.toNat → winS b ms k + (d - b.low) ≤ b.most := by
  have h' := (fitB_iff hb.d1 ms).mp h
  have win : ∀ k, k ≤ ms.length → winS b (ms ++ [d]) k = winS b ms k + if ms.length < k + b.days.toNat then d - b.low else 0 := by
    intro k hk
    unfold winS
    rw [sumTo_upd (g := fun j => ms.getD (k + j) b.low) (i := ms.length - k) fun j hj hne => ?_]
    · congr 1
      by_cases hc : ms.length < k + b.days.toNat
      · rw [if_pos hc, if_pos (by omega), show k + (ms.length - k) = ms.length by omega]
        rw [List.getD_eq_getElem?_getD, List.getD_eq_getElem?_getD, List.getElem?_append_right (Nat.le_refl _), Nat.sub_self, List.getElem?_eq_none (Nat.le_refl _)]
        rfl
      · rw [if_neg hc, if_neg (by omega)]
    · rw [List.getD_eq_getElem?_getD, List.getD_eq_getElem?_getD]
      by_cases hl : k + j < ms.length
      · rw [List.getElem?_append_left hl]
      · rw [List.getElem?_append_right (by omega), List.getElem?_eq_none (by simp; omega), List.getElem?_eq_none (by omega)]
  rw [fitB_iff hb.d1]
  constructor
  · rintro ⟨ha, hw⟩
    refine ⟨ha d (by simp), fun k hk hd => ?_⟩
    have := hw k (by simp; omega)
    rw [win k hk, if_pos hd] at this
    exact this
  · rintro ⟨hd, hw⟩
    refine ⟨fun m hm => ?_, fun k hk => ?_⟩
    · rcases List.mem_append.mp hm with e | e
      · exact h'.1 m e
      · simp at e; subst e; exact hd
    · have hk : k ≤ ms.length := by simp at hk; omega
      rw [win k hk]
      by_cases hc : ms.length < k + b.days.toNat
      · rw [if_pos hc]; exact hw k hk hc
      · rw [if_neg hc]
        have := h'.2 k (by have := hb.d1; omega)
        omega
theorem win_end (b : Bd) (ms : List Int) : winS b ms ms.length = b.days.toNat * b.low := by
  unfold winS
  rw [← sumTo_const]
  refine sumTo_congr fun j _ => ?_
  rw [List.getD_eq_getElem?_getD, List.getElem?_eq_none (by omega)]
  rfl
/-- a low demand always fits behind -/
theorem fit_low {b : Bd} (hb : b.ok) {ms : List Int} (h : fitB b ms = true) : fitB b (ms ++ [b.low]) = true := by
  rw [fit_snoc hb h]
  refine ⟨⟨Int.le_refl _, hb.lh⟩, fun k hk _ => ?_⟩
  by_cases e : k = ms.length
  · subst e
    have := hb.d1; have := hb.dl
    rw [win_end, show ((b.days.toNat : Nat) : Int) = b.days by omega]; omega
  · have := ((fitB_iff hb.d1 ms).mp h).2 k (by omega)
    omega
theorem fit_less {b : Bd} (hb : b.ok) {ms : List Int} (h : fitB b ms = true) {d e : Int} (hd : fitB b (ms ++ [d]) = true) (h1 : b.low ≤ e) (h2 : e ≤ d) : fitB b (ms ++ [e]) = true := by
  rw [fit_snoc hb h] at hd ⊢
  exact ⟨⟨h1, by omega⟩, fun k hk hl => by have := hd.2 k hk hl; omega⟩
theorem fit_range {b : Bd} (hb : b.ok) {ms : List Int} (h : fitB b (ms) = true) {d : Int} (hd : fitB b (ms ++ [d]) = true) : b.low ≤ d ∧ d ≤ b.high := ((fit_snoc hb h d).mp hd).1
theorem fit_init {b : Bd} (hb : b.ok) {ms : List Int} {d : Int} (h : fitB b (ms ++ [d]) = true) : fitB b ms = true := by
  have := fit_take hb h ms.length
  rw [List.take_left] at this
  exact this
theorem sum_eq_sumTo (l : List Int) (z : Int) : l.sum = sumTo (fun j => l.getD j z) l.length := by
  have h := take_sum l 0 l.length (by omega)
  rw [List.drop_zero, List.take_length] at h
  rw [h]
  refine sumTo_congr fun j hj => ?_
  rw [List.getD_eq_getElem?_getD, List.getD_eq_getElem?_getD, Nat.zero_add, List.getElem?_eq_getElem hj]
  rfl
theorem sumTo_add (f : Nat → Int) (m : Nat) : ∀ n : Nat, sumTo f (m + n) = sumTo f m + sumTo (fun j => f (m + j)) n
  | 0 => by simp [sumTo]
  | n + 1 => by rw [← Nat.add_assoc, sumTo, sumTo, sumTo_add f m n]; omega
theorem most_nn {b : Bd} (hb : b.ok) : 0 ≤ b.most := by
  have h1 : 0 ≤ b.days * b.low := Int.mul_nonneg (by have := hb.d1; omega) hb.l0
  have := hb.dl
  omega
/-- the last demands are not too many -/
theorem fit_tail {b : Bd} (hb : b.ok) {ms : List Int} (h : fitB b ms = true) : (ms.drop (ms.length - b.days.toNat)).sum ≤ b.most := by
  have hd := hb.d1
  have h' := ((fitB_iff hb.d1 ms).mp h).2
  by_cases h0 : ms.length = 0
  · have : ms = [] := List.eq_nil_of_length_eq_zero h0
    subst this
    simpa using most_nn hb
  by_cases hc : b.days.toNat ≤ ms.length
  · have hw := h' (ms.length - b.days.toNat) (by omega)
    have e := take_sum ms (ms.length - b.days.toNat) b.days.toNat (by omega)
    rw [List.take_of_length_le (by rw [List.length_drop]; omega)] at e
    rw [e]
    refine Int.le_trans (Int.le_of_eq (sumTo_congr fun j hj => ?_)) hw
    rw [List.getD_eq_getElem?_getD, List.getD_eq_getElem?_getD, List.getElem?_eq_getElem (by omega)]
    rfl
  · rw [show ms.length - b.days.toNat = 0 by omega, List.drop_zero]
    have hw := h' 0 (by omega)
    unfold winS at hw
    rw [show b.days.toNat = ms.length + (b.days.toNat - ms.length) by omega, sumTo_add] at hw
    have e : sumTo (fun j => ms.getD (0 + j) b.low) ms.length = ms.sum := by
      rw [sum_eq_sumTo ms b.low]
      exact sumTo_congr fun j _ => by rw [Nat.zero_add]
    rw [e] at hw
    have h2 : 0 ≤ sumTo (fun j => ms.getD (0 + (ms.length + j)) b.low) (b.days.toNat - ms.length) := by
      have := sumTo_le (f := fun _ => 0) (g := fun j => ms.getD (0 + (ms.length + j)) b.low) (n := b.days.toNat - ms.length) fun j _ => ?_
      · rw [sumTo_const] at this; omega
      · exact Int.le_trans hb.l0 (getD_low ((fitB_iff hb.d1 ms).mp h).1 _)
    omega
/-! ### lists of ints -/
def irange (lo hi : Int) : List Int := (List.range (hi + 1 - lo).toNat).map fun i => lo + ((i : Nat) : Int)
theorem mem_irange {lo hi d : Int} : d ∈ irange lo hi ↔ lo ≤ d ∧ d ≤ hi := by
  unfold irange
  simp only [List.mem_map, List.mem_range]
  constructor
  · rintro ⟨i, h, rfl⟩; omega
  · intro h
    exact ⟨(d - lo).toNat, by omega, by omega⟩
/-- which demands of 0 .. 9 fit behind ms: an interval -/
theorem fit_interval {b : Bd} (hb : b.ok) {ms : List Int} (h : fitB b ms = true) : ∃ c : Nat, 0 < c ∧ b.low + c ≤ 10 ∧ ((List.range 10).map fun i => ((i : Nat) : Int)).filter (fun d => fitB b (ms ++ [d])) = (List.range c).map fun i => b.low + ((i : Nat) : Int) := by
  have hl := hb.l0; have hh := hb.lh; have h4 := hb.h4
  have key : ∀ n : Nat, (∀ j : Nat, j < n → fitB b (ms ++ [b.low + j]) = true) ∨ ∃ c : Nat, c < n ∧ (∀ j : Nat, j < c → fitB b (ms ++ [b.low + j]) = true) ∧ fitB b (ms ++ [b.low + c]) = false := by
    intro n
    induction n with
    | zero => exact .inl fun j hj => by omega
    | succ n ih =>
      rcases ih with ih | ⟨c, hc, h1, h2⟩
      · cases e : fitB b (ms ++ [b.low + n]) with
        | true => exact .inl fun j hj => by by_cases q : j = n; · subst q; exact e
                                            · exact ih j (by omega)
        | false => exact .inr ⟨n, by omega, ih, e⟩
      · exact .inr ⟨c, by omega, h1, h2⟩
  obtain ⟨c, hc, h1, h2⟩ : ∃ c : Nat, c ≤ 5 ∧ (∀ j : Nat, j < c → fitB b (ms ++ [b.low + j]) = true) ∧ fitB b (ms ++ [b.low + c]) = false := by
    rcases key 6 with k | ⟨c, hc, h1, h2⟩
    · have := fit_range hb h (k 5 (by omega))
      omega
    · exact ⟨c, by omega, h1, h2⟩
  have hc0 : 0 < c := by
    rcases Nat.eq_zero_or_pos c with e | e
    · subst e
      have := fit_low hb h
      rw [show b.low + ((0 : Nat) : Int) = b.low by omega, this] at h2
      cases h2
    · exact e
  have pd : ∀ d : Int, fitB b (ms ++ [d]) = (decide (b.low ≤ d) && decide (d < b.low + c)) := by
    intro d
    cases e : fitB b (ms ++ [d]) with
    | true =>
      have hr := fit_range hb h e
      have : d < b.low + c := by
        rcases Int.lt_or_le d (b.low + c) with q | q
        · exact q
        · have := fit_less hb h e (show b.low ≤ b.low + (c : Int) by omega) q
          rw [this] at h2; cases h2
      simp [hr.1, this]
    | false =>
      by_cases q : b.low ≤ d ∧ d < b.low + c
      · have := h1 (d - b.low).toNat (by omega)
        rw [show b.low + (((d - b.low).toNat : Nat) : Int) = d by omega, e] at this
        cases this
      · symm
        rw [Bool.and_eq_false_iff]
        rcases Int.lt_or_le d b.low with z | z
        · exact .inl (decide_eq_false (by omega))
        · exact .inr (decide_eq_false (by omega))
  refine ⟨c, hc0, by omega, ?_⟩
  have fin : ∀ l : Fin 5, ∀ c : Fin 6, ((List.range 10).map fun i => ((i : Nat) : Int)).filter (fun d => decide (((l.val : Nat) : Int) ≤ d) && decide (d < ((l.val : Nat) : Int) + ((c.val : Nat) : Int))) = (List.range c.val).map fun i => ((l.val : Nat) : Int) + ((i : Nat) : Int) := by decide
  have := fin ⟨b.low.toNat, by omega⟩ ⟨c, by omega⟩
  rw [show (fun d => fitB b (ms ++ [d])) = fun d => decide (b.low ≤ d) && decide (d < b.low + c) from funext pd]
  simp only [show ((b.low.toNat : Nat) : Int) = b.low by omega] at this
  exact this
/-! ### all demands of so many days that fit -/
def extB (b : Bd) (row : List Int) : List (List Int) := ((irange b.low b.high).map fun d => row ++ [d]).filter (fitB b)
def lv (b : Bd) : Nat → List (List Int)
  | 0 => [[]]
  | i + 1 => (lv b i).flatMap (extB b)
def allB (b : Bd) : Nat → List (List Int)
  | 0 => [[]]
  | i + 1 => allB b i ++ lv b (i + 1)
theorem extB_len (b : Bd) (hb : b.ok) (row : List Int) : (extB b row).length ≤ 5 := by
  unfold extB
  refine Nat.le_trans (List.length_filter_le _ _) ?_
  unfold irange
  rw [List.length_map, List.length_map, List.length_range]
  have := hb.l0; have := hb.h4
  omega
theorem flatMap_len {α β : Type} (f : α → List β) (k : Nat) (h : ∀ x, (f x).length ≤ k) : ∀ l : List α, (l.flatMap f).length ≤ k * l.length
  | [] => by simp
  | a :: r => by
    rw [List.flatMap_cons, List.length_append, List.length_cons]
    have h1 := flatMap_len f k h r
    have h2 := h a
    rw [Nat.mul_add]; omega
theorem lv_len {b : Bd} (hb : b.ok) : ∀ i, (lv b i).length ≤ 5 ^ i
  | 0 => by simp [lv]
  | i + 1 => by
    have h1 := flatMap_len (extB b) 5 (extB_len b hb) (lv b i)
    have h2 := lv_len hb i
    show ((lv b i).flatMap (extB b)).length ≤ 5 ^ (i + 1)
    rw [Nat.pow_succ]; omega
theorem allB_len {b : Bd} (hb : b.ok) : ∀ i, (allB b i).length ≤ 5 ^ (i + 1)
  | 0 => by simp [allB]
  | i + 1 => by
    have h1 := allB_len hb i
    have h2 := lv_len hb (i + 1)
    show (allB b i ++ lv b (i + 1)).length ≤ 5 ^ (i + 1 + 1)
    rw [List.length_append, Nat.pow_succ]; omega
theorem lv_fit {b : Bd} : ∀ i ms, ms ∈ lv b i → fitB b ms = true ∧ ms.length = i
  | 0, ms, h => by simp [lv] at h; subst h; exact ⟨rfl, rfl⟩
  | i + 1, ms, h => by
    obtain ⟨row, h1, h2⟩ := List.mem_flatMap.mp h
    obtain ⟨h3, h4⟩ := List.mem_filter.mp h2
    obtain ⟨d, _, rfl⟩ := List.mem_map.mp h3
    refine ⟨h4, ?_⟩
    rw [List.length_append, (lv_fit i row h1).2]
    rfl
theorem allB_fit {b : Bd} : ∀ i ms, ms ∈ allB b i → fitB b ms = true ∧ ms.length ≤ i
  | 0, ms, h => by simp [allB] at h; subst h; exact ⟨rfl, Nat.le_refl _⟩
  | i + 1, ms, h => by
    rcases List.mem_append.mp h with h | h
    · obtain ⟨h1, h2⟩ := allB_fit i ms h
      exact ⟨h1, by omega⟩
    · obtain ⟨h1, h2⟩ := lv_fit (i + 1) ms h
      exact ⟨h1, by omega⟩
theorem allB_ne (b : Bd) : ∀ i, 0 < (allB b i).length
  | 0 => by simp [allB]
  | i + 1 => by show 0 < (allB b i ++ lv b (i + 1)).length; rw [List.length_append]; have := allB_ne b i; omega
end SR
/-! The data layer: tuples are values, what may change stands in a plain map. -/
namespace SR
open PySem PySem.Spec PyProof.Rows L2
abbrev St := L2.St

/-- data: tuples are values; p: a thing at an address -/
inductive D where
  | non | bl (b : Bool) | int (i : Int) | str (x : Str) | ty (n : String) | tup (xs : List D) | scr (a : Addr) (ns : List Int) | p (a : Addr) | exc (a C : Addr)

/-- a list that never changes -/
def Fz (K : PySem.W.Frag) (H : Hp) (a : Addr) (xs : List V) : Prop := (∃ o, H a = some (.frz o (.lst xs))) ∨ SqL K (fun _ => none) a xs
theorem Fz.sq {K : PySem.W.Frag} {H : Hp} {a : Addr} {xs : List V} (h : Fz K H a xs) : SqL K H a xs := by
  rcases h with ⟨o, h⟩ | ((h | ⟨_, h⟩) | h)
  · exact .inl (.inr ⟨o, h⟩)
  · cases h
  · cases h
  · exact .inr h
theorem Fz.of {K : PySem.W.Frag} {H : Hp} {a : Addr} {xs : List V} (o : Only H) (h : SqL K H a xs) : Fz K H a xs := by
  rcases h with (h | ⟨ob, h⟩) | h
  · rcases o a with e | ⟨ob, ys, e⟩
    · rw [h] at e; cases e
    · rw [h] at e; cases e
  · exact .inl ⟨ob, h⟩
  · exact .inr (.inr h)

structure Kp (H H' : Hp) : Prop where
  t : ∀ b xs, H b = some (.tup xs) → H' b = some (.tup xs)
  f : ∀ b o u, H b = some (.frz o u) → H' b = some (.frz o u)
theorem Kp.refl (H : Hp) : Kp H H := ⟨fun _ _ h => h, fun _ _ _ h => h⟩
theorem Kp.trans {H H1 H2 : Hp} (a : Kp H H1) (b : Kp H1 H2) : Kp H H2 := ⟨fun c xs h => b.t c xs (a.t c xs h), fun c o u h => b.f c o u (a.f c o u h)⟩
theorem Kp.new {H : Hp} {p : Addr} {o : HO} (h : H p = none) : Kp H (upd H p o) :=
  ⟨fun b xs e => by rw [upd_ne (ne_of_none e h)]; exact e, fun b ob u e => by rw [upd_ne (ne_of_none e h)]; exact e⟩
theorem Kp.at {H : Hp} {p : Addr} {o ob : HO} (h : H p = some ob) (h1 : ∀ xs, ob ≠ .tup xs) (h2 : ∀ c u, ob ≠ .frz c u) : Kp H (upd H p o) :=
  ⟨fun b xs e => by rw [upd_ne (ne_of e h (fun z => h1 xs z.symm))]; exact e, fun b c u e => by rw [upd_ne (ne_of e h (fun z => h2 c u z.symm))]; exact e⟩
theorem Fz.kp {K : PySem.W.Frag} {H H' : Hp} {a : Addr} {xs : List V} (k : Kp H H') (h : Fz K H a xs) : Fz K H' a xs := by
  rcases h with ⟨o, h⟩ | h
  · exact .inl ⟨o, k.f _ _ _ h⟩
  · exact .inr h

mutual
inductive Rp (K : PySem.W.Frag) (H : Hp) : V → D → Prop
  | non : Rp K H .non .non
  | bl (b : Bool) : Rp K H (.bl b) (.bl b)
  | int (i : Int) : Rp K H (.int i) (.int i)
  | str (x : Str) : Rp K H (.str x) (.str x)
  | ty (n : String) : Rp K H (.ty n) (.ty n)
  | p (a : Addr) : Rp K H (.ref a) (.p a)
  | scr {a : Addr} {ns : List Int} : Fz K H a (ns.map V.int) → Rp K H (.ref a) (.scr a ns)
  | tup {a : Addr} {xs : List V} {ds : List D} : H a = some (.tup xs) → RpAll K H xs ds → Rp K H (.ref a) (.tup ds)
  | exc {a C : Addr} {oe : Obj} {u : HO} : H a = some (.frz oe u) → oe.cls = .ref C → oe.dict = none → (∃ vs, oe.data = .fields vs) → Rp K H (.ref a) (.exc a C)
inductive RpAll (K : PySem.W.Frag) (H : Hp) : List V → List D → Prop
  | nil : RpAll K H [] []
  | cons {v : V} {vs : List V} {d : D} {ds : List D} : Rp K H v d → RpAll K H vs ds → RpAll K H (v :: vs) (d :: ds)
end
mutual
theorem Rp.kp {K : PySem.W.Frag} {H H' : Hp} (k : Kp H H') : ∀ {v : V} {d : D}, Rp K H v d → Rp K H' v d
  | _, _, .non => .non
  | _, _, .bl b => .bl b
  | _, _, .int i => .int i
  | _, _, .str x => .str x
  | _, _, .ty n => .ty n
  | _, _, .p a => .p a
  | _, _, .scr h => .scr (h.kp k)
  | _, _, .tup h r => .tup (k.t _ _ h) (RpAll.kp k r)
  | _, _, .exc h c d v => .exc (k.f _ _ _ h) c d v
theorem RpAll.kp {K : PySem.W.Frag} {H H' : Hp} (k : Kp H H') : ∀ {vs : List V} {ds : List D}, RpAll K H vs ds → RpAll K H' vs ds
  | _, _, .nil => .nil
  | _, _, .cons h r => .cons (Rp.kp k h) (RpAll.kp k r)
end
section
variable {K : PySem.W.Frag} {H H' : Hp}
theorem RpAll.length : ∀ {vs : List V} {ds : List D}, RpAll K H vs ds → vs.length = ds.length
  | _, _, .nil => rfl
  | _, _, .cons _ r => by rw [List.length_cons, List.length_cons, RpAll.length r]
theorem RpAll.get : ∀ {vs : List V} {ds : List D} {i : Nat} {d : D}, RpAll K H vs ds → ds[i]? = some d → ∃ v, vs[i]? = some v ∧ Rp K H v d
  | _, _, _, _, .nil, e => by simp at e
  | _, _, 0, _, .cons h _, e => by simp at e; subst e; exact ⟨_, rfl, h⟩
  | _, _, i + 1, d, .cons _ r, e => by
    obtain ⟨v, h1, h2⟩ := RpAll.get (i := i) (d := d) r (by simpa using e)
    exact ⟨v, by simpa using h1, h2⟩
theorem RpAll.get' : ∀ {vs : List V} {ds : List D} {i : Nat} {v : V}, RpAll K H vs ds → vs[i]? = some v → ∃ d, ds[i]? = some d ∧ Rp K H v d
  | _, _, _, _, .nil, e => by simp at e
  | _, _, 0, _, .cons h _, e => by simp at e; subst e; exact ⟨_, rfl, h⟩
  | _, _, i + 1, v, .cons _ r, e => by
    obtain ⟨d, h1, h2⟩ := RpAll.get' (i := i) (v := v) r (by simpa using e)
    exact ⟨d, by simpa using h1, h2⟩
theorem RpAll.append : ∀ {vs ws : List V} {ds es : List D}, RpAll K H vs ds → RpAll K H ws es → RpAll K H (vs ++ ws) (ds ++ es)
  | _, _, _, _, .nil, s => s
  | _, _, _, _, .cons h r, s => .cons h (RpAll.append r s)
theorem RpAll.drop : ∀ {vs : List V} {ds : List D} (n : Nat), RpAll K H vs ds → RpAll K H (vs.drop n) (ds.drop n)
  | _, _, 0, r => r
  | _, _, _ + 1, .nil => .nil
  | _, _, n + 1, .cons _ r => RpAll.drop n r
theorem RpAll.take : ∀ {vs : List V} {ds : List D} (n : Nat), RpAll K H vs ds → RpAll K H (vs.take n) (ds.take n)
  | _, _, 0, _ => .nil
  | _, _, _ + 1, .nil => .nil
  | _, _, n + 1, .cons h r => .cons h (RpAll.take n r)
theorem RpAll.set {v : V} {d : D} (h : Rp K H v d) : ∀ {vs : List V} {ds : List D} (i : Nat), RpAll K H vs ds → RpAll K H (vs.set i v) (ds.set i d)
  | _, _, _, .nil => .nil
  | _, _, 0, .cons _ r => .cons h r
  | _, _, i + 1, .cons q r => .cons q (RpAll.set h i r)
theorem RpAll.dropLast : ∀ {vs : List V} {ds : List D}, RpAll K H vs ds → RpAll K H vs.dropLast ds.dropLast
  | _, _, .nil => .nil
  | _, _, .cons _ .nil => .nil
  | _, _, .cons h (.cons h2 r) => .cons h (RpAll.dropLast (.cons h2 r))
theorem RpAll.ints : ∀ {vs : List V} {ns : List Int}, RpAll K H vs (ns.map D.int) → vs = ns.map V.int
  | _, [], .nil => rfl
  | _, n :: ns, .cons h r => by
    cases h
    rw [List.map_cons, RpAll.ints r]
theorem RpAll.ofInts : ∀ (ns : List Int), RpAll K H (ns.map V.int) (ns.map D.int)
  | [] => .nil
  | n :: ns => .cons (.int n) (RpAll.ofInts ns)
theorem RpAll.bls : ∀ {vs : List V} {bs : List Bool}, RpAll K H vs (bs.map D.bl) → vs = bs.map V.bl
  | _, [], .nil => rfl
  | _, n :: ns, .cons h r => by
    cases h
    rw [List.map_cons, RpAll.bls r]
theorem RpAll.strs : ∀ {vs : List V} {bs : List Str}, RpAll K H vs (bs.map D.str) → vs = bs.map V.str
  | _, [], .nil => rfl
  | _, n :: ns, .cons h r => by
    cases h
    rw [List.map_cons, RpAll.strs r]
theorem RpAll.ofStrs : ∀ (ns : List Str), RpAll K H (ns.map V.str) (ns.map D.str)
  | [] => .nil
  | n :: ns => .cons (.str n) (RpAll.ofStrs ns)
theorem RpAll.rep {vs : List V} {ds : List D} (h : RpAll K H vs ds) : ∀ k : Nat, RpAll K H (List.replicate k vs).flatten (List.replicate k ds).flatten
  | 0 => .nil
  | k + 1 => by
    rw [List.replicate_succ, List.replicate_succ, List.flatten_cons, List.flatten_cons]
    exact h.append (RpAll.rep h k)
end

/-- what stands at an address; dic: a dict whose keys are nested tuples, fdic: such a one that never changes any more -/
inductive Ob where
  | lst (ds : List D)
  | ins (C dx : Addr) (fs : List (Str × D))
  | own (x : Addr)
  | dic (w : World) (kvs : List (NestedKey × D))
  | fdic (w : World) (kvs : List (NestedKey × D))
  | fn (q : Str) (pr : Arguments) (bd : Expr) (sc : Scope)
  | tab (q : Str)
  | set (n : Nat)
mutual
/-- the datum of a key -/
def kD : NestedKey → D
  | .none => .non
  | .num i => .int i
  | .text x => .str x
  | .tup ks => .tup (kDs ks)
def kDs : List NestedKey → List D
  | [] => []
  | k :: ks => kD k :: kDs ks
end
/-- the object of a dict with the entries xs -/
def DIs (w : World) (a : Addr) (xs : List (NestedKey × Addr × Value)) (h : Heap) : Prop :=
  xs.length ≤ sizeLine ∧ (a == sysModules) = false ∧ ∃ o es ep, h.get? a = some o ∧ o.ExactDict ∧ o.data = .dict es ep ∧ es.toList = xs.map (fun x => (⟨x.1.hash w, .ref x.2.1, x.2.2⟩ : DictEntry)) ∧ (xs.map (·.1)).Nodup
theorem DIs.stay {w : World} {a : Addr} {xs : List (NestedKey × Addr × Value)} {h h' : Heap} (x : DIs w a xs h) (k : ∀ o, h.get? a = some o → h'.get? a = some o) : DIs w a xs h' := by
  obtain ⟨h1, h2, o, es, ep, h3, h4⟩ := x
  exact ⟨h1, h2, o, es, ep, k o h3, h4⟩
def KTn (K : PySem.W.Frag) (H : Hp) : List (NestedKey × D) → List (NestedKey × Addr × Value) → Prop :=
  Paired fun p q => p.1 = q.1 ∧ p.1.depth ≤ 8 ∧ Rp K H (.ref q.2.1) (kD p.1) ∧ ∃ v, RelV v q.2.2 ∧ Rp K H v p.2
theorem KTn.kp {K : PySem.W.Frag} {H H' : Hp} (k : Kp H H') {kvs : List (NestedKey × D)} {xs : List (NestedKey × Addr × Value)} (h : KTn K H kvs xs) : KTn K H' kvs xs :=
  Paired.mapP h fun _ _ z => ⟨z.1, z.2.1, z.2.2.1.kp k, let ⟨v, a, b⟩ := z.2.2.2; ⟨v, a, b.kp k⟩⟩
abbrev Om := Addr → Option Ob
def updO (W : Om) (a : Addr) (o : Ob) : Om := fun b => if b = a then some o else W b
theorem updO_same {W : Om} {a : Addr} {o : Ob} : updO W a o a = some o := by unfold updO; rw [if_pos rfl]
theorem updO_ne {W : Om} {a b : Addr} {o : Ob} (h : b ≠ a) : updO W a o b = W b := by unfold updO; rw [if_neg h]
theorem updO_updO {W : Om} {a : Addr} {o u : Ob} : updO (updO W a o) a u = updO W a u := by
  funext b; unfold updO; split <;> rfl
def Sub (W W' : Om) : Prop := ∀ b o, W b = some o → W' b = some o
theorem Sub.refl (W : Om) : Sub W W := fun _ _ h => h
theorem Sub.trans {W W1 W2 : Om} (a : Sub W W1) (b : Sub W1 W2) : Sub W W2 := fun c o h => b c o (a c o h)
theorem neO {W : Om} {a b : Addr} {o : Ob} (h : W a = some o) (h' : W b = none) : a ≠ b := by
  intro e; subst e; rw [h] at h'; cases h'
theorem Sub.new {W : Om} {p : Addr} {o : Ob} (h : W p = none) : Sub W (updO W p o) := fun b u e => by rw [updO_ne (neO e h)]; exact e
theorem Sub.free {W W' : Om} (s : Sub W W') {p : Addr} (h : W' p = none) : W p = none := by
  cases e : W p with
  | none => rfl
  | some o => rw [s p o e] at h; cases h

/-- a set with n members -/
def SetN (a : Addr) (n : Nat) (h : Heap) : Prop := ∃ o es c t, h.get? a = some o ∧ o.cls = .type "set" ∧ o.data = .set es c t ∧ es.size = n ∧ t.place.size = es.size ∧ t.fill ≤ t.mask
/-- a table of code objects that all bear the name q -/
def TabD (H : Hp) (a : Addr) (q : Str) : Prop := ∃ ps : Array Value, H a = some (.tbl ps) ∧ TriplesOk ps.toList ∧ ∀ (pos : Pos) (cv : Value), codeAmong pos ps.toList = some cv → ∃ c oc u vs t, cv = .ref c ∧ H c = some (.frz oc u) ∧ oc.data = .fields vs ∧ vs[1]? = some (.str q t)
/-- a lambda of the name q, and its code object -/
def FnD (H : Hp) (a : Addr) (q : Str) (pr : Arguments) (bd : Expr) (sc : Scope) : Prop := ∃ pm ctv c u oc u2 vs t, H a = some (.frz (PySem.W.kla_obj "<lambda>" q pr bd sc [] pm c ctv) u) ∧ H c = some (.frz oc u2) ∧ oc.data = .fields vs ∧ vs[1]? = some (.str q t)
def FsR (K : PySem.W.Frag) (H : Hp) : List (Str × V) → List (Str × D) → Prop := Paired fun g f => g.1 = f.1 ∧ Rp K H g.2 f.2
def ObR (K : PySem.W.Frag) (H : Hp) (a : Addr) : Ob → Prop
  | .lst ds => ∃ xs, H a = some (.lst xs) ∧ RpAll K H xs ds
  | .ins C dx fs => ∃ gs, H a = some (.ins C dx gs) ∧ FsR K H gs fs
  | .own x => H a = some (.own x)
  | .dic w kvs => ∃ xs, H a = some (.ext (DIs w a xs)) ∧ KTn K H kvs xs
  | .fdic w kvs => ∃ o xs, H a = some (.frz o (.ext (DIs w a xs))) ∧ KTn K H kvs xs
  | .fn q pr bd sc => FnD H a q pr bd sc
  | .tab q => TabD H a q
  | .set n => H a = some (.ext (SetN a n))
def HpOk (K : PySem.W.Frag) (H : Hp) (W : Om) : Prop := ∀ a o, W a = some o → ObR K H a o
section
variable {K : PySem.W.Frag} {H H' : Hp} {W W' : Om} {a p : Addr} {o : Ob}
theorem FsR.kp (k : Kp H H') {gs : List (Str × V)} {fs : List (Str × D)} (h : FsR K H gs fs) : FsR K H' gs fs := Paired.mapP h fun _ _ z => ⟨z.1, z.2.kp k⟩
theorem ObR.stay (x : ObR K H a o) (k : Kp H H') (e : H' a = H a) : ObR K H' a o := by
  cases o with
  | lst ds => obtain ⟨xs, h, r⟩ := x; exact ⟨xs, e.trans h, r.kp k⟩
  | ins C dx fs => obtain ⟨gs, h, r⟩ := x; exact ⟨gs, e.trans h, r.kp k⟩
  | own y => exact e.trans x
  | dic w kvs => obtain ⟨xs, h, r⟩ := x; exact ⟨xs, e.trans h, r.kp k⟩
  | fdic w kvs => obtain ⟨o, xs, h, r⟩ := x; exact ⟨o, xs, e.trans h, r.kp k⟩
  | fn q pr bd sc =>
    obtain ⟨pm, ctv, c, u, oc, u2, vs, t, h1, h2, h3⟩ := x
    exact ⟨pm, ctv, c, u, oc, u2, vs, t, k.f _ _ _ h1, k.f _ _ _ h2, h3⟩
  | tab q =>
    obtain ⟨ps, h, t, f⟩ := x
    refine ⟨ps, e.trans h, t, fun pos cv hc => ?_⟩
    obtain ⟨c, oc, u, vs, tk, e1, e2, e3⟩ := f pos cv hc
    exact ⟨c, oc, u, vs, tk, e1, k.f _ _ _ e2, e3⟩
  | set n => exact e.trans x
theorem ObR.some (x : ObR K H a o) : ∃ u, H a = Option.some u := by
  cases o with
  | lst ds => obtain ⟨xs, h, r⟩ := x; exact ⟨_, h⟩
  | ins C dx fs => obtain ⟨gs, h, r⟩ := x; exact ⟨_, h⟩
  | own y => exact ⟨_, x⟩
  | dic w kvs => obtain ⟨xs, h, r⟩ := x; exact ⟨_, h⟩
  | fdic w kvs => obtain ⟨o, xs, h, r⟩ := x; exact ⟨_, h⟩
  | fn q pr bd sc => obtain ⟨_, _, _, _, _, _, _, _, h, _⟩ := x; exact ⟨_, h⟩
  | tab q => obtain ⟨ps, h, _⟩ := x; exact ⟨_, h⟩
  | set n => exact ⟨_, x⟩
theorem HpOk.free (x : HpOk K H W) (h : H p = none) : W p = none := by
  cases e : W p with
  | none => rfl
  | some o =>
    obtain ⟨u, q⟩ := (x p o e).some
    rw [h] at q; cases q
theorem HpOk.sub (x : HpOk K H W') (s : Sub W W') : HpOk K H W := fun a o e => x a o (s a o e)
theorem HpOk.new {u : HO} (x : HpOk K H W) (h : H p = none) (n : ObR K (upd H p u) p o) : HpOk K (upd H p u) (updO W p o) := fun b v e => by
  by_cases hb : b = p
  · subst hb
    rw [updO_same] at e; cases e
    exact n
  · rw [updO_ne hb] at e
    exact (x b v e).stay (Kp.new h) (upd_ne hb)
/-- a new tracked thing that W does not name -/
theorem HpOk.more {u : HO} (x : HpOk K H W) (h : H p = none) : HpOk K (upd H p u) W := fun b v e => by
  have hb : b ≠ p := neO e (x.free h)
  exact (x b v e).stay (Kp.new h) (upd_ne hb)
theorem HpOk.set {u : HO} (x : HpOk K H W) (k : Kp H (upd H p u)) (n : ObR K (upd H p u) p o) : HpOk K (upd H p u) (updO W p o) := fun b v e => by
  by_cases hb : b = p
  · subst hb
    rw [updO_same] at e; cases e
    exact n
  · rw [updO_ne hb] at e
    exact (x b v e).stay k (upd_ne hb)
end

/-- the slots -/
abbrev Ga := List (Option D)
structure RpS (K : PySem.W.Frag) (H : Hp) (σ : St) (g : Ga) : Prop where
  len : σ.length = g.length
  get : ∀ (i : Nat) (d : D), g[i]? = some (some d) → ∃ v, σ[i]? = some (some v) ∧ Rp K H v d
section
variable {K : PySem.W.Frag} {H H' : Hp} {σ : St} {g : Ga}
theorem RpS.kp (k : Kp H H') (h : RpS K H σ g) : RpS K H' σ g := ⟨h.len, fun i d e => let ⟨v, a, b⟩ := h.get i d e; ⟨v, a, b.kp k⟩⟩
theorem RpS.set (h : RpS K H σ g) (i : Nat) {v : V} {d : D} (r : Rp K H v d) : RpS K H (σ.set i (some v)) (g.set i (some d)) := by
  refine ⟨by rw [List.length_set, List.length_set]; exact h.len, fun j e q => ?_⟩
  by_cases hj : i = j
  · subst hj
    by_cases hl : i < g.length
    · rw [List.getElem?_set_self hl] at q
      cases q
      exact ⟨v, by rw [List.getElem?_set_self (by rw [h.len]; exact hl)], r⟩
    · rw [List.getElem?_eq_none (by rw [List.length_set]; omega)] at q; cases q
  · rw [List.getElem?_set_ne hj] at q
    obtain ⟨u, a, b⟩ := h.get j e q
    exact ⟨u, by rw [List.getElem?_set_ne hj]; exact a, b⟩
/-- forgetting -/
def Less (g' g : Ga) : Prop := g'.length = g.length ∧ ∀ (i : Nat) (d : D), g'[i]? = some (some d) → g[i]? = some (some d)
theorem RpS.weak {g' : Ga} (h : RpS K H σ g) (l : Less g' g) : RpS K H σ g' := ⟨h.len.trans l.1.symm, fun i d e => h.get i d (l.2 i d e)⟩
def lessB : Ga → Ga → Prop
  | [], [] => True
  | none :: g', _ :: g => lessB g' g
  | some d :: g', x :: g => x = some d ∧ lessB g' g
  | _, _ => False
theorem less_of : ∀ {g' g : Ga}, lessB g' g → Less g' g
  | [], [], _ => ⟨rfl, fun _ _ h => h⟩
  | none :: g', x :: g, h => by
    obtain ⟨a, b⟩ := less_of (g' := g') (g := g) h
    refine ⟨by rw [List.length_cons, List.length_cons, a], fun i d e => ?_⟩
    cases i with
    | zero => simp at e
    | succ i => simpa using b i d (by simpa using e)
  | some y :: g', x :: g, h => by
    obtain ⟨rfl, h⟩ := h
    obtain ⟨a, b⟩ := less_of (g' := g') (g := g) h
    refine ⟨by rw [List.length_cons, List.length_cons, a], fun i d e => ?_⟩
    cases i with
    | zero => simpa using e
    | succ i => simpa using b i d (by simpa using e)
def startD (n : Nat) (ds : List D) : Ga := ds.map some ++ List.replicate (n - ds.length) none
theorem rpS_start {N : List Str} {vs : List V} {ds : List D} (h : RpAll K H vs ds) : RpS K H (start N vs) (startD N.length ds) := by
  have hl := h.length
  refine ⟨by unfold L2.start startD; rw [List.length_append, List.length_append, List.length_map, List.length_map, List.length_replicate, List.length_replicate, hl], fun i d e => ?_⟩
  unfold startD at e
  unfold L2.start
  by_cases hi : i < ds.length
  · rw [List.getElem?_append_left (by rw [List.length_map]; exact hi), List.getElem?_map] at e
    have e2 : ds[i]? = some d := by
      cases q : ds[i]? with
      | none => rw [q] at e; cases e
      | some x => rw [q] at e; exact congrArg some (Option.some.inj (Option.some.inj e))
    obtain ⟨v, a, b⟩ := h.get e2
    refine ⟨v, ?_, b⟩
    rw [List.getElem?_append_left (by rw [List.length_map, hl]; exact hi), List.getElem?_map, a]
    rfl
  · rw [List.getElem?_append_right (by rw [List.length_map]; omega)] at e
    obtain ⟨h1, h2⟩ := List.getElem?_eq_some_iff.mp e
    rw [List.getElem_replicate] at h2
    cases h2
end

/-- what an exception of the class at C may mean -/
abbrev XCt := Addr → Om → Prop
def EL (K : PySem.W.Frag) (H : Hp) (E : XK) (XC : XCt) : Prop := ∀ (C : Addr) (H' : Hp) (W' : Om), Kp H H' → HpOk K H' W' → XC C W' → E (.ref C) none H'
theorem EL.kp {K : PySem.W.Frag} {H H' : Hp} {E : XK} {XC : XCt} (k : Kp H H') (h : EL K H E XC) : EL K H' E XC := fun C H2 W2 k2 => h C H2 W2 (k.trans k2)
abbrev XC0 : XCt := fun _ _ => False
theorem el0 {K : PySem.W.Frag} {H : Hp} {E : XK} : EL K H E XC0 := fun _ _ _ _ _ h => h.elim
/-- what is wanted of a value -/
abbrev OD := D → Om → Prop
def QL (K : PySem.W.Frag) (H : Hp) (O : OD) (Q : VK) : Prop := ∀ (v : V) (H' : Hp) (d : D) (W' : Om), Kp H H' → HpOk K H' W' → Rp K H' v d → O d W' → Q v H'
theorem QL.kp {K : PySem.W.Frag} {H H' : Hp} {O : OD} {Q : VK} (k : Kp H H') (h : QL K H O Q) : QL K H' O Q := fun v H2 d W2 k2 => h v H2 d W2 (k.trans k2)

/-- an expression's reading over data -/
def Ex (K : PySem.W.Frag) (E : XK) (XC : XCt) (t : TE) (g : Ga) (W : Om) (O : OD) : Prop :=
  ∀ (σ : St) (H : Hp), RpS K H σ g → HpOk K H W → EL K H E XC → ∀ Q : VK, QL K H O Q → t σ H Q
def ExT (K : PySem.W.Frag) (E : XK) (XC : XCt) (t : TT) (g : Ga) (W : Om) (O : Bool → Om → Prop) : Prop :=
  ∀ (σ : St) (H : Hp), RpS K H σ g → HpOk K H W → EL K H E XC → ∀ Q : Bool → Hp → Prop, (∀ b H' W', Kp H H' → HpOk K H' W' → O b W' → Q b H') → t σ H Q
def ExA (K : PySem.W.Frag) (E : XK) (XC : XCt) (t : TA) (g : Ga) (W : Om) (O : List D → Om → Prop) : Prop :=
  ∀ (σ : St) (H : Hp), RpS K H σ g → HpOk K H W → EL K H E XC → ∀ Q : List V → Hp → Prop, (∀ vs H' ds W', Kp H H' → HpOk K H' W' → RpAll K H' vs ds → O ds W' → Q vs H') → t σ H Q
/-- what is wanted behind a statement -/
structure EndD where
  nx : Ga → Om → Prop
  rt : OD
  bk : Ga → Om → Prop := fun _ _ => False
  ct : Ga → Om → Prop := fun _ _ => False
def SL (K : PySem.W.Frag) (H : Hp) (O : Ga → Om → Prop) (Q : St → Hp → Prop) : Prop := ∀ (σ : St) (H' : Hp) (g : Ga) (W' : Om), Kp H H' → HpOk K H' W' → RpS K H' σ g → O g W' → Q σ H'
theorem SL.kp {K : PySem.W.Frag} {H H' : Hp} {O : Ga → Om → Prop} {Q : St → Hp → Prop} (k : Kp H H') (h : SL K H O Q) : SL K H' O Q := fun v H2 d W2 k2 => h v H2 d W2 (k.trans k2)
structure Lk (K : PySem.W.Frag) (H : Hp) (C : EndD) (D : Ends) : Prop where
  nx : SL K H C.nx D.nx
  rt : QL K H C.rt D.rt
  bk : SL K H C.bk D.bk
  ct : SL K H C.ct D.ct
theorem Lk.kp {K : PySem.W.Frag} {H H' : Hp} {C : EndD} {D : Ends} (k : Kp H H') (h : Lk K H C D) : Lk K H' C D := ⟨h.nx.kp k, h.rt.kp k, h.bk.kp k, h.ct.kp k⟩
def Do (K : PySem.W.Frag) (E : XK) (XC : XCt) (t : TS) (g : Ga) (W : Om) (C : EndD) : Prop :=
  ∀ (D : Ends) (σ : St) (H : Hp), RpS K H σ g → HpOk K H W → EL K H E XC → Lk K H C D → t D σ H

/-! ### the weakest readings -/
def tW (X : Cx) (e : Expr) : TE := fun σ H Q => ∀ (pins : List (Addr × Obj)) (s : Shared), Inv X pins σ H s → wpAny (model X.prog X.w) X.A (eval e X.env) (EP X pins σ Q) X.xe s
theorem pe_W {X : Cx} {e : Expr} : PE X e (tW X e) := ⟨fun pins s σ H Q I h => h pins s I⟩
def ttW (X : Cx) (e : Expr) : TT := fun σ H Q => ∀ (pins : List (Addr × Obj)) (s : Shared), Inv X pins σ H s → wpAny (model X.prog X.w) X.A (isTrue e X.env (eval e X.env)) (TP X pins σ Q) X.xe s
theorem pt_W {X : Cx} {e : Expr} : PT X e (ttW X e) := ⟨fun pins s σ H Q I h => h pins s I⟩
def twW (X : Cx) (e : Expr) : TT := fun σ H Q => ∀ (whole : Sem Value) (pins : List (Addr × Obj)) (s : Shared), Inv X pins σ H s → wpAny (model X.prog X.w) X.A (isTrue e X.env whole) (TP X pins σ Q) X.xe s
theorem pw_W {X : Cx} {e : Expr} : PW X e (twW X e) := ⟨fun whole pins s σ H Q I h => h whole pins s I⟩
def taW (X : Cx) (es : List Expr) : TA := fun σ H Q => ∀ (pos : Pos) (pins : List (Addr × Obj)) (s : Shared), Inv X pins σ H s → wpAny (model X.prog X.w) X.A (spliced (backTo pos (starEach es X.env))) (AP X pins σ Q) X.xe s
theorem pa_W {X : Cx} {es : List Expr} : PA X es (taW X es) := ⟨fun pos pins s σ H Q I h => h pos pins s I⟩
def tsW (X : Cx) (st : Stmt) : TS := fun D σ H => ∀ (pins : List (Addr × Obj)) (s : Shared), Inv X pins σ H s → wpAny (model X.prog X.w) X.A (exec st X.env) (SP X pins D) X.xe s
theorem ps_W {X : Cx} {st : Stmt} : PS X st (tsW X st) := ⟨fun pins s σ H D I h => h pins s I⟩
def tssW (X : Cx) (st : List Stmt) : TS := fun D σ H => ∀ (pins : List (Addr × Obj)) (s : Shared), Inv X pins σ H s → wpAny (model X.prog X.w) X.A (execs st X.env) (SP X pins D) X.xe s
theorem pss_W {X : Cx} {st : List Stmt} : PSs X st (tssW X st) := ⟨fun pins s σ H D I h => h pins s I⟩

/-! ### the judgements over the text -/
def XE (X : Cx) (E : XK) (XC : XCt) (e : Expr) (g : Ga) (W : Om) (O : OD) : Prop := Ex X.K E XC (tW X e) g W O
def XT (X : Cx) (E : XK) (XC : XCt) (e : Expr) (g : Ga) (W : Om) (O : Bool → Om → Prop) : Prop := ExT X.K E XC (ttW X e) g W O
def XW (X : Cx) (E : XK) (XC : XCt) (e : Expr) (g : Ga) (W : Om) (O : Bool → Om → Prop) : Prop := ExT X.K E XC (twW X e) g W O
def XA (X : Cx) (E : XK) (XC : XCt) (es : List Expr) (g : Ga) (W : Om) (O : List D → Om → Prop) : Prop := ExA X.K E XC (taW X es) g W O
def XS (X : Cx) (E : XK) (XC : XCt) (st : Stmt) (g : Ga) (W : Om) (C : EndD) : Prop := Do X.K E XC (tsW X st) g W C
def XB (X : Cx) (E : XK) (XC : XCt) (st : List Stmt) (g : Ga) (W : Om) (C : EndD) : Prop := Do X.K E XC (tssW X st) g W C
section
variable {X : Cx} {E : XK} {XC : XCt} {g : Ga} {W : Om}
theorem xe_of {e : Expr} {t : TE} {O : OD} (h : PE X e t) (x : Ex X.K E XC t g W O) : XE X E XC e g W O := fun σ H r k el Q q pins s I => h.run pins s σ H Q I (x σ H r k el Q q)
theorem xt_of {e : Expr} {t : TT} {O : Bool → Om → Prop} (h : PT X e t) (x : ExT X.K E XC t g W O) : XT X E XC e g W O := fun σ H r k el Q q pins s I => h.run pins s σ H Q I (x σ H r k el Q q)
theorem xw_of {e : Expr} {t : TT} {O : Bool → Om → Prop} (h : PW X e t) (x : ExT X.K E XC t g W O) : XW X E XC e g W O := fun σ H r k el Q q whole pins s I => h.run whole pins s σ H Q I (x σ H r k el Q q)
theorem xa_of {es : List Expr} {t : TA} {O : List D → Om → Prop} (h : PA X es t) (x : ExA X.K E XC t g W O) : XA X E XC es g W O := fun σ H r k el Q q pos pins s I => h.run pos pins s σ H Q I (x σ H r k el Q q)
theorem xs_of {st : Stmt} {t : TS} {C : EndD} (h : PS X st t) (x : Do X.K E XC t g W C) : XS X E XC st g W C := fun D σ H r k el l pins s I => h.run pins s σ H D I (x D σ H r k el l)
theorem xb_of {st : List Stmt} {t : TS} {C : EndD} (h : PSs X st t) (x : Do X.K E XC t g W C) : XB X E XC st g W C := fun D σ H r k el l pins s I => h.run pins s σ H D I (x D σ H r k el l)

/-! ### names, constants -/
theorem xe_name (i : Nat) {x : Str} {pos : Pos} {d : D} {O : OD} (hg : g[i]? = some (some d)) (h : O d W) (hN : X.N[i]? = some x := by rfl)
    (hv : Vis X.env.scope x := by first | exact Or.inl rfl | exact Or.inr (Or.inl rfl) | exact Or.inr (Or.inr rfl)) (hd : (x == ("__debug__" : Str)) = false := by decide)
    (hcd : (x == ("__classdict__" : Str)) = false := by decide) : XE X E XC (.Name x pos) g W O := by
  refine xe_of (pe_var hN hv hd hcd) fun σ H r k el Q q => ?_
  obtain ⟨v, a, b⟩ := r.get i d hg
  exact ⟨v, a, q v H d W (Kp.refl H) k b h⟩
theorem xe_int {i j pos} {O : OD} (h : O (.int i) W) : XE X E XC (.Constant (.int i) j pos) g W O := xe_of pe_int fun σ H r k el Q q => q _ H _ W (Kp.refl H) k (.int i) h
theorem xe_bl {i j pos} {O : OD} (h : O (.bl i) W) : XE X E XC (.Constant (.bool i) j pos) g W O := xe_of pe_bl fun σ H r k el Q q => q _ H _ W (Kp.refl H) k (.bl i) h
theorem xe_str {i j pos} {O : OD} (h : O (.str i) W) : XE X E XC (.Constant (.str i) j pos) g W O := xe_of pe_str fun σ H r k el Q q => q _ H _ W (Kp.refl H) k (.str i) h
theorem xe_non {j pos} {O : OD} (h : O .non W) : XE X E XC (.Constant .none j pos) g W O := xe_of pe_non fun σ H r k el Q q => q _ H _ W (Kp.refl H) k .non h
/-- a built-in class as a value -/
theorem xe_ty {x : Str} {n : String} {pos : Pos} {O : OD} (hm : X.mg x = none) (hv : bootBuiltins x = some (.type n)) (h : O (.ty n) W) (hg : Gl X x := by rfl) (hn : x ≠ "__name__" := by decide) (hd : (x == ("__debug__" : Str)) = false := by decide) : XE X E XC (.Name x pos) g W O :=
  xe_of (pe_bltn (v := .ty n) hg hm hv rfl hn hd) fun σ H r k el Q q => q _ H _ W (Kp.refl H) k (.ty n) h
/-- a def or a class of the text as a value -/
theorem xe_glob {x : Str} {a : Addr} {pos : Pos} {O : OD} (hm : X.mg x = some (.ref a)) (h : O (.p a) W) (hg : Gl X x := by rfl) (hd : (x == ("__debug__" : Str)) = false := by decide) : XE X E XC (.Name x pos) g W O :=
  xe_of (pe_glob (v := .ref a) hg hm rfl hd) fun σ H r k el Q q => q _ H _ W (Kp.refl H) k (.p a) h

/-! ### arguments -/
theorem xa_nil {O : List D → Om → Prop} (h : O [] W) : XA X E XC [] g W O := xa_of pa_nil fun σ H r k el Q q => q [] H [] W (Kp.refl H) k .nil h
theorem xa_cons {e : Expr} {es : List Expr} {O : List D → Om → Prop} (h : XE X E XC e g W fun d W1 => XA X E XC es g W1 fun ds W2 => O (d :: ds) W2)
    (hs : starEach (e :: es) X.env = (false, eval e X.env) :: starEach es X.env := by rfl) : XA X E XC (e :: es) g W O := by
  refine xa_of (pa_cons pe_W pa_W hs) fun σ H r k el Q q => ?_
  refine h σ H r k el _ fun v H1 d W1 k1 o1 r1 h1 => ?_
  refine h1 σ H1 (r.kp k1) o1 (el.kp k1) _ fun vs H2 ds W2 k2 o2 r2 h2 => ?_
  exact q _ H2 _ W2 (k1.trans k2) o2 (.cons (r1.kp k2) r2) h2
theorem xe_tup {es : List Expr} {x1} {pos : Pos} {O : OD} (h : XA X E XC es g W fun ds W1 => ds.length ≤ 1000 ∧ O (.tup ds) W1) : XE X E XC (.Tuple es x1 pos) g W O := by
  refine xe_of (pe_tup pa_W) fun σ H r k el Q q => ?_
  refine h σ H r k el _ fun vs H1 ds W1 k1 o1 r1 ⟨hz, h1⟩ => ⟨?_, fun p hp => ?_⟩
  · rw [r1.length]; exact Nat.le_of_lt (small1000 hz)
  · exact q _ _ _ W1 (k1.trans (Kp.new hp)) (o1.more hp) (.tup upd_same (r1.kp (Kp.new hp))) h1
theorem xe_lst {es : List Expr} {pos : Pos} {O : OD} (h : XA X E XC es g W fun ds W1 => ds.length ≤ 1000 ∧ ∀ l, W1 l = none → O (.p l) (updO W1 l (.lst ds))) : XE X E XC (.List es pos) g W O := by
  refine xe_of (pe_lst pa_W) fun σ H r k el Q q => ?_
  refine h σ H r k el _ fun vs H1 ds W1 k1 o1 r1 ⟨hz, h1⟩ => ⟨?_, fun p hp => ?_⟩
  · rw [r1.length]; exact Nat.le_of_lt (small1000 hz)
  · exact q _ _ _ _ (k1.trans (Kp.new hp)) (o1.new (o := .lst ds) hp ⟨vs, upd_same, r1.kp (Kp.new hp)⟩) (.p p) (h1 p (o1.free hp))
end
end SR
namespace SR
open PySem PySem.Spec PyProof.Rows L2
abbrev R2D := D → D → Om → OD → Prop
/-- a two-place operation over data -/
def Op2 (K : PySem.W.Frag) (r : R2) (rD : R2D) : Prop := ∀ (x y : V) (d e : D) (H : Hp) (W : Om) (O : OD) (Q : VK), Rp K H x d → Rp K H y e → HpOk K H W → QL K H O Q → rD d e W O → r x y H Q
section
variable {X : Cx} {E : XK} {XC : XCt} {g : Ga} {W : Om} {a b c : Expr} {pos : Pos} {O : OD}
theorem ex_op {K : PySem.W.Frag} {r : R2} {rD : R2D} {ta tb : TE} (ho : Op2 K r rD) (h : Ex K E XC ta g W fun d W1 => Ex K E XC tb g W1 fun e W2 => rD d e W2 O) : Ex K E XC (tOp r ta tb) g W O := by
  intro σ H r0 k el Q q
  refine h σ H r0 k el _ fun x H1 d W1 k1 o1 r1 h1 => ?_
  refine h1 σ H1 (r0.kp k1) o1 (el.kp k1) _ fun y H2 e W2 k2 o2 r2 h2 => ?_
  exact ho x y d e H2 W2 O Q (r1.kp k2) r2 o2 (q.kp (k1.trans k2)) h2

/-! ### + -/
def AddD : R2D := fun d e W O => match d, e with
  | .int i, .int j => O (.int (i + j)) W
  | .tup xs, .tup ys => xs.length + ys.length ≤ 1000 ∧ O (.tup (xs ++ ys)) W
  | .str x, .str y => x.length + y.length ≤ 1000 ∧ O (.str (x ++ y)) W
  | .p l, .p m => ∃ xs ys, W l = some (.lst xs) ∧ W m = some (.lst ys) ∧ xs.length + ys.length ≤ sizeLine ∧ ∀ p, W p = none → O (.p p) (updO W p (.lst (xs ++ ys)))
  | _, _ => False
def rAddA (K : PySem.W.Frag) : R2 := fun x y H Q => (∃ i j, x = .int i ∧ y = .int j ∧ Q (.int (i + j)) H) ∨ rCatA K x y H Q ∨ (∃ i j, x = .str i ∧ y = .str j ∧ i.length + j.length ≤ sizeLine ∧ Q (.str (i ++ j)) H) ∨ rCat x y H Q
theorem le1000 {n : Nat} (h : n ≤ 1000) : n ≤ sizeLine := Nat.le_of_lt (small1000 h)
theorem op2_add (K : PySem.W.Frag) : Op2 K (rAddA K) AddD := by
  intro x y d e H W O Q rx ry o q h
  cases rx with
  | int i =>
    cases ry with
    | int j => exact .inl ⟨i, j, rfl, rfl, q _ H _ W (Kp.refl H) o (.int _) h⟩
    | _ => exact False.elim h
  | str i =>
    cases ry with
    | str j => exact .inr (.inr (.inl ⟨i, j, rfl, rfl, le1000 h.1, q _ H _ W (Kp.refl H) o (.str _) h.2⟩))
    | _ => exact False.elim h
  | @tup l xs ds hl hx =>
    cases ry with
    | @tup m ys es hm hy =>
      obtain ⟨hz, h⟩ := h
      refine .inr (.inl ⟨l, m, xs, ys, rfl, rfl, .of hl, .of hm, by rw [hx.length, hy.length]; exact le1000 hz, fun e => ?_, fun _ e => ?_, fun _ _ p hp => ?_⟩)
      · subst e
        cases hx
        exact q _ H _ W (Kp.refl H) o (.tup hm hy) h
      · subst e
        cases hy
        exact q _ H _ W (Kp.refl H) o (.tup hl (by rw [List.append_nil]; exact hx)) h
      · exact q _ _ _ W (Kp.new hp) (o.more hp) (.tup upd_same ((hx.append hy).kp (Kp.new hp))) h
    | _ => exact False.elim h
  | p l =>
    cases ry with
    | p m =>
      obtain ⟨ds, es, hl, hm, hz, h⟩ := h
      obtain ⟨xs, h1, r1⟩ := o l _ hl
      obtain ⟨ys, h2, r2⟩ := o m _ hm
      refine .inr (.inr (.inr ⟨l, m, xs, ys, rfl, rfl, h1, h2, by rw [r1.length, r2.length]; exact hz, fun p hp => ?_⟩))
      exact q _ _ _ _ (Kp.new hp) (o.new (o := .lst (ds ++ es)) hp ⟨_, upd_same, (r1.append r2).kp (Kp.new hp)⟩) (.p p) (h p (o.free hp))
    | _ => exact False.elim h
  | _ => exact False.elim (by cases ry <;> exact h)
theorem xe_add (h : XE X E XC a g W fun d W1 => XE X E XC b g W1 fun e W2 => AddD d e W2 O) : XE X E XC (.BinOp a .Add b pos) g W O :=
  xe_of (pe_op (r := rAddA X.K) (op_add.or (op_catA.or (op_add_str.or op_cat))) pe_W pe_W) (ex_op (op2_add X.K) h)
/-! ### -, //, %, ** of ints -/
def SubD : R2D := fun d e W O => match d, e with
  | .int i, .int j => O (.int (i - j)) W
  | _, _ => False
theorem op2_int {K : PySem.W.Frag} {C : Int → Int → Prop} {f : Int → Int → Int} : Op2 K (rI C fun i j => .int (f i j)) (fun d e W O => ∃ i j, d = .int i ∧ e = .int j ∧ C i j ∧ O (.int (f i j)) W) := by
  intro x y d e H W O Q rx ry o q ⟨i, j, e1, e2, hc, h⟩
  subst e1 e2
  cases rx
  cases ry
  exact ⟨i, j, rfl, rfl, hc, q _ H _ W (Kp.refl H) o (.int _) h⟩
theorem op2_int0 {K : PySem.W.Frag} {f : Int → Int → Int} : Op2 K (rI0 fun i j => .int (f i j)) (fun d e W O => ∃ i j, d = .int i ∧ e = .int j ∧ O (.int (f i j)) W) := by
  intro x y d e H W O Q rx ry o q ⟨i, j, e1, e2, h⟩
  subst e1 e2
  cases rx
  cases ry
  exact ⟨i, j, rfl, rfl, q _ H _ W (Kp.refl H) o (.int _) h⟩
theorem op2_bl0 {K : PySem.W.Frag} {f : Int → Int → Bool} : Op2 K (rI0 fun i j => .bl (f i j)) (fun d e W O => ∃ i j, d = .int i ∧ e = .int j ∧ O (.bl (f i j)) W) := by
  intro x y d e H W O Q rx ry o q ⟨i, j, e1, e2, h⟩
  subst e1 e2
  cases rx
  cases ry
  exact ⟨i, j, rfl, rfl, q _ H _ W (Kp.refl H) o (.bl _) h⟩
theorem xe_sub (h : XE X E XC a g W fun d W1 => XE X E XC b g W1 fun e W2 => ∃ i j, d = .int i ∧ e = .int j ∧ O (.int (i - j)) W2) : XE X E XC (.BinOp a .Sub b pos) g W O :=
  xe_of (pe_op op_sub pe_W pe_W) (ex_op op2_int0 h)
theorem xe_div (h : XE X E XC a g W fun d W1 => XE X E XC b g W1 fun e W2 => ∃ i j, d = .int i ∧ e = .int j ∧ CDiv i j ∧ O (.int (i / j)) W2) : XE X E XC (.BinOp a .FloorDiv b pos) g W O :=
  xe_of (pe_op op_fdiv pe_W pe_W) (ex_op op2_int h)
theorem xe_mod (h : XE X E XC a g W fun d W1 => XE X E XC b g W1 fun e W2 => ∃ i j, d = .int i ∧ e = .int j ∧ 0 < j ∧ O (.int (i % j)) W2) : XE X E XC (.BinOp a .Mod b pos) g W O :=
  xe_of (pe_op op_mod pe_W pe_W) (ex_op op2_int h)
theorem xe_pow (h : XE X E XC a g W fun d W1 => XE X E XC b g W1 fun e W2 => ∃ i j, d = .int i ∧ e = .int j ∧ CPow i j ∧ O (.int (i ^ j.toNat)) W2) : XE X E XC (.BinOp a .Pow b pos) g W O :=
  xe_of (pe_op op_pow pe_W pe_W) (ex_op op2_int h)
theorem xe_mul (h : XE X E XC a g W fun d W1 => XE X E XC b g W1 fun e W2 => ∃ i j, d = .int i ∧ e = .int j ∧ CMul i j ∧ O (.int (i * j)) W2) : XE X E XC (.BinOp a .Mult b pos) g W O :=
  xe_of (pe_op op_mul pe_W pe_W) (ex_op op2_int h)
theorem xe_neg {O : OD} (h : XE X E XC a g W fun d W1 => ∃ i, d = .int i ∧ O (.int (-i)) W1) : XE X E XC (.UnaryOp .USub a pos) g W O := by
  refine xe_of (pe_un un_neg pe_W) fun σ H r k el Q q => ?_
  refine h σ H r k el _ fun x H1 d W1 k1 o1 r1 ⟨i, e, h1⟩ => ?_
  subst e
  cases r1
  exact ⟨i, rfl, q _ H1 _ W1 k1 o1 (.int _) h1⟩

/-! ### comparisons of ints -/
def cmpI : CmpOp → Int → Int → Option Bool
  | .Lt, i, j => some (decide (i < j))
  | .LtE, i, j => some (decide (i ≤ j))
  | .Gt, i, j => some (decide (j < i))
  | .GtE, i, j => some (decide (j ≤ i))
  | _, _, _ => none
/-- what a comparison asks: of ints an answer -/
def CmpD (op : CmpOp) : R2D := fun d e W O => ∃ i j r, d = .int i ∧ e = .int j ∧ cmpI op i j = some r ∧ O (.bl r) W
theorem cmp_opR {X : Cx} (op : CmpOp) (h : op = .Lt ∨ op = .LtE ∨ op = .Gt ∨ op = .GtE) : ∃ r : R2, OpR X (compareOp op) r ∧ Op2 X.K r (CmpD op) := by
  rcases h with rfl | rfl | rfl | rfl
  · refine ⟨_, op_lt, fun x y d e H W O Q rx ry o q ⟨i, j, r, e1, e2, hc, h⟩ => ?_⟩
    cases hc
    exact op2_bl0 x y d e H W O Q rx ry o q ⟨i, j, e1, e2, h⟩
  · refine ⟨_, op_le, fun x y d e H W O Q rx ry o q ⟨i, j, r, e1, e2, hc, h⟩ => ?_⟩
    cases hc
    exact op2_bl0 x y d e H W O Q rx ry o q ⟨i, j, e1, e2, h⟩
  · refine ⟨_, op_gt, fun x y d e H W O Q rx ry o q ⟨i, j, r, e1, e2, hc, h⟩ => ?_⟩
    cases hc
    exact op2_bl0 x y d e H W O Q rx ry o q ⟨i, j, e1, e2, h⟩
  · refine ⟨_, op_ge, fun x y d e H W O Q rx ry o q ⟨i, j, r, e1, e2, hc, h⟩ => ?_⟩
    cases hc
    exact op2_bl0 x y d e H W O Q rx ry o q ⟨i, j, e1, e2, h⟩
theorem ex_cmp {op : CmpOp} (hop : op = .Lt ∨ op = .LtE ∨ op = .Gt ∨ op = .GtE) (h : XE X E XC a g W fun d W1 => XE X E XC b g W1 fun e W2 => CmpD op d e W2 O) : XE X E XC (.Compare a [op] [b] pos) g W O := by
  obtain ⟨r, h1, h2⟩ := cmp_opR (X := X) op hop
  exact xe_of (pe_cmpR h1 pe_W pe_W (nomark _ (by rcases hop with rfl | rfl | rfl | rfl <;> decide) (by rcases hop with rfl | rfl | rfl | rfl <;> decide))) (ex_op h2 h)
/-- from a value to a test -/
abbrev asB (O : Bool → Om → Prop) : OD := fun d W => ∃ k, d = .bl k ∧ O k W
theorem exT_test {K : PySem.W.Frag} {t : TE} {O : Bool → Om → Prop} (h : Ex K E XC t g W (asB O)) : ExT K E XC (tTest t) g W O := by
  intro σ H r k el Q q
  refine h σ H r k el _ fun x H1 d W1 k1 o1 r1 ⟨c, e, h1⟩ => ?_
  subst e
  cases r1
  exact ⟨c, rfl, q c H1 W1 k1 o1 h1⟩
theorem xt_cmp {op : CmpOp} {O : Bool → Om → Prop} (hop : op = .Lt ∨ op = .LtE ∨ op = .Gt ∨ op = .GtE) (h : XE X E XC a g W fun d W1 => XE X E XC b g W1 fun e W2 => CmpD op d e W2 (asB O)) : XT X E XC (.Compare a [op] [b] pos) g W O := by
  obtain ⟨r, h1, h2⟩ := cmp_opR (X := X) op hop
  exact xt_of (pt_cmpR h1 pe_W pe_W (nomark _ (by rcases hop with rfl | rfl | rfl | rfl <;> decide) (by rcases hop with rfl | rfl | rfl | rfl <;> decide))) (exT_test (ex_op h2 h))
/-- low <= x <= high -/
theorem xe_chain (h : XE X E XC a g W fun d W1 => XE X E XC b g W1 fun e W2 => ∃ i j, d = .int i ∧ e = .int j ∧ (i ≤ j → XE X E XC c g W2 fun f W3 => ∃ k, f = .int k ∧ O (.bl (decide (j ≤ k))) W3) ∧ (¬ i ≤ j → O (.bl false) W2))
    (hm : lastMarks [.LtE, .LtE] [b, c] = false := by with_unfolding_all rfl) : XE X E XC (.Compare a [.LtE, .LtE] [b, c] pos) g W O := by
  refine xe_of (pe_chain op_le op_le pe_W pe_W pe_W hm) fun σ H r k el Q q => ?_
  refine h σ H r k el _ fun x H1 d W1 k1 o1 r1 h1 => ?_
  refine h1 σ H1 (r.kp k1) o1 (el.kp k1) _ fun y H2 e W2 k2 o2 r2 ⟨i, j, e1, e2, ha, hb⟩ => ?_
  subst e1 e2
  cases r1
  cases r2
  refine ⟨i, j, rfl, rfl, decide (i ≤ j), rfl, ?_⟩
  by_cases hij : i ≤ j
  · rw [if_pos (decide_eq_true hij)]
    refine ha hij σ H2 ((r.kp k1).kp k2) o2 ((el.kp k1).kp k2) _ fun z H3 f W3 k3 o3 r3 ⟨m, e3, h3⟩ => ?_
    subst e3
    cases r3
    exact ⟨j, m, rfl, rfl, q _ H3 _ W3 ((k1.trans k2).trans k3) o3 (.bl _) h3⟩
  · rw [decide_eq_false hij, if_neg Bool.false_ne_true]
    exact q _ H2 _ W2 (k1.trans k2) o2 (.bl _) (hb hij)

/-! ### == and != -/
mutual
/-- as plain data -/
def toP : D → Option PyData
  | .non => some .none
  | .bl b => some (.bool b)
  | .int i => some (.int i)
  | .str x => some (.str x)
  | .tup xs => (toPs xs).map .tuple
  | .scr _ ns => some (.list (ns.map PyData.int))
  | _ => none
def toPs : List D → Option (List PyData)
  | [] => some []
  | x :: xs => match toP x, toPs xs with
    | some y, some ys => some (y :: ys)
    | _, _ => none
end
/-- the data of a value where a list of plain items may stand at the top -/
def topP (W : Om) : D → Option PyData
  | .p a => match W a with
    | some (.lst ds) => (toPs ds).map .list
    | _ => none
  | d => toP d
theorem dpAll_ints {K : PySem.W.Frag} {H : Hp} : ∀ ns : List Int, DpAll K H (ns.map V.int) (ns.map PyData.int)
  | [] => .nil
  | n :: r => .cons (.int n) (dpAll_ints r)
mutual
theorem toP_dp {K : PySem.W.Frag} {H : Hp} : ∀ {d : D} {v : V} {y : PyData}, toP d = some y → Rp K H v d → Dp K H v y
  | .non, _, _, e, .non => by simp only [toP, Option.some.injEq] at e; subst e; exact .non
  | .bl b, _, _, e, .bl _ => by simp only [toP, Option.some.injEq] at e; subst e; exact .bl b
  | .int b, _, _, e, .int _ => by simp only [toP, Option.some.injEq] at e; subst e; exact .int b
  | .str b, _, _, e, .str _ => by simp only [toP, Option.some.injEq] at e; subst e; exact .str b
  | .tup xs, _, y, e, .tup h r => by
    simp only [toP] at e
    cases q : toPs xs with
    | none => rw [q] at e; cases e
    | some ys =>
      rw [q] at e
      simp only [Option.map_some, Option.some.injEq] at e
      subst e
      exact .tup (.of h) (toPs_dp q r)
  | .scr _ ns, _, _, e, .scr h => by
    simp only [toP, Option.some.injEq] at e
    subst e
    exact .lst h.sq (dpAll_ints ns)
  | .ty _, _, _, e, _ => by simp [toP] at e
  | .p _, _, _, e, _ => by simp [toP] at e
  | .exc _ _, _, _, e, _ => by simp [toP] at e
theorem toPs_dp {K : PySem.W.Frag} {H : Hp} : ∀ {ds : List D} {vs : List V} {ys : List PyData}, toPs ds = some ys → RpAll K H vs ds → DpAll K H vs ys
  | [], _, _, e, .nil => by simp only [toPs, Option.some.injEq] at e; subst e; exact .nil
  | d :: ds, _, ys, e, .cons h r => by
    simp only [toPs] at e
    split at e
    · rename_i y zs e1 e2
      simp only [Option.some.injEq] at e
      subst e
      exact .cons (toP_dp e1 h) (toPs_dp e2 r)
    · cases e
end
theorem topP_dp {K : PySem.W.Frag} {H : Hp} {d : D} {v : V} {y : PyData} (o : HpOk K H W) (e : topP W d = some y) (r : Rp K H v d) : Dp K H v y := by
  cases r with
  | p a =>
    simp only [topP] at e
    split at e
    · rename_i ds q
      obtain ⟨xs, h1, h2⟩ := o a _ q
      cases q2 : toPs ds with
      | none => rw [q2] at e; cases e
      | some ys =>
        rw [q2] at e
        simp only [Option.map_some, Option.some.injEq] at e
        subst e
        exact .lst (.of h1) (toPs_dp q2 h2)
    · cases e
  | non => exact toP_dp e .non
  | bl b => exact toP_dp e (.bl b)
  | int b => exact toP_dp e (.int b)
  | str b => exact toP_dp e (.str b)
  | ty b => simp [topP, toP] at e
  | scr h => exact toP_dp e (.scr h)
  | tup h h2 => exact toP_dp e (.tup h h2)
  | exc _ _ _ _ => simp [topP, toP] at e
/-- == -/
def EqD : R2D := fun d e W O => ∃ y z, topP W d = some y ∧ topP W e = some z ∧ SeqAt.shaped y = true ∧ SeqAt.shaped z = true ∧ O (.bl (PyData.eqv y z)) W
def NeD : R2D := fun d e W O => ∃ y z, topP W d = some y ∧ topP W e = some z ∧ SeqAt.shaped y = true ∧ SeqAt.shaped z = true ∧ O (.bl (!PyData.eqv y z)) W
theorem op2_eq (K : PySem.W.Frag) : Op2 K (rEqD K) EqD := fun x y d e H W O Q rx ry o q ⟨y1, z1, h1, h2, h3, h4, h⟩ =>
  ⟨y1, z1, topP_dp o h1 rx, topP_dp o h2 ry, h3, h4, q _ H _ W (Kp.refl H) o (.bl _) h⟩
theorem op2_ne (K : PySem.W.Frag) : Op2 K (rNeD K) NeD := fun x y d e H W O Q rx ry o q ⟨y1, z1, h1, h2, h3, h4, h⟩ =>
  ⟨y1, z1, topP_dp o h1 rx, topP_dp o h2 ry, h3, h4, q _ H _ W (Kp.refl H) o (.bl _) h⟩
theorem xe_eq (hu : X.A.units + 64 < cLine) (h : XE X E XC a g W fun d W1 => XE X E XC b g W1 fun e W2 => EqD d e W2 O) : XE X E XC (.Compare a [.Eq] [b] pos) g W O :=
  xe_of (pe_cmpR (op_eqD hu) pe_W pe_W (nomark _)) (ex_op (op2_eq X.K) h)
theorem xe_ne (hu : X.A.units + 64 < cLine) (h : XE X E XC a g W fun d W1 => XE X E XC b g W1 fun e W2 => NeD d e W2 O) : XE X E XC (.Compare a [.NotEq] [b] pos) g W O :=
  xe_of (pe_cmpR (op_neD hu) pe_W pe_W (nomark _)) (ex_op (op2_ne X.K) h)
theorem xt_eq {O : Bool → Om → Prop} (hu : X.A.units + 64 < cLine) (h : XE X E XC a g W fun d W1 => XE X E XC b g W1 fun e W2 => EqD d e W2 (asB O)) : XT X E XC (.Compare a [.Eq] [b] pos) g W O :=
  xt_of (pt_cmpR (op_eqD hu) pe_W pe_W (nomark _)) (exT_test (ex_op (op2_eq X.K) h))
theorem xt_ne {O : Bool → Om → Prop} (hu : X.A.units + 64 < cLine) (h : XE X E XC a g W fun d W1 => XE X E XC b g W1 fun e W2 => NeD d e W2 (asB O)) : XT X E XC (.Compare a [.NotEq] [b] pos) g W O :=
  xt_of (pt_cmpR (op_neD hu) pe_W pe_W (nomark _)) (exT_test (ex_op (op2_ne X.K) h))
/-! ### is None -/
def isNon : D → Bool
  | .non => true
  | _ => false
theorem rp_non {K : PySem.W.Frag} {H : Hp} {v : V} {d : D} (r : Rp K H v d) : decide (v = .non) = isNon d := by cases r <;> rfl
theorem op2_isN {K : PySem.W.Frag} : Op2 K (fun x y H Q => y = .non ∧ Q (.bl (decide (x = .non))) H) (fun d e W O => e = .non ∧ O (.bl (isNon d)) W) := by
  intro x y d e H W O Q rx ry o q ⟨e1, h⟩
  subst e1
  cases ry
  exact ⟨rfl, q _ H _ W (Kp.refl H) o (.bl _) (by rw [rp_non rx]; exact h)⟩
theorem op2_notN {K : PySem.W.Frag} : Op2 K (fun x y H Q => y = .non ∧ Q (.bl (!decide (x = .non))) H) (fun d e W O => e = .non ∧ O (.bl (!isNon d)) W) := by
  intro x y d e H W O Q rx ry o q ⟨e1, h⟩
  subst e1
  cases ry
  exact ⟨rfl, q _ H _ W (Kp.refl H) o (.bl _) (by rw [rp_non rx]; exact h)⟩
theorem xe_isN (h : XE X E XC a g W fun d W1 => XE X E XC b g W1 fun e W2 => e = .non ∧ O (.bl (isNon d)) W2) : XE X E XC (.Compare a [.Is] [b] pos) g W O :=
  xe_of (pe_cmpR op_isN pe_W pe_W (nomark _)) (ex_op op2_isN h)
theorem xe_notN (h : XE X E XC a g W fun d W1 => XE X E XC b g W1 fun e W2 => e = .non ∧ O (.bl (!isNon d)) W2) : XE X E XC (.Compare a [.IsNot] [b] pos) g W O :=
  xe_of (pe_cmpR op_notN pe_W pe_W (nomark _)) (ex_op op2_notN h)
theorem xt_isN {O : Bool → Om → Prop} (h : XE X E XC a g W fun d W1 => XE X E XC b g W1 fun e W2 => e = .non ∧ O (isNon d) W2) : XT X E XC (.Compare a [.Is] [b] pos) g W O := by
  refine xt_of (pt_cmpR op_isN pe_W pe_W (nomark _)) (exT_test (ex_op op2_isN ?_))
  intro σ H r k el Q q
  refine h σ H r k el _ fun x H1 d W1 k1 o1 r1 h1 => q x H1 d W1 k1 o1 r1 fun σ2 H2 r2 k2 el2 Q2 q2 => h1 σ2 H2 r2 k2 el2 _ fun y H3 e W3 k3 o3 r3 h3 => q2 y H3 e W3 k3 o3 r3 ⟨h3.1, _, rfl, h3.2⟩
theorem xt_notN {O : Bool → Om → Prop} (h : XE X E XC a g W fun d W1 => XE X E XC b g W1 fun e W2 => e = .non ∧ O (!isNon d) W2) : XT X E XC (.Compare a [.IsNot] [b] pos) g W O := by
  refine xt_of (pt_cmpR op_notN pe_W pe_W (nomark _)) (exT_test (ex_op op2_notN ?_))
  intro σ H r k el Q q
  refine h σ H r k el _ fun x H1 d W1 k1 o1 r1 h1 => q x H1 d W1 k1 o1 r1 fun σ2 H2 r2 k2 el2 Q2 q2 => h1 σ2 H2 r2 k2 el2 _ fun y H3 e W3 k3 o3 r3 h3 => q2 y H3 e W3 k3 o3 r3 ⟨h3.1, _, rfl, h3.2⟩
/-! ### and, or, not, if -/
theorem xe_one {op} (h : XE X E XC a g W O) : XE X E XC (.BoolOp op [a] pos) g W O := xe_of (pe_one pe_W) h
variable {rest : List Expr}
theorem xe_and (h : XE X E XC a g W fun d W1 => ∃ k, d = .bl k ∧ (k = true → XE X E XC (.BoolOp .And (b :: rest) pos) g W1 O) ∧ (k = false → O (.bl false) W1)) : XE X E XC (.BoolOp .And (a :: b :: rest) pos) g W O := by
  refine xe_of (pe_and pe_W pe_W) fun σ H r k el Q q => ?_
  refine h σ H r k el _ fun x H1 d W1 k1 o1 r1 ⟨c, e, h1, h2⟩ => ?_
  subst e
  cases r1
  refine ⟨c, rfl, ?_⟩
  cases c with
  | true => rw [if_pos rfl]; exact h1 rfl σ H1 (r.kp k1) o1 (el.kp k1) Q (q.kp k1)
  | false => rw [if_neg Bool.false_ne_true]; exact q _ H1 _ W1 k1 o1 (.bl _) (h2 rfl)
theorem xe_or (h : XE X E XC a g W fun d W1 => ∃ k, d = .bl k ∧ (k = false → XE X E XC (.BoolOp .Or (b :: rest) pos) g W1 O) ∧ (k = true → O (.bl true) W1)) : XE X E XC (.BoolOp .Or (a :: b :: rest) pos) g W O := by
  refine xe_of (pe_or pe_W pe_W) fun σ H r k el Q q => ?_
  refine h σ H r k el _ fun x H1 d W1 k1 o1 r1 ⟨c, e, h1, h2⟩ => ?_
  subst e
  cases r1
  refine ⟨c, rfl, ?_⟩
  cases c with
  | false => rw [if_neg Bool.false_ne_true]; exact h1 rfl σ H1 (r.kp k1) o1 (el.kp k1) Q (q.kp k1)
  | true => rw [if_pos rfl]; exact q _ H1 _ W1 k1 o1 (.bl _) (h2 rfl)
theorem xe_not (h : XE X E XC a g W fun d W1 => ∃ k, d = .bl k ∧ O (.bl (!k)) W1) : XE X E XC (.UnaryOp .Not a pos) g W O := by
  refine xe_of (pe_not pe_W) fun σ H r k el Q q => ?_
  refine h σ H r k el _ fun x H1 d W1 k1 o1 r1 ⟨c, e, h1⟩ => ?_
  subst e
  cases r1
  exact ⟨c, rfl, q _ H1 _ W1 k1 o1 (.bl _) h1⟩
theorem xt_val {O : Bool → Om → Prop} (h : XE X E XC a g W (asB O)) (he : ∀ whole, isTrue a X.env whole = (do let v ← whole; standAt a.pos; holding [v] (truthy v)) := by intro _; rfl) : XT X E XC a g W O := by
  refine xt_of (pt_val pe_W he) fun σ H r k el Q q => ?_
  refine h σ H r k el _ fun x H1 d W1 k1 o1 r1 ⟨c, e, h1⟩ => ?_
  subst e
  cases r1
  exact ⟨c, rfl, q c H1 W1 k1 o1 h1⟩
theorem xt_w {O : Bool → Om → Prop} (h : XW X E XC a g W O) : XT X E XC a g W O := xt_of (PW.pt pw_W) h
theorem xw_and1 {O : Bool → Om → Prop} (h : XT X E XC a g W O) : XW X E XC (.BoolOp .And [a] pos) g W O := xw_of (pw_and1 pt_W) h
theorem xw_or1 {O : Bool → Om → Prop} (h : XT X E XC a g W O) : XW X E XC (.BoolOp .Or [a] pos) g W O := xw_of (pw_or1 pt_W) h
theorem xw_and {O : Bool → Om → Prop} (h : XT X E XC a g W fun k W1 => (k = true → XW X E XC (.BoolOp .And (b :: rest) pos) g W1 O) ∧ (k = false → O false W1)) : XW X E XC (.BoolOp .And (a :: b :: rest) pos) g W O := by
  refine xw_of (pw_and pt_W pw_W) fun σ H r k el Q q => ?_
  refine h σ H r k el _ fun c H1 W1 k1 o1 ⟨h1, h2⟩ => ?_
  cases c with
  | true => rw [if_pos rfl]; exact h1 rfl σ H1 (r.kp k1) o1 (el.kp k1) Q fun b' H2 W2 k2 => q b' H2 W2 (k1.trans k2)
  | false => rw [if_neg Bool.false_ne_true]; exact q _ H1 W1 k1 o1 (h2 rfl)
theorem xw_or {O : Bool → Om → Prop} (h : XT X E XC a g W fun k W1 => (k = false → XW X E XC (.BoolOp .Or (b :: rest) pos) g W1 O) ∧ (k = true → O true W1)) : XW X E XC (.BoolOp .Or (a :: b :: rest) pos) g W O := by
  refine xw_of (pw_or pt_W pw_W) fun σ H r k el Q q => ?_
  refine h σ H r k el _ fun c H1 W1 k1 o1 ⟨h1, h2⟩ => ?_
  cases c with
  | false => rw [if_neg Bool.false_ne_true]; exact h1 rfl σ H1 (r.kp k1) o1 (el.kp k1) Q fun b' H2 W2 k2 => q b' H2 W2 (k1.trans k2)
  | true => rw [if_pos rfl]; exact q _ H1 W1 k1 o1 (h2 rfl)
theorem xt_not {O : Bool → Om → Prop} (h : XT X E XC a g W fun k W1 => O (!k) W1) : XT X E XC (.UnaryOp .Not a pos) g W O := by
  refine xt_of (pt_not pt_W) fun σ H r k el Q q => ?_
  exact h σ H r k el _ fun c H1 W1 k1 o1 h1 => q _ H1 W1 k1 o1 h1
theorem xe_if (h : XT X E XC c g W fun k W1 => (k = true → XE X E XC a g W1 O) ∧ (k = false → XE X E XC b g W1 O)) : XE X E XC (.IfExp c a b pos) g W O := by
  refine xe_of (pe_ifExp pt_W pe_W pe_W) fun σ H r k el Q q => ?_
  refine h σ H r k el _ fun c H1 W1 k1 o1 ⟨h1, h2⟩ => ?_
  cases c with
  | true => rw [if_pos rfl]; exact h1 rfl σ H1 (r.kp k1) o1 (el.kp k1) Q (q.kp k1)
  | false => rw [if_neg Bool.false_ne_true]; exact h2 rfl σ H1 (r.kp k1) o1 (el.kp k1) Q (q.kp k1)
end
end SR
namespace SR
open PySem PySem.Spec PyProof.Rows L2
section
variable {X : Cx} {E : XK} {XC : XCt} {g : Ga} {W : Om} {a b c : Expr} {pos : Pos} {O : OD}
/-! ### subscripts -/
theorem ixN_map {α β : Type} (xs : List α) (ys : List β) (h : xs.length = ys.length) (i : Int) : ixN xs.length i = ixN ys.length i := by rw [h]
theorem atI_rp {K : PySem.W.Frag} {H : Hp} {vs : List V} {ds : List D} {i : Int} {d : D} (r : RpAll K H vs ds) (h : atI ds i = some d) : ∃ v, atI vs i = some v ∧ Rp K H v d := by
  unfold atI at h ⊢
  rw [r.length]
  cases q : ixN ds.length i with
  | none => rw [q] at h; cases h
  | some j =>
    rw [q] at h
    obtain ⟨v, h1, h2⟩ := r.get (i := j) (d := d) h
    exact ⟨v, h1, h2⟩
def IxD : R2D := fun d e W O => match d, e with
  | .tup xs, .int i => ∃ v, atI xs i = some v ∧ O v W
  | .p l, .int i => ∃ xs v, W l = some (.lst xs) ∧ atI xs i = some v ∧ O v W
  | .scr _ ns, .int i => ∃ n, atI ns i = some n ∧ O (.int n) W
  | _, _ => False
theorem atI_map {ns : List Int} {i n : Int} (h : atI ns i = some n) : atI (ns.map V.int) i = some (V.int n) := by
  unfold atI at h ⊢
  rw [List.length_map]
  cases q : ixN ns.length i with
  | none => rw [q] at h; cases h
  | some j =>
    rw [q] at h
    show (ns.map V.int)[j]? = some (V.int n)
    rw [List.getElem?_map, show ns[j]? = some n from h]
    rfl
theorem op2_ix (K : PySem.W.Frag) : Op2 K (rIx K) IxD := by
  intro x y d e H W O Q rx ry o q h
  cases rx with
  | @tup l xs ds hl hx =>
    cases ry with
    | int i =>
      obtain ⟨d, h1, h⟩ := h
      obtain ⟨v, h2, r⟩ := atI_rp hx h1
      exact .inr (.inl ⟨l, xs, i, v, rfl, rfl, .of hl, h2, q v H d W (Kp.refl H) o r h⟩)
    | _ => exact False.elim h
  | p l =>
    cases ry with
    | int i =>
      obtain ⟨ds, d, h0, h1, h⟩ := h
      obtain ⟨xs, h3, hx⟩ := o l _ h0
      obtain ⟨v, h2, r⟩ := atI_rp hx h1
      exact .inl ⟨l, xs, i, v, rfl, rfl, .of h3, h2, q v H d W (Kp.refl H) o r h⟩
    | _ => exact False.elim h
  | @scr l ns hl =>
    cases ry with
    | int i =>
      obtain ⟨n, h1, h⟩ := h
      exact .inl ⟨l, _, i, .int n, rfl, rfl, hl.sq, atI_map h1, q _ H _ W (Kp.refl H) o (.int n) h⟩
    | _ => exact False.elim h
  | _ => exact False.elim (by cases ry <;> exact h)
theorem xe_ix (h : XE X E XC a g W fun d W1 => XE X E XC b g W1 fun e W2 => IxD d e W2 O) (hs : PlainIx b := by intro _ _; rfl) : XE X E XC (.Subscript a b pos) g W O :=
  xe_of (pe_ix ix_seq pe_W pe_W hs) (ex_op (op2_ix X.K) h)

/-! ### slices -/
def cutA {α : Type} (xs : List α) (lo hi : Option Int) : List α := (xs.drop (HT.sIx xs.length 0 lo)).take (HT.sIx xs.length xs.length hi - HT.sIx xs.length 0 lo)
theorem cutA_whole {α : Type} {xs : List α} {lo hi : Option Int} (h1 : HT.sIx xs.length 0 lo = 0) (h2 : HT.sIx xs.length xs.length hi = xs.length) : cutA xs lo hi = xs := by
  unfold cutA
  rw [h1, h2, Nat.sub_zero, List.drop_zero, List.take_length]
theorem cut_rp {K : PySem.W.Frag} {H : Hp} {vs : List V} {ds : List D} {lo hi : Option Int} (r : RpAll K H vs ds) : RpAll K H (cutV vs lo hi) (cutA ds lo hi) := by
  unfold cutV cutA
  rw [r.length]
  exact (r.drop _).take _
/-- a part of a slice -/
def XO (X : Cx) (E : XK) (XC : XCt) (e : Option Expr) (g : Ga) (W : Om) (O : Option Int → Om → Prop) : Prop := match e with
  | none => O none W
  | some e => XE X E XC e g W fun d W1 => ∃ i, d = .int i ∧ O (some i) W1
def SlD (d : D) (lo hi : Option Int) (W : Om) (O : OD) : Prop := match d with
  | .tup xs => O (.tup (cutA xs lo hi)) W
  | .str x => x.length ≤ sizeLine ∧ O (.str (cutS x lo hi)) W
  | .p l => ∃ xs, W l = some (.lst xs) ∧ ∀ p, W p = none → O (.p p) (updO W p (.lst (cutA xs lo hi)))
  | _ => False
theorem slD_ok (K : PySem.W.Frag) {x : V} {d : D} {lo hi : Option Int} {H : Hp} {W : Om} {Q : VK} (rx : Rp K H x d) (o : HpOk K H W) (q : QL K H O Q) (h : SlD d lo hi W O) :
    (rSlA K x lo hi H Q ∨ (∃ z, x = .str z ∧ z.length ≤ sizeLine ∧ Q (.str (cutS z lo hi)) H)) ∨ rSlL K x lo hi H Q := by
  cases rx with
  | @tup l xs ds hl hx =>
    refine .inl (.inl ⟨l, xs, rfl, .of hl, fun hw => ?_, fun hw p hp => ?_⟩)
    · rw [hx.length] at hw
      have h' : O (.tup (cutA ds lo hi)) W := h
      rw [cutA_whole hw.1 hw.2] at h'
      exact q _ H _ W (Kp.refl H) o (.tup hl hx) h'
    · exact q _ _ _ W (Kp.new hp) (o.more hp) (.tup upd_same ((cut_rp hx).kp (Kp.new hp))) h
  | str z => exact .inl (.inr ⟨z, rfl, h.1, q _ H _ W (Kp.refl H) o (.str _) h.2⟩)
  | p l =>
    obtain ⟨ds, h0, h⟩ := h
    obtain ⟨xs, h3, hx⟩ := o l _ h0
    refine .inr ⟨l, xs, rfl, .of h3, fun p hp => ?_⟩
    exact q _ _ _ _ (Kp.new hp) (o.new (o := .lst (cutA ds lo hi)) hp ⟨_, upd_same, (cut_rp hx).kp (Kp.new hp)⟩) (.p p) (h p (o.free hp))
  | _ => exact False.elim h
theorem sl_any : SlR X (fun x lo hi H Q => (rSlA X.K x lo hi H Q ∨ (∃ z, x = .str z ∧ z.length ≤ sizeLine ∧ Q (.str (cutS z lo hi)) H)) ∨ rSlL X.K x lo hi H Q) := (sl_tupA.or sl_str).or sl_list
/-- the weakest reading of a slice's part -/
def toW (X : Cx) (e : Option Expr) : TO := fun σ H Q => ∀ t : TO, True → (match e with | none => Q none H | some e => tW X e σ H fun x H1 => ∃ i, x = .int i ∧ Q (some i) H1)
theorem po_W {e : Option Expr} : PO X e (toW X e) := by
  cases e with
  | none => exact ⟨fun pins s σ H Q I h => po_none.run pins s σ H Q I (h tNoPart trivial)⟩
  | some e => exact ⟨fun pins s σ H Q I h => (po_some pe_W).run pins s σ H Q I (h tNoPart trivial)⟩
theorem xo_run {e : Option Expr} {O : Option Int → Om → Prop} (h : XO X E XC e g W O) : ∀ (σ : St) (H : Hp), RpS X.K H σ g → HpOk X.K H W → EL X.K H E XC → ∀ Q : Option Int → Hp → Prop, (∀ o H' W', Kp H H' → HpOk X.K H' W' → O o W' → Q o H') → toW X e σ H Q := by
  intro σ H r k el Q q t _
  cases e with
  | none => exact q none H W (Kp.refl H) k h
  | some e =>
    refine h σ H r k el _ fun x H1 d W1 k1 o1 r1 ⟨i, e, h1⟩ => ?_
    subst e
    cases r1
    exact ⟨i, rfl, q _ H1 W1 k1 o1 h1⟩
theorem xe_slice {lo hi : Option Expr} {p2 : Pos} (h : XE X E XC a g W fun d W1 => XO X E XC lo g W1 fun l W2 => XO X E XC hi g W2 fun u W3 => SlD d l u W3 O) : XE X E XC (.Subscript a (.Slice lo hi none p2) pos) g W O := by
  refine xe_of (pe_slice sl_any pe_W po_W po_W) fun σ H r k el Q q => ?_
  refine h σ H r k el _ fun x H1 d W1 k1 o1 r1 h1 => ?_
  refine xo_run h1 σ H1 (r.kp k1) o1 (el.kp k1) _ fun l H2 W2 k2 o2 h2 => ?_
  refine xo_run h2 σ H2 ((r.kp k1).kp k2) o2 ((el.kp k1).kp k2) _ fun u H3 W3 k3 o3 h3 => ?_
  exact slD_ok X.K ((r1.kp k2).kp k3) o3 (q.kp ((k1.trans k2).trans k3)) h3

/-! ### targets -/
def tgW (X : Cx) (tg : Expr) : TG := fun v σ H Q => ∀ (pins : List (Addr × Obj)) (s : Shared) (u : Value), Inv X pins σ H s → RelV v u → wpAny (model X.prog X.w) X.A (assign tg X.env u) (fun _ s' => ∃ σ' H', Inv X pins σ' H' s' ∧ Q σ' H') X.xe s
theorem pg_W {tg : Expr} : PG X tg (tgW X tg) := ⟨fun pins s σ H v u Q I r h => h pins s u I r⟩
def tgsW (X : Cx) (ts : List Expr) : TGs := fun vs σ H Q => ∀ (pins : List (Addr × Obj)) (s : Shared) (us : List Value), Inv X pins σ H s → Vals vs us → wpAny (model X.prog X.w) X.A (assignInOrder ((assignEach ts X.env).map (·.2)) us) (fun _ s' => ∃ σ' H', Inv X pins σ' H' s' ∧ Q σ' H') X.xe s
theorem pgs_W {ts : List Expr} : PGs X ts (tgsW X ts) := ⟨fun pins s σ H v u Q I r h => h pins s u I r⟩
def XG (X : Cx) (tg : Expr) (d : D) (g : Ga) (W : Om) (O : Ga → Om → Prop) : Prop :=
  ∀ (v : V) (σ : St) (H : Hp), RpS X.K H σ g → HpOk X.K H W → Rp X.K H v d → ∀ Q : St → Hp → Prop, SL X.K H O Q → tgW X tg v σ H Q
def XGs (X : Cx) (ts : List Expr) (ds : List D) (g : Ga) (W : Om) (O : Ga → Om → Prop) : Prop :=
  ∀ (vs : List V) (σ : St) (H : Hp), RpS X.K H σ g → HpOk X.K H W → RpAll X.K H vs ds → ∀ Q : St → Hp → Prop, SL X.K H O Q → tgsW X ts vs σ H Q
theorem xg_name (i : Nat) {x : Str} {d : D} {O : Ga → Om → Prop} (hN : X.N.Nodup) (h : O (g.set i (some d)) W) (hi : X.N[i]? = some x := by rfl) (hx : Loc X.env.scope x := by first | exact .inl rfl | exact .inr rfl)
    (hf : X.fn x = true ∨ X.env.scope.names.lookup x = some .local := by first | exact .inl rfl | exact .inr rfl) : XG X (.Name x pos) d g W O := by
  intro v σ H r k rv Q q pins s u I ru
  exact (pg_name (i := i) hN hi hx hf).run pins s σ H v u Q I ru (q _ H _ W (Kp.refl H) k (r.set i rv) h)
theorem xgs_nil {O : Ga → Om → Prop} (h : O g W) : XGs X [] [] g W O := by
  intro vs σ H r k rv Q q pins s us I ru
  cases rv
  exact pgs_nil.run pins s σ H [] us Q I ru ⟨rfl, q _ H _ W (Kp.refl H) k r h⟩
theorem xgs_cons {e : Expr} {es : List Expr} {d : D} {ds : List D} {O : Ga → Om → Prop} (h : XG X e d g W fun g1 W1 => XGs X es ds g1 W1 O)
    (hs : (assignEach (e :: es) X.env).map (·.2) = assign e X.env :: (assignEach es X.env).map (·.2) := by rfl) : XGs X (e :: es) (d :: ds) g W O := by
  intro vs σ H r k rv Q q pins s us I ru
  cases rv with
  | @cons v vs _ _ r1 r2 =>
    refine (pgs_cons pg_W pgs_W hs).run pins s σ H _ us Q I ru ⟨v, vs, rfl, ?_⟩
    refine h v σ H r k r1 _ fun σ1 H1 g1 W1 k1 o1 rs h1 => ?_
    exact h1 vs σ1 H1 rs o1 (r2.kp k1) Q (q.kp k1)
theorem xg_tup {es : List Expr} {k : Nat} {ds : List D} {n : Nat} {O : Ga → Om → Prop} (hl : ds.length = n) (h : XGs X es ds g W O) (hc : X.calm = true := by rfl)
    (hn : (assignEach es X.env).length = n := by rfl) (hst : (assignEach es X.env).findIdx? (·.1) = none := by rfl) : XG X (.Tuple es k pos) (.tup ds) g W O := by
  intro v σ H r k rv Q q pins s u I ru
  cases rv with
  | @tup l xs _ hx rx =>
    exact (pg_tup hc pgs_W hn hst).run pins s σ H _ u Q I ru ⟨l, xs, rfl, .of hx, by rw [rx.length]; exact hl, h xs σ H r k rx Q q⟩

/-! ### blocks, small statements -/
variable {C : EndD}
theorem xb_nil (h : C.nx g W) : XB X E XC [] g W C := xb_of pss_nil fun D σ H r k el l => l.nx σ H g W (Kp.refl H) k r h
theorem xb_cons {st : Stmt} {rest : List Stmt} (h : XS X E XC st g W { C with nx := fun g1 W1 => XB X E XC rest g1 W1 C }) : XB X E XC (st :: rest) g W C := by
  refine xb_of (pss_cons ps_W pss_W) fun D σ H r k el l => ?_
  refine h { D with nx := tssW X rest D } σ H r k el ⟨fun σ1 H1 g1 W1 k1 o1 r1 h1 => ?_, l.rt, l.bk, l.ct⟩
  exact h1 D σ1 H1 r1 o1 (el.kp k1) (l.kp k1)
theorem xb_one {st : Stmt} (h : XS X E XC st g W C) : XB X E XC [st] g W C := xb_of (pss_one ps_W) h
/-- behind here nothing is raised -/
theorem xb_nox {st : List Stmt} {E' : XK} (h : XB X.nox E' XC0 st g W C) : XB X E XC st g W C := by
  refine xb_of (PSs.nox pss_W) fun D σ H r k el l => ?_
  exact h D σ H r k el0 l
theorem xs_weak {st : Stmt} {g' : Ga} (l : Less g' g) (h : XS X E XC st g' W C) : XS X E XC st g W C := fun D σ H r k el lk => h D σ H (r.weak l) k el lk
theorem xb_weak {st : List Stmt} {g' : Ga} (l : lessB g' g) (h : XB X E XC st g' W C) : XB X E XC st g W C := fun D σ H r k el lk => h D σ H (r.weak (less_of l)) k el lk
theorem xb_sub {st : List Stmt} {W' : Om} (l : Sub W' W) (h : XB X E XC st g W' C) : XB X E XC st g W C := fun D σ H r k el lk => h D σ H r (k.sub l) el lk
theorem xs_pass (h : C.nx g W) : XS X E XC (.Pass pos) g W C := xs_of ps_pass fun D σ H r k el l => l.nx σ H g W (Kp.refl H) k r h
theorem xs_expr {e : Expr} (h : XE X E XC e g W fun _ W1 => C.nx g W1) (hs : swapsWith e none pos.line X.env = pure false := by rfl) : XS X E XC (.Expr e pos) g W C := by
  refine xs_of (ps_expr pe_W hs) fun D σ H r k el l => ?_
  exact h σ H r k el _ fun x H1 d W1 k1 o1 r1 h1 => l.nx σ H1 g W1 k1 o1 (r.kp k1) h1
theorem xs_ret {e : Expr} (h : XE X E XC e g W C.rt) : XS X E XC (.Return (some e) pos) g W C := by
  refine xs_of (ps_ret pe_W) fun D σ H r k el l => ?_
  exact h σ H r k el _ l.rt
theorem xs_retN (h : C.rt .non W) : XS X E XC (.Return none pos) g W C := xs_of ps_retN fun D σ H r k el l => l.rt _ H _ W (Kp.refl H) k .non h
theorem xs_if {t u : List Stmt} (h : XT X E XC c g W fun k W1 => (k = true → XB X E XC t g W1 C) ∧ (k = false → XB X E XC u g W1 C)) : XS X E XC (.If c t u pos) g W C := by
  refine xs_of (ps_if pt_W pss_W pss_W) fun D σ H r k el l => ?_
  refine h σ H r k el _ fun c H1 W1 k1 o1 ⟨h1, h2⟩ => ?_
  cases c with
  | true => rw [if_pos rfl]; exact h1 rfl D σ H1 (r.kp k1) o1 (el.kp k1) (l.kp k1)
  | false => rw [if_neg Bool.false_ne_true]; exact h2 rfl D σ H1 (r.kp k1) o1 (el.kp k1) (l.kp k1)
theorem xs_set (i : Nat) {x : Str} {e : Expr} {pos' : Pos} (hN : X.N.Nodup) (h : XE X E XC e g W fun d W1 => C.nx (g.set i (some d)) W1) (hi : X.N[i]? = some x := by rfl) (hx : Loc X.env.scope x := by first | exact .inl rfl | exact .inr rfl)
    (hs : swapsWith e (some (.Name x pos')) pos.line X.env = pure false := by rfl) (hf : X.fn x = true ∨ X.env.scope.names.lookup x = some .local := by first | exact .inl rfl | exact .inr rfl) : XS X E XC (.Assign [.Name x pos'] e pos) g W C := by
  refine xs_of (ps_set (i := i) hN hi hx pe_W hs hf) fun D σ H r k el l => ?_
  exact h σ H r k el _ fun v H1 d W1 k1 o1 r1 h1 => l.nx _ H1 _ W1 k1 o1 ((r.kp k1).set i r1) h1
theorem xs_asg {tg e : Expr} (h : XE X E XC e g W fun d W1 => XG X tg d g W1 C.nx) (hs : swapsWithSole [tg] e pos.line X.env = pure false := by rfl) (hw : swappedStores [tg] e X.env = pure none := by rfl)
    (h1 : (assignEach [tg] X.env).map (·.2) = [assign tg X.env] := by rfl) : XS X E XC (.Assign [tg] e pos) g W C := by
  refine xs_of (ps_asg pe_W pg_W hs hw h1) fun D σ H r k el l => ?_
  exact h σ H r k el _ fun v H1 d W1 k1 o1 r1 h1 => h1 v σ H1 (r.kp k1) o1 r1 _ (l.nx.kp k1)
theorem xs_par (i j : Nat) {x y : Str} {px py pt : Pos} {kt k2 pt2} (hN : X.N.Nodup) (h : XA X E XC [a, b] g W fun ds W1 => ∃ d e, ds = [d, e] ∧ C.nx ((g.set i (some d)).set j (some e)) W1) (hi : X.N[i]? = some x := by rfl) (hj : X.N[j]? = some y := by rfl) (hij : i ≠ j := by decide)
    (hx : X.env.scope.names.lookup x = some .local := by rfl) (hy : X.env.scope.names.lookup y = some .local := by rfl) (hc : X.calm = true := by rfl)
    (hw : swappedStores [.Tuple [.Name x px, .Name y py] kt pt] (.Tuple [a, b] k2 pt2) X.env = pure (some [x, y]) := by rfl)
    (hs : swapsWithSole [.Tuple [.Name x px, .Name y py] kt pt] (.Tuple [a, b] k2 pt2) pos.line X.env = pure false := by rfl) : XS X E XC (.Assign [.Tuple [.Name x px, .Name y py] kt pt] (.Tuple [a, b] k2 pt2) pos) g W C := by
  refine xs_of (ps_par hc hN hi hj hij hx hy pa_W hw hs) fun D σ H r k el l => ?_
  refine h σ H r k el _ fun vs H1 ds W1 k1 o1 r1 ⟨d, e, ed, h1⟩ => ?_
  subst ed
  cases r1 with
  | @cons v vs _ _ ra rb =>
    cases rb with
    | @cons w ws _ _ rb rc =>
      cases rc
      exact ⟨v, w, rfl, l.nx _ H1 _ W1 k1 o1 (((r.kp k1).set i ra).set j rb) h1⟩
/-- x += e of ints -/
theorem xs_aug (i : Nat) {x : Str} {e : Expr} {pos' : Pos} {z : Int} (hN : X.N.Nodup) (hz : g[i]? = some (some (.int z))) (h : XE X E XC e g W fun d W1 => ∃ j, d = .int j ∧ C.nx (g.set i (some (.int (z + j)))) W1) (hi : X.N[i]? = some x := by rfl) (hx : Loc X.env.scope x := by first | exact .inl rfl | exact .inr rfl)
    (hf : X.fn x = true ∨ X.env.scope.names.lookup x = some .local := by first | exact .inl rfl | exact .inr rfl) : XS X E XC (.AugAssign (.Name x pos') .Add e pos) g W C := by
  refine xs_of (ps_aug (i := i) hN hi hx pe_W ip_add hf) fun D σ H r k el l => ?_
  obtain ⟨v, e1, rv⟩ := r.get i _ hz
  cases rv
  refine ⟨_, e1, h σ H r k el _ fun y H1 d W1 k1 o1 r1 ⟨j, ed, h1⟩ => ?_⟩
  subst ed
  cases r1
  exact ⟨z, j, rfl, rfl, l.nx _ H1 _ W1 k1 o1 ((r.kp k1).set i (.int _)) h1⟩
/-- what is never reached -/
theorem xb_never {st : List Stmt} (h : False) : XB X E XC st g W C := h.elim

/-! ### what is walked -/
def ItOk (K : PySem.W.Frag) (J : It) (B : Hp) (ds : List D) (ok : Om → Prop) : Prop := ∀ (i : Nat) (H : Hp) (W : Om), Kp B H → HpOk K H W → ok W →
  (i < ds.length → J.go i H ∧ ∀ x H', J.yld i H x H' → Kp H H' ∧ HpOk K H' W ∧ ∃ d, ds[i]? = some d ∧ Rp K H' x d) ∧ (ds.length ≤ i → J.stop i H)
def XI (X : Cx) (E : XK) (XC : XCt) (tg iter : Expr) (g : Ga) (W : Om) (O : List D → (Om → Prop) → Om → Prop) : Prop :=
  ∃ wi, PI X tg iter wi ∧ ∀ (σ : St) (H : Hp), RpS X.K H σ g → HpOk X.K H W → EL X.K H E XC → ∀ R : It → Hp → Prop, (∀ J H' ds ok W', Kp H H' → HpOk X.K H' W' → ItOk X.K J H' ds ok → O ds ok W' → R J H') → wi σ H R
/-- a tuple -/
theorem xi_tup {tg iter : Expr} {O : List D → (Om → Prop) → Om → Prop} (h : XE X E XC iter g W fun d W1 => ∃ ds, d = .tup ds ∧ O ds (fun _ => True) W1) : XI X E XC tg iter g W O := by
  refine ⟨_, pi_tup pe_W, fun σ H r k el R q => ?_⟩
  refine h σ H r k el _ fun v H1 d W1 k1 o1 r1 ⟨ds, e, h1⟩ => ?_
  subst e
  cases r1 with
  | @tup a xs _ hx rx =>
    refine ⟨a, rfl, ⟨xs, .of hx⟩, q _ H1 ds _ W1 k1 o1 (fun i H2 W2 k2 o2 _ => ⟨fun hi => ?_, fun hi => ?_⟩) h1⟩
    · have hx2 := k2.t _ _ hx
      have rx2 := rx.kp k2
      obtain ⟨v, e1, e2⟩ := rx2.get (List.getElem?_eq_getElem hi)
      refine ⟨⟨xs, v, .of hx2, e1⟩, fun x H' ⟨e3, h3⟩ => ?_⟩
      subst e3
      have e4 := h3 xs (.of hx2)
      rw [e1] at e4
      cases e4
      exact ⟨Kp.refl _, o2, _, List.getElem?_eq_getElem hi, e2⟩
    · exact ⟨xs, .of (k2.t _ _ hx), by rw [rx.length]; exact hi⟩
/-- a list that the turns leave as it is -/
theorem xi_lst {tg iter : Expr} {O : List D → (Om → Prop) → Om → Prop} (h : XE X E XC iter g W fun d W1 => ∃ l ds, d = .p l ∧ W1 l = some (.lst ds) ∧ O ds (fun W2 => W2 l = some (.lst ds)) W1) : XI X E XC tg iter g W O := by
  refine ⟨_, pi_list pe_W, fun σ H r k el R q => ?_⟩
  refine h σ H r k el _ fun v H1 d W1 k1 o1 r1 ⟨l, ds, e, hl, h1⟩ => ?_
  subst e
  cases r1
  obtain ⟨xs, hx, rx⟩ := o1 l _ hl
  refine ⟨l, rfl, ⟨xs, .of hx⟩, q _ H1 ds _ W1 k1 o1 (fun i H2 W2 k2 o2 hok => ?_) h1⟩
  obtain ⟨ys, hy, ry⟩ := o2 l _ hok
  refine ⟨fun hi => ?_, fun hi => ⟨ys, .of hy, by rw [ry.length]; exact hi⟩⟩
  obtain ⟨v, e1, e2⟩ := ry.get (List.getElem?_eq_getElem hi)
  refine ⟨⟨ys, v, .of hy, e1⟩, fun x H' ⟨e3, h3⟩ => ?_⟩
  subst e3
  have e4 := h3 ys (.of hy)
  rw [e1] at e4
  cases e4
  exact ⟨Kp.refl _, o2, _, List.getElem?_eq_getElem hi, e2⟩
/-- lo, lo + 1, .. -/
def rangeD (lo : Int) (n : Nat) : List D := (List.range n).map fun i => .int (lo + (i : Nat))
theorem rangeD_len (lo : Int) (n : Nat) : (rangeD lo n).length = n := by unfold rangeD; rw [List.length_map, List.length_range]
theorem rangeD_get {lo : Int} {n i : Nat} (h : i < n) : (rangeD lo n)[i]? = some (.int (lo + (i : Nat))) := by
  unfold rangeD
  rw [List.getElem?_map, List.getElem?_range h]
  rfl
theorem itOk_range {K : PySem.W.Frag} {B : Hp} {lo : Int} {n : Nat} : ItOk K (Itr lo n) B (rangeD lo n) (fun _ => True) := by
  intro i H W k o _
  rw [rangeD_len]
  refine ⟨fun hi => ⟨hi, fun x H' ⟨e1, e2⟩ => ?_⟩, fun hi => hi⟩
  subst e1 e2
  exact ⟨Kp.refl _, o, _, rangeD_get hi, .int _⟩
theorem xi_range1 {tg e : Expr} {p : Pos} {O : List D → (Om → Prop) → Om → Prop} (hm : X.mg "range" = none) (h : XE X E XC e g W fun d W1 => ∃ j : Int, d = .int j ∧ -(2 ^ 62) ≤ j ∧ j < 2 ^ 62 ∧ O (rangeD 0 j.toNat) (fun _ => True) W1)
    (hg : Gl X "range" := by rfl) (hs : starEach [e] X.env = [(false, eval e X.env)] := by rfl) : XI X E XC tg (.Call (.Name "range" p) [e] [] pos) g W O := by
  refine ⟨_, pi_range1 hg hm pa_W hs, fun σ H r k el R q => ?_⟩
  refine xa_cons (O := fun ds W1 => ∃ j : Int, ds = [.int j] ∧ -(2 ^ 62) ≤ j ∧ j < 2 ^ 62 ∧ O (rangeD 0 j.toNat) (fun _ => True) W1) (fun σ H r k el Q q => h σ H r k el Q fun v H1 d W1 k1 o1 r1 ⟨j, e, h1⟩ => q v H1 d W1 k1 o1 r1 (xa_nil ⟨j, by rw [e], h1⟩)) hs σ H r k el _ fun vs H1 ds W1 k1 o1 r1 ⟨j, e, h1, h2, h3⟩ => ?_
  subst e
  cases r1 with
  | cons ra rb =>
    cases ra
    cases rb
    exact ⟨j, rfl, h1, h2, q _ H1 _ _ W1 k1 o1 itOk_range h3⟩
theorem xi_range2 {tg e f : Expr} {p : Pos} {O : List D → (Om → Prop) → Om → Prop} (hm : X.mg "range" = none) (h : XE X E XC e g W fun d W1 => XE X E XC f g W1 fun d2 W2 => ∃ i j : Int, d = .int i ∧ d2 = .int j ∧ (-(2 ^ 62) ≤ i ∧ i < 2 ^ 62 ∧ -(2 ^ 62) ≤ j ∧ j < 2 ^ 62) ∧ O (rangeD i (j - i).toNat) (fun _ => True) W2)
    (hg : Gl X "range" := by rfl) (hs : starEach [e, f] X.env = [(false, eval e X.env), (false, eval f X.env)] := by rfl) (hs2 : starEach [f] X.env = [(false, eval f X.env)] := by rfl) : XI X E XC tg (.Call (.Name "range" p) [e, f] [] pos) g W O := by
  refine ⟨_, pi_range2 hg hm pa_W hs hs2, fun σ H r k el R q => ?_⟩
  refine xa_cons (O := fun ds W1 => ∃ i j : Int, ds = [.int i, .int j] ∧ (-(2 ^ 62) ≤ i ∧ i < 2 ^ 62 ∧ -(2 ^ 62) ≤ j ∧ j < 2 ^ 62) ∧ O (rangeD i (j - i).toNat) (fun _ => True) W1) (fun σ H r k el Q q => h σ H r k el Q fun v H1 d W1 k1 o1 r1 h1 => q v H1 d W1 k1 o1 r1
    (xa_cons (fun σ2 H2 r2 k2 el2 Q2 q2 => h1 σ2 H2 r2 k2 el2 Q2 fun v2 H3 d2 W3 k3 o3 r3 ⟨i, j, e1, e2, h3⟩ => q2 v2 H3 d2 W3 k3 o3 r3 (xa_nil ⟨i, j, by rw [e1, e2], h3⟩)) hs2)) (by rw [hs, hs2]) σ H r k el _ fun vs H1 ds W1 k1 o1 r1 ⟨i, j, e, h1, h3⟩ => ?_
  subst e
  cases r1 with
  | cons ra rb =>
    cases ra
    cases rb with
    | cons rb rc =>
      cases rb
      cases rc
      exact ⟨i, j, rfl, h1, q _ H1 _ _ W1 k1 o1 itOk_range h3⟩

/-! ### for, while -/
theorem xs_for {tg iter : Expr} {body : List Stmt} (I : Nat → Ga → Om → Prop)
    (h : XI X E XC tg iter g W fun ds ok W1 => I 0 g W1 ∧ (∀ i g' W', I i g' W' → ok W') ∧
      (∀ i d g' W', ds[i]? = some d → I i g' W' → XG X tg d g' W' fun g2 W2 => XB X E XC body g2 W2 { C with nx := I (i + 1), ct := I (i + 1), bk := C.nx }) ∧ (∀ g' W', I ds.length g' W' → C.nx g' W'))
    (hp : PassesOwn (model X.prog X.w) X.A X.env X.xe := by exact PassesOwn.never) (hc : X.calm = true := by rfl) (hs : ∀ x, foldedSetIterable iter X.env x = pure x := by intro _; rfl) : XS X E XC (.For tg iter body [] pos) g W C := by
  obtain ⟨wi, hi, hw⟩ := h
  refine xs_of (ps_for hp hc hi pg_W pss_W hs) fun D σ H r k el l => ?_
  refine hw σ H r k el _ fun J H1 ds ok W1 k1 o1 it ⟨h0, hok, hturn, hend⟩ => ?_
  refine ⟨fun i m σ H => m = ds.length - i ∧ i ≤ ds.length ∧ ∃ g' W', Kp H1 H ∧ HpOk X.K H W' ∧ RpS X.K H σ g' ∧ I i g' W', ⟨ds.length, rfl, Nat.zero_le _, g, W1, Kp.refl _, o1, r.kp k1, h0⟩, ?_⟩
  rintro i m σ2 H2 ⟨rfl, hil, g', W', k2, o2, r2, hI⟩
  obtain ⟨hgo, hst⟩ := it i H2 W' k2 o2 (hok i g' W' hI)
  by_cases hlt : i < ds.length
  · obtain ⟨go, hy⟩ := hgo hlt
    refine .inr ⟨go, fun σ3 H3 => ∃ g3 W3, Kp H1 H3 ∧ HpOk X.K H3 W3 ∧ RpS X.K H3 σ3 g3 ∧ I (i + 1) g3 W3, fun σ3 H3 h3 => ⟨ds.length - (i + 1), by omega, rfl, hlt, h3⟩, fun x H' y => ?_⟩
    obtain ⟨k3, o3, d, hd, rx⟩ := hy x H' y
    refine hturn i d g' W' hd hI x σ2 H' (r2.kp k3) o3 rx _ fun σ4 H4 g4 W4 k4 o4 r4 h4 => ?_
    have kk : Kp H H4 := ((k1.trans k2).trans k3).trans k4
    refine h4 _ σ4 H4 r4 o4 (el.kp kk) ⟨fun σ5 H5 g5 W5 k5 o5 r5 h5 => ⟨g5, W5, ((k2.trans k3).trans k4).trans k5, o5, r5, h5⟩, l.rt.kp kk, l.nx.kp kk, fun σ5 H5 g5 W5 k5 o5 r5 h5 => ⟨g5, W5, ((k2.trans k3).trans k4).trans k5, o5, r5, h5⟩⟩
  · have e : i = ds.length := by omega
    subst e
    exact .inl ⟨hst (Nat.le_refl _), l.nx σ2 H2 g' W' (k1.trans k2) o2 r2 (hend g' W' hI)⟩
theorem xs_while {body : List Stmt} (I : Nat → Ga → Om → Prop) (m0 : Nat) (h0 : I m0 g W)
    (h : ∀ m g' W', I m g' W' → XT X E XC c g' W' fun k W1 => (k = true → XB X E XC body g' W1 { C with nx := fun g2 W2 => ∃ m', m' < m ∧ I m' g2 W2, ct := fun g2 W2 => ∃ m', m' < m ∧ I m' g2 W2, bk := C.nx }) ∧ (k = false → C.nx g' W1))
    (hp : PassesOwn (model X.prog X.w) X.A X.env X.xe := by exact PassesOwn.never) : XS X E XC (.While c body [] pos) g W C := by
  refine xs_of (ps_while hp pt_W pss_W) fun D σ H r k el l => ?_
  refine ⟨fun m σ2 H2 => ∃ g' W', Kp H H2 ∧ HpOk X.K H2 W' ∧ RpS X.K H2 σ2 g' ∧ I m g' W', ⟨m0, g, W, Kp.refl _, k, r, h0⟩, ?_⟩
  rintro m σ2 H2 ⟨g', W', k2, o2, r2, hI⟩
  refine h m g' W' hI σ2 H2 r2 o2 (el.kp k2) _ fun b H3 W3 k3 o3 ⟨h1, h2⟩ => ?_
  cases b with
  | false => rw [if_neg Bool.false_ne_true]; exact l.nx σ2 H3 g' W3 (k2.trans k3) o3 (r2.kp k3) (h2 rfl)
  | true =>
    rw [if_pos rfl]
    refine ⟨fun σ4 H4 => ∃ m', m' < m ∧ ∃ g4 W4, Kp H H4 ∧ HpOk X.K H4 W4 ∧ RpS X.K H4 σ4 g4 ∧ I m' g4 W4, fun σ4 H4 h4 => h4, ?_⟩
    have kk := k2.trans k3
    refine h1 rfl _ σ2 H3 (r2.kp k3) o3 (el.kp kk) ⟨?_, l.rt.kp kk, l.nx.kp kk, ?_⟩
    · rintro σ5 H5 g5 W5 k5 o5 r5 ⟨m', hm, h5⟩
      exact ⟨m', hm, g5, W5, kk.trans k5, o5, r5, h5⟩
    · rintro σ5 H5 g5 W5 k5 o5 r5 ⟨m', hm, h5⟩
      exact ⟨m', hm, g5, W5, kk.trans k5, o5, r5, h5⟩
end
end SR
namespace SR
open PySem PySem.Spec PyProof.Rows L2
/-! ### a def's promise over data -/
abbrev SpT := List D → Om → OD → XCt → Prop
def SpD (K : PySem.W.Frag) (S : SpT) : Sp := fun vs H Q E => ∃ (ds : List D) (W : Om) (O : OD) (XC : XCt), RpAll K H vs ds ∧ HpOk K H W ∧ EL K H E XC ∧ QL K H O Q ∧ S ds W O XC
/-- what a caller wants of a def -/
structure Cal (P : Program) (w : World) (K : PySem.W.Frag) (mg : Str → Option Value) (base : Heap) (k : Nat) (x : Str) (ps : List Str) (S : SpT) : Prop where
  ex : ∃ f fd, FnOk P w K mg base (L2.CX P w) k f fd ps (SpD K S) ∧ mg x = some (.ref f) ∧ PySem.W.keepIn K (.ref f) = true ∧ Binds K fd ps []
theorem Cal.mono {P : Program} {w : World} {K : PySem.W.Frag} {mg : Str → Option Value} {base : Heap} {j k : Nat} {x : Str} {ps : List Str} {S : SpT} (c : Cal P w K mg base j x ps S) (h : j ≤ k) : Cal P w K mg base k x ps S := by
  obtain ⟨f, fd, h1, h2⟩ := c.ex
  exact ⟨f, fd, h1.mono h, h2⟩
theorem Cal.imp {P : Program} {w : World} {K : PySem.W.Frag} {mg : Str → Option Value} {base : Heap} {k : Nat} {x : Str} {ps : List Str} {S S' : SpT} (c : Cal P w K mg base k x ps S) (h : ∀ ds W O XC, S' ds W O XC → S ds W O XC) : Cal P w K mg base k x ps S' := by
  obtain ⟨f, fd, h1, h2⟩ := c.ex
  exact ⟨f, fd, h1.imp fun vs H Q E ⟨ds, W, O, XC, r, o, el, q, s⟩ => ⟨ds, W, O, XC, r, o, el, q, h _ _ _ _ s⟩, h2⟩
/-- THE RULE for a def -/
theorem fnD {P : Program} {w : World} {K : PySem.W.Frag} {mg : Str → Option Value} {base : Heap} {x qual : Str} {st : Stmt} {f : Addr} {fd : FuncData} {N ps : List Str} {k : Nat} {S : SpT} (F : Fun K x qual st f fd) (Sc : FnScope N ps (defScope st))
    (len : ∀ ds W O XC, S ds W O XC → ds.length = ps.length)
    (body : ∀ (cdv : Value) (A : Around) (outer : List Env) (s : Shared) (H : Hp) (E : XK) (ds : List D) (W : Om) (O : OD) (XC : XCt), Room k (A.deeper (envOfC qual (defScope st) s.heap.objs.size f cdv)) → S ds W O XC →
      XB (cxOf (L2.CX P w) P w K mg base N qual (defScope st) f cdv A outer s H E) E XC (defBody st) (startD N.length ds) W { nx := fun _ W' => O .non W', rt := O }) : FnOk P w K mg base (L2.CX P w) (k + 1) f fd ps (SpD K S) := by
  refine F.okX Sc (fun vs H Q E h => ?_) (fun cdv A outer s H vs Q E hr h => ?_)
  · obtain ⟨ds, W, O, XC, r, _, _, _, h⟩ := h
    rw [r.length]
    exact len _ _ _ _ h
  · obtain ⟨ds, W, O, XC, r, o, el, q, h⟩ := h
    refine ⟨_, pss_W, ?_⟩
    exact body cdv A outer s H E ds W O XC hr h { nx := fun _ H' => Q .non H', rt := Q } (L2.start N vs) H (rpS_start r) o el
      ⟨fun σ H1 g W1 k1 o1 r1 h1 => q _ H1 _ W1 k1 o1 .non h1, q, fun _ _ _ _ _ _ _ h => h.elim, fun _ _ _ _ _ _ _ h => h.elim⟩
theorem cal_mk {P : Program} {w : World} {K : PySem.W.Frag} {mg : Str → Option Value} {base : Heap} {x : Str} {st : Stmt} {f : Addr} {fd : FuncData} {N ps : List Str} {k : Nat} {S : SpT} (F : Fun K x x st f fd) (hm : mg x = some (.ref f)) (hb : Binds K fd ps [])
    (Sc : FnScope N ps (defScope st)) (len : ∀ ds W O XC, S ds W O XC → ds.length = ps.length)
    (body : ∀ (cdv : Value) (A : Around) (outer : List Env) (s : Shared) (H : Hp) (E : XK) (ds : List D) (W : Om) (O : OD) (XC : XCt), Room k (A.deeper (envOfC x (defScope st) s.heap.objs.size f cdv)) → S ds W O XC →
      XB (cxOf (L2.CX P w) P w K mg base N x (defScope st) f cdv A outer s H E) E XC (defBody st) (startD N.length ds) W { nx := fun _ W' => O .non W', rt := O }) : Cal P w K mg base (k + 1) x ps S :=
  ⟨f, fd, fnD F Sc len body, hm, F.kp, hb⟩
section
variable {X : Cx} {E : XK} {XC : XCt} {g : Ga} {W : Om} {a b c : Expr} {pos : Pos} {O : OD}
theorem xe_call {k : Nat} {x : Str} {ps : List Str} {S : SpT} {e : Expr} {es : List Expr} {p : Pos} (c : Cal X.prog X.w X.K X.mg X.base k x ps S) (hr : Room k X.A) (hx : Passes (L2.CX X.prog X.w) X E) (h : XA X E XC (e :: es) g W fun ds W1 => S ds W1 O XC) (hg : Gl X x := by rfl)
    (hdb : (x == ("__debug__" : Str)) = false := by decide) (he : starEach (e :: es) X.env = (false, eval e X.env) :: starEach es X.env := by rfl) (hpl : (backTo pos (starEach es X.env)).any (·.1) = false := by rfl) :
    XE X E XC (.Call (.Name x p) (e :: es) [] pos) g W O := by
  obtain ⟨f, fd, F, hm, hk, hb⟩ := c.ex
  refine xe_of (pe_call F hr hg hm hk hb .nil hx pa_W hdb he hpl) fun σ H r k el Q q => ?_
  refine h σ H r k el _ fun vs H1 ds W1 k1 o1 r1 h1 => ?_
  refine ⟨ds, W1, O, XC, ?_, o1, el.kp k1, q.kp k1, h1⟩
  rw [List.append_nil]; exact r1
theorem xe_call0 {k : Nat} {x : Str} {ps : List Str} {S : SpT} {p : Pos} (c : Cal X.prog X.w X.K X.mg X.base k x ps S) (hr : Room k X.A) (hx : Passes (L2.CX X.prog X.w) X E) (h : S [] W O XC) (hg : Gl X x := by rfl)
    (hdb : (x == ("__debug__" : Str)) = false := by decide) : XE X E XC (.Call (.Name x p) [] [] pos) g W O := by
  obtain ⟨f, fd, F, hm, hk, hb⟩ := c.ex
  refine xe_of (pe_call0 F hr hg hm hk hb .nil hx hdb) fun σ H r k el Q q => ?_
  exact ⟨[], W, O, XC, .nil, k, el, q, h⟩
/-- what a def lets out reaches its caller's wish -/
theorem passX {P : Program} {w : World} {K : PySem.W.Frag} {mg : Str → Option Value} {base : Heap} {N : List Str} {q : Str} {sc : Scope} {f : Addr} {cd : Value} {A : Around} {outer : List Env} {s : Shared} {H : Hp} {E : XK} :
    Passes (L2.CX P w) (cxOf (L2.CX P w) P w K mg base N q sc f cd A outer s H E) E := passes_call (takes_of rfl rfl rfl rfl) fun _ _ _ _ h => h
theorem pass0X : Passes (L2.CX X.prog X.w) X E0 := passL

/-! ### built-ins -/
theorem xe_callB {x : Str} {id : String} {e : Expr} {es : List Expr} {p : Pos} {r : List V → Hp → VK → Prop} (hc : CallR X (.builtin id) r) (hm : X.mg x = none) (hv : bootBuiltins x = some (.builtin id))
    (h : XA X E XC (e :: es) g W fun ds W1 => ∀ vs H1 Q, RpAll X.K H1 vs ds → HpOk X.K H1 W1 → QL X.K H1 O Q → r vs H1 Q) (hg : Gl X x := by rfl) (hn : x ≠ "__name__" := by decide) (hdb : (x == ("__debug__" : Str)) = false := by decide)
    (hs : starEach (e :: es) X.env = (false, eval e X.env) :: starEach es X.env := by rfl) (hp : (backTo pos (starEach es X.env)).any (·.1) = false := by rfl) : XE X E XC (.Call (.Name x p) (e :: es) [] pos) g W O := by
  refine xe_of (pe_callB hc hg hm hv pa_W hn hdb hs hp) fun σ H r0 k el Q q => ?_
  exact h σ H r0 k el _ fun vs H1 ds W1 k1 o1 r1 h1 => h1 vs H1 Q r1 o1 (q.kp k1)
theorem xe_callTy {x : Str} {T : String} {e : Expr} {es : List Expr} {p : Pos} {r : List V → Hp → VK → Prop} (hc : CallR X (.type T) r) (hm : X.mg x = none) (hv : bootBuiltins x = some (.type T))
    (h : XA X E XC (e :: es) g W fun ds W1 => ∀ vs H1 Q, RpAll X.K H1 vs ds → HpOk X.K H1 W1 → QL X.K H1 O Q → r vs H1 Q) (hg : Gl X x := by rfl) (hn : x ≠ "__name__" := by decide) (hdb : (x == ("__debug__" : Str)) = false := by decide)
    (hs : starEach (e :: es) X.env = (false, eval e X.env) :: starEach es X.env := by rfl) (hp : (backTo pos (starEach es X.env)).any (·.1) = false := by rfl) : XE X E XC (.Call (.Name x p) (e :: es) [] pos) g W O := by
  refine xe_of (pe_callTy hc hg hm hv pa_W hn hdb hs hp) fun σ H r0 k el Q q => ?_
  exact h σ H r0 k el _ fun vs H1 ds W1 k1 o1 r1 h1 => h1 vs H1 Q r1 o1 (q.kp k1)
theorem xa1 {e : Expr} {O : List D → Om → Prop} (h : XE X E XC e g W fun d W1 => O [d] W1) (hs : starEach [e] X.env = (false, eval e X.env) :: starEach [] X.env := by rfl) : XA X E XC [e] g W O :=
  xa_cons (fun σ H r k el Q q => h σ H r k el Q fun v H1 d W1 k1 o1 r1 h1 => q v H1 d W1 k1 o1 r1 (xa_nil h1)) hs
theorem xa2 {e f : Expr} {O : List D → Om → Prop} (h : XE X E XC e g W fun d W1 => XE X E XC f g W1 fun d2 W2 => O [d, d2] W2) (hs : starEach [e, f] X.env = (false, eval e X.env) :: starEach [f] X.env := by rfl) (hs2 : starEach [f] X.env = (false, eval f X.env) :: starEach [] X.env := by rfl) : XA X E XC [e, f] g W O :=
  xa_cons (fun σ H r k el Q q => h σ H r k el Q fun v H1 d W1 k1 o1 r1 h1 => q v H1 d W1 k1 o1 r1 (xa1 h1 hs2)) hs
/-- a sequence's items -/
def SeqD (W : Om) : D → List D → Prop := fun d ds => match d with
  | .tup xs => ds = xs
  | .p l => W l = some (.lst ds)
  | .scr _ ns => ds = ns.map D.int
  | _ => False
theorem seqD_sq {K : PySem.W.Frag} {H : Hp} {v : V} {d : D} {ds : List D} (o : HpOk K H W) (r : Rp K H v d) (h : SeqD W d ds) : ∃ a xs, v = .ref a ∧ (SqL K H a xs ∨ SqT K H a xs) ∧ RpAll K H xs ds := by
  cases r with
  | @tup a xs es h1 h2 => cases (show ds = es from h); exact ⟨a, xs, rfl, .inr (.of h1), h2⟩
  | p a =>
    obtain ⟨xs, h1, h2⟩ := o a _ (show W a = some (.lst ds) from h)
    exact ⟨a, xs, rfl, .inl (.of h1), h2⟩
  | @scr a ns h1 => cases (show ds = ns.map D.int from h); exact ⟨a, _, rfl, .inl h1.sq, RpAll.ofInts ns⟩
  | _ => exact False.elim h
/-- len of a sequence or a text -/
def LenD (d : D) (W : Om) (O : OD) : Prop := match d with
  | .str x => x.length ≤ sizeLine ∧ O (.int x.length) W
  | d => ∃ ds, SeqD W d ds ∧ O (.int ds.length) W
theorem xe_len {p : Pos} (hm : X.mg "len" = none) (h : XE X E XC a g W fun d W1 => LenD d W1 O) (hg : Gl X "len" := by rfl) (hs : starEach [a] X.env = (false, eval a X.env) :: starEach [] X.env := by rfl) (hp : (backTo pos (starEach [] X.env)).any (·.1) = false := by rfl) :
    XE X E XC (.Call (.Name "len" p) [a] [] pos) g W O := by
  refine xe_callB call_len hm PySem.boot_len (xa1 (fun σ H r k el Q q => h σ H r k el Q fun v H1 d W1 k1 o1 r1 h1 => q v H1 d W1 k1 o1 r1 ?_) hs) hg (hs := hs) (hp := hp)
  intro vs H2 Q2 r2 o2 q2
  cases r2 with
  | @cons v2 _ _ _ rv rn =>
    cases rn
    have main : ∀ ds, SeqD W1 d ds → O (.int ds.length) W1 → ∃ x n, [v2] = [x] ∧ LenV X.K x H2 n ∧ Q2 (.int n) H2 := fun ds h2 h3 => by
      obtain ⟨a, xs, rfl, hsq, rx⟩ := seqD_sq o2 rv h2
      refine ⟨_, xs.length, rfl, ?_, q2 _ H2 _ W1 (Kp.refl _) o2 (.int _) (by rw [rx.length]; exact h3)⟩
      rcases hsq with z | z
      · exact .inl ⟨xs, z, rfl⟩
      · exact .inr ⟨xs, z, rfl⟩
    cases rv with
    | str z => exact ⟨_, z.length, rfl, ⟨h1.1, rfl⟩, q2 _ H2 _ W1 (Kp.refl _) o2 (.int _) h1.2⟩
    | _ => obtain ⟨ds, h2, h3⟩ := h1; exact main ds h2 h3
/-- max, min of two ints -/
theorem xe_max2 {p : Pos} (hm : X.mg "max" = none) (h : XE X E XC a g W fun d W1 => XE X E XC b g W1 fun e W2 => ∃ i j, d = .int i ∧ e = .int j ∧ O (.int (max i j)) W2) (hc : X.calm = true := by rfl) (hg : Gl X "max" := by rfl)
    (hs : starEach [a, b] X.env = (false, eval a X.env) :: starEach [b] X.env := by rfl) (hs2 : starEach [b] X.env = (false, eval b X.env) :: starEach [] X.env := by rfl) (hp : (backTo pos (starEach [b] X.env)).any (·.1) = false := by rfl) : XE X E XC (.Call (.Name "max" p) [a, b] [] pos) g W O := by
  refine xe_callB (call_max2 hc) hm (by decide +kernel) (xa2 (fun σ H r k el Q q => h σ H r k el Q fun v H1 d W1 k1 o1 r1 h1 => q v H1 d W1 k1 o1 r1 fun σ2 H2 r2 k2 el2 Q2 q2 => h1 σ2 H2 r2 k2 el2 Q2 fun v3 H3 e W3 k3 o3 r3 h3 => q2 v3 H3 e W3 k3 o3 r3 ?_) hs hs2) hg (hs := hs) (hp := hp)
  intro vs H4 Q4 r4 o4 q4
  obtain ⟨i, j, rfl, rfl, h5⟩ := h3
  cases r4 with
  | cons ra rb =>
    cases ra
    cases rb with
    | cons rb rc =>
      cases rb
      cases rc
      refine ⟨i, j, rfl, q4 _ H4 _ W3 (Kp.refl _) o4 (.int _) ?_⟩
      have e : (if j > i then j else i) = max i j := by by_cases hh : j > i <;> simp [hh] <;> omega
      rw [e]; exact h5
theorem xe_min2 {p : Pos} (hm : X.mg "min" = none) (h : XE X E XC a g W fun d W1 => XE X E XC b g W1 fun e W2 => ∃ i j, d = .int i ∧ e = .int j ∧ O (.int (min i j)) W2) (hc : X.calm = true := by rfl) (hg : Gl X "min" := by rfl)
    (hs : starEach [a, b] X.env = (false, eval a X.env) :: starEach [b] X.env := by rfl) (hs2 : starEach [b] X.env = (false, eval b X.env) :: starEach [] X.env := by rfl) (hp : (backTo pos (starEach [b] X.env)).any (·.1) = false := by rfl) : XE X E XC (.Call (.Name "min" p) [a, b] [] pos) g W O := by
  refine xe_callB (call_min2 hc) hm (by decide +kernel) (xa2 (fun σ H r k el Q q => h σ H r k el Q fun v H1 d W1 k1 o1 r1 h1 => q v H1 d W1 k1 o1 r1 fun σ2 H2 r2 k2 el2 Q2 q2 => h1 σ2 H2 r2 k2 el2 Q2 fun v3 H3 e W3 k3 o3 r3 h3 => q2 v3 H3 e W3 k3 o3 r3 ?_) hs hs2) hg (hs := hs) (hp := hp)
  intro vs H4 Q4 r4 o4 q4
  obtain ⟨i, j, rfl, rfl, h5⟩ := h3
  cases r4 with
  | cons ra rb =>
    cases ra
    cases rb with
    | cons rb rc =>
      cases rb
      cases rc
      refine ⟨i, j, rfl, q4 _ H4 _ W3 (Kp.refl _) o4 (.int _) ?_⟩
      have e : (if j < i then j else i) = min i j := by by_cases hh : j < i <;> simp [hh] <;> omega
      rw [e]; exact h5
/-- all of a list of truth values -/
theorem xe_all {p : Pos} (hm : X.mg "all" = none) (h : XE X E XC a g W fun d W1 => ∃ (l : Addr) (bs : List Bool), d = .p l ∧ W1 l = some (.lst (bs.map D.bl)) ∧ O (.bl (bs.all id)) W1) (hc : X.calm = true := by rfl) (hg : Gl X "all" := by rfl) (hs : starEach [a] X.env = (false, eval a X.env) :: starEach [] X.env := by rfl) (hp : (backTo pos (starEach [] X.env)).any (·.1) = false := by rfl) :
    XE X E XC (.Call (.Name "all" p) [a] [] pos) g W O := by
  refine xe_callB (cr_all hc) hm (by decide +kernel) (xa1 (fun σ H r k el Q q => h σ H r k el Q fun v H1 d W1 k1 o1 r1 h1 => q v H1 d W1 k1 o1 r1 ?_) hs) hg (hs := hs) (hp := hp)
  intro vs H2 Q2 r2 o2 q2
  obtain ⟨l, bs, rfl, hl, h2⟩ := h1
  cases r2 with
  | cons rv rn =>
    cases rn
    cases rv
    obtain ⟨xs, h3, h4⟩ := o2 l _ hl
    rw [h4.bls] at h3
    exact ⟨l, bs, rfl, .of h3, q2 _ H2 _ W1 (Kp.refl _) o2 (.bl _) h2⟩
/-- sum of a list of ints -/
theorem xe_sumL {p : Pos} (hm : X.mg "sum" = none) (h : XE X E XC a g W fun d W1 => ∃ (l : Addr) (ns : List Int), d = .p l ∧ W1 l = some (.lst (ns.map D.int)) ∧ O (.int ns.sum) W1) (hc : X.calm = true := by rfl) (hg : Gl X "sum" := by rfl) (hs : starEach [a] X.env = (false, eval a X.env) :: starEach [] X.env := by rfl) (hp : (backTo pos (starEach [] X.env)).any (·.1) = false := by rfl) :
    XE X E XC (.Call (.Name "sum" p) [a] [] pos) g W O := by
  refine xe_callB (cr_sum hc) hm (by decide +kernel) (xa1 (fun σ H r k el Q q => h σ H r k el Q fun v H1 d W1 k1 o1 r1 h1 => q v H1 d W1 k1 o1 r1 ?_) hs) hg (hs := hs) (hp := hp)
  intro vs H2 Q2 r2 o2 q2
  obtain ⟨l, bs, rfl, hl, h2⟩ := h1
  cases r2 with
  | cons rv rn =>
    cases rn
    cases rv
    obtain ⟨xs, h3, h4⟩ := o2 l _ hl
    rw [h4.ints] at h3
    exact ⟨l, bs, rfl, .of h3, q2 _ H2 _ W1 (Kp.refl _) o2 (.int _) h2⟩
/-- tuple(x), list(x) -/
theorem xe_tuple {p : Pos} (hm : X.mg "tuple" = none) (h : XE X E XC a g W fun d W1 => ∃ ds, SeqD W1 d ds ∧ O (.tup ds) W1) (hg : Gl X "tuple" := by rfl) (hs : starEach [a] X.env = (false, eval a X.env) :: starEach [] X.env := by rfl) (hp : (backTo pos (starEach [] X.env)).any (·.1) = false := by rfl) :
    XE X E XC (.Call (.Name "tuple" p) [a] [] pos) g W O := by
  refine xe_callTy call_tuple_of hm (by decide +kernel) (xa1 (fun σ H r k el Q q => h σ H r k el Q fun v H1 d W1 k1 o1 r1 h1 => q v H1 d W1 k1 o1 r1 ?_) hs) hg (hs := hs) (hp := hp)
  intro vs H2 Q2 r2 o2 q2
  obtain ⟨ds, hsq, h2⟩ := h1
  cases r2 with
  | cons rv rn =>
    cases rn
    cases rv with
    | @tup a xs es h3 h4 =>
      cases (show ds = es from hsq)
      exact ⟨a, xs, rfl, .inr ⟨.of h3, q2 _ H2 _ W1 (Kp.refl _) o2 (.tup h3 h4) h2⟩⟩
    | p l =>
      obtain ⟨xs, h3, h4⟩ := o2 l _ (show W1 l = some (.lst ds) from hsq)
      exact ⟨l, xs, rfl, .inl ⟨.of h3, fun p hp => q2 _ _ _ W1 (Kp.new hp) (o2.more hp) (.tup upd_same (h4.kp (Kp.new hp))) h2⟩⟩
    | @scr l ns h3 =>
      cases (show ds = ns.map D.int from hsq)
      exact ⟨l, _, rfl, .inl ⟨h3.sq, fun p hp => q2 _ _ _ W1 (Kp.new hp) (o2.more hp) (.tup upd_same (RpAll.ofInts ns)) h2⟩⟩
    | _ => exact False.elim hsq
theorem xe_list {p : Pos} (hm : X.mg "list" = none) (h : XE X E XC a g W fun d W1 => ∃ ds, SeqD W1 d ds ∧ ∀ l, W1 l = none → O (.p l) (updO W1 l (.lst ds))) (hg : Gl X "list" := by rfl) (hs : starEach [a] X.env = (false, eval a X.env) :: starEach [] X.env := by rfl) (hp : (backTo pos (starEach [] X.env)).any (·.1) = false := by rfl) :
    XE X E XC (.Call (.Name "list" p) [a] [] pos) g W O := by
  refine xe_callTy call_list_of hm (by decide +kernel) (xa1 (fun σ H r k el Q q => h σ H r k el Q fun v H1 d W1 k1 o1 r1 h1 => q v H1 d W1 k1 o1 r1 ?_) hs) hg (hs := hs) (hp := hp)
  intro vs H2 Q2 r2 o2 q2
  obtain ⟨ds, hsq, h2⟩ := h1
  cases r2 with
  | cons rv rn =>
    cases rn
    obtain ⟨a, xs, rfl, hx, rx⟩ := seqD_sq o2 rv hsq
    exact ⟨a, xs, rfl, hx, fun p hp => q2 _ _ _ _ (Kp.new hp) (o2.new (o := .lst ds) hp ⟨xs, upd_same, rx.kp (Kp.new hp)⟩) (.p p) (h2 p (o2.free hp))⟩
/-- isinstance(x, T) of a built-in class -/
def tyD (W : Om) : D → Option String
  | .non => some "NoneType"
  | .bl _ => some "bool"
  | .int _ => some "int"
  | .str _ => some "str"
  | .tup _ => some "tuple"
  | .p a => match W a with
    | some (.lst _) => some "list"
    | _ => none
  | _ => none
theorem tyD_ok {K : PySem.W.Frag} {H : Hp} {v : V} {d : D} {t : String} (o : HpOk K H W) (r : Rp K H v d) (h : tyD W d = some t) : TyX K H v (.type t) := by
  cases r with
  | non => cases h; exact .base .non
  | bl b => cases h; exact .base (.bl b)
  | int b => cases h; exact .base (.int b)
  | str b => cases h; exact .base (.str b)
  | tup h1 _ => cases h; exact .base (.tup h1)
  | p a =>
    simp only [tyD] at h
    split at h
    · rename_i ds q
      cases h
      obtain ⟨xs, h1, _⟩ := o a _ q
      exact .base (.lst h1)
    · cases h
  | scr _ => cases h
  | ty _ => cases h
  | exc _ _ _ _ => cases h
theorem xe_isi {p : Pos} (hm : X.mg "isinstance" = none) (h : XE X E XC a g W fun d W1 => XE X E XC b g W1 fun e W2 => ∃ n t r, e = .ty n ∧ tyD W2 d = some t ∧ kitB t n = some r ∧ O (.bl r) W2) (hg : Gl X "isinstance" := by rfl)
    (hs : starEach [a, b] X.env = (false, eval a X.env) :: starEach [b] X.env := by rfl) (hs2 : starEach [b] X.env = (false, eval b X.env) :: starEach [] X.env := by rfl) (hp : (backTo pos (starEach [b] X.env)).any (·.1) = false := by rfl) : XE X E XC (.Call (.Name "isinstance" p) [a, b] [] pos) g W O := by
  refine xe_callB call_isi hm (by decide +kernel) (xa2 (fun σ H r k el Q q => h σ H r k el Q fun v H1 d W1 k1 o1 r1 h1 => q v H1 d W1 k1 o1 r1 fun σ2 H2 r2 k2 el2 Q2 q2 => h1 σ2 H2 r2 k2 el2 Q2 fun v3 H3 e W3 k3 o3 r3 h3 => q2 v3 H3 e W3 k3 o3 r3 ?_) hs hs2) hg (hs := hs) (hp := hp)
  intro vs H4 Q4 r4 o4 q4
  obtain ⟨n, t, r, rfl, ht, hk, h5⟩ := h3
  cases r4 with
  | @cons v5 _ _ _ ra rb =>
    cases rb with
    | cons rb rc =>
      cases rb
      cases rc
      exact ⟨v5, .ty n, .type t, .type n, r, rfl, .ty n, tyD_ok o4 ra ht, kit_ty hk, q4 _ H4 _ W3 (Kp.refl _) o4 (.bl _) h5⟩
/-- xs.append(e) as a statement's expression -/
theorem xe_append {e : Expr} {apos : Pos} (h : XE X E XC a g W fun d W1 => ∃ l xs, d = .p l ∧ W1 l = some (.lst xs) ∧ XE X E XC e g W1 fun y W2 => ∃ ys, W2 l = some (.lst ys) ∧ ys.length < sizeLine ∧ O .non (updO W2 l (.lst (ys ++ [y]))))
    (hbase : attributeBase a "append" X.env (eval a X.env) = eval a X.env := by rfl)
    (hfew : ((backTo pos (starEach [e] X.env)).all (fun x => !x.1) && (backToKw pos (keywordEach [] X.env)).all (fun x => x.1.isSome) && decide ([e].length + ([] : List Keyword).length + (if ([] : List Keyword).isEmpty then 0 else 1) < 30)) = true := by rfl)
    (hline : (apos.endLine == pos.line) = true := by rfl) (hs : starEach [e] X.env = (false, eval e X.env) :: starEach [] X.env := by rfl) (hplain : (backTo pos (starEach [] X.env)).any (·.1) = false := by rfl) :
    XE X E XC (.Call (.Attribute a "append" apos) [e] [] pos) g W O := by
  refine xe_of (pe_bm PySem.F.plainAttrs_list PySem.F.slot_list_append PySem.F.type_list_append mt_append pe_W (pa_cons pe_W pa_nil hs) hbase hfew hline hs hplain) fun σ H r k el Q q => ?_
  refine h σ H r k el _ fun v H1 d W1 k1 o1 r1 ⟨l, xs, e1, hl, h1⟩ => ?_
  subst e1
  cases r1
  obtain ⟨zs, hz, _⟩ := o1 l _ hl
  refine ⟨.inl ⟨rfl, zs, .of hz⟩, h1 σ H1 (r.kp k1) o1 (el.kp k1) _ fun y H2 d2 W2 k2 o2 r2 ⟨ys, hy, hlen, h2⟩ => ?_⟩
  obtain ⟨us, hu, ru⟩ := o2 l _ hy
  have kk : Kp H2 (upd H2 l (.lst (us ++ [y]))) := Kp.at hu (fun _ z => by cases z) (fun _ _ z => by cases z)
  refine ⟨l, us, y, rfl, rfl, hu, by rw [ru.length]; exact hlen, ?_⟩
  exact q _ _ _ _ ((k1.trans k2).trans kk) (o2.set kk (o := .lst (ys ++ [d2])) ⟨_, upd_same, (ru.append (.cons r2 .nil)).kp kk⟩) .non h2
end
end SR
namespace SR
open PySem PySem.Spec PyProof.Rows L2
/-! ### sum of a tuple of ints -/
theorem sum_tup {prog : Program} {w : World} {A : Around} {E : Value → Shared → Prop} {s : Shared} {t : Addr} {its : List Value} {ns : List Int} {Q : Value → Shared → Prop} (hh : A.handled = none) (ht : IsTup s.heap t its.toArray) (hi : IntsAre its ns)
    (h : ∀ h' tk t', (∀ b o, s.heap.get? b = some o → h'.get? b = some o) → Q (.int ns.sum t') { s with heap := h', toks := tk }) : wpAny (model prog w) A (call (.builtin "sum") [.ref t]) Q E s := by
  obtain ⟨xs, e⟩ := hi.allInts.items
  have hn : numsOf (intItems xs).toList = ns := by rw [← e]; exact hi.numsOf
  rw [nums_intItems] at hn
  rw [e] at ht
  have hlt : t < s.heap.objs.size := ht.lt
  have htT : s.heap.IsTuple t (intItems xs) := ht
  refine call_sum_walkG (wpAny_pyIter_tuple htT ?_)
  refine ⟨_, _, _, _, _, _, numAt xs, rfl, Walks.tuple (A := A.in1) hh _ t (Nat.ne_of_lt hlt) (intItems xs), ⟨⟨_, Heap.get?_push_size _ rfl, rfl, rfl⟩, ht.push _⟩, ?_, (fun _ _ => intItems_at), fun h' tk t' hk => ?_⟩
  · intro b hb
    have hsz : (s.heap.push { cls := .type "tuple_iterator", data := .fields #[.ref t, .int 0 0] }).objs.size = s.heap.objs.size + 1 := Heap.size_push _ _
    simp only [List.mem_cons, List.not_mem_nil, or_false] at hb
    rcases hb with rfl | rfl
    · show _ < (s.heap.push _).objs.size
      rw [hsz]; exact Nat.lt_succ_self _
    · show _ < (s.heap.push _).objs.size
      rw [hsz]; exact Nat.lt_succ_of_lt hlt
  · have := h h' tk t' (fun b o e => hk b o (by simpa using Nat.ne_of_lt (Heap.lt_size e)) (Heap.get?_push_of_some _ e))
    rw [preSum_eq, show List.take (intItems xs).size _ = _ from List.take_of_length_le (by simp [intItems]), hn]
    exact this
section
variable {X : Cx}
def rSumT (K : PySem.W.Frag) : List V → Hp → VK → Prop := fun vs H Q => ∃ (a : Addr) (ns : List Int), vs = [V.ref a] ∧ SqT K H a (ns.map V.int) ∧ Q (.int ns.sum) H
theorem cr_sumT (hc : X.calm = true) : CallR X (.builtin "sum") (rSumT X.K) := by
  intro pins s σ H vs us Q I r h
  obtain ⟨a, ns, rfl, hs, q⟩ := h
  obtain ⟨its, rv, hl, _⟩ := I.tuple hs
  rw [Vals.ref1 r]
  exact sum_tup (I.ok.hd hc) hl rv.ints fun h' tk t' hk => ⟨.int _, H, I.kept hk, ⟨_, rfl⟩, q⟩
/-! ### tuple * int -/
theorem tuple_mul1 (l : Addr) (items : Array Value) (n : Nat) (dd : Option Addr) (sl : Array (Option Value)) (x : Int) (u : Tok) (c0 : (decide (x < -(2 ^ 63)) || decide (x ≥ 2 ^ 63)) = false) (c1 : (items.isEmpty || x == 1) = true) :
    Meets (Builtin.«tuple.__mul__» ⟨[.ref l, .int x u], []⟩) (fun _ R s => s.heap.get? l = some { cls := .type "tuple", dict := dd, data := .seq items n, slots := sl } ∧ R (.ok (.ret (Value.ref l))) s) :=
  .of_wp fun prog w A R s h => by
    obtain ⟨hp, g, d, tk, os⟩ := s
    obtain ⟨hl, h⟩ := h
    have f1 := AutoSeq1.idx_int
    wp_walk using wpAny_loadPart' hl
    repeat (first
      | (refine wpAny_ite_false (decide_eq_false (by rw [c0]; exact Bool.false_ne_true)) ?_; wp_walk using wpAny_loadPart' hl)
      | (refine wpAny_ite_true (decide_eq_true (by rw [c1])) ?_; wp_walk using wpAny_loadPart' hl))
    exact ⟨_, rfl, h⟩
theorem tuple_mul0 (l : Addr) (items : Array Value) (n : Nat) (dd : Option Addr) (sl : Array (Option Value)) (x : Int) (u : Tok) (c0 : (decide (x < -(2 ^ 63)) || decide (x ≥ 2 ^ 63)) = false) (c1 : (items.isEmpty || x == 1) = false) (c2 : (decide (x ≤ 0) || items.isEmpty) = true) :
    Meets (Builtin.«tuple.__mul__» ⟨[.ref l, .int x u], []⟩) (fun _ R s => s.heap.get? l = some { cls := .type "tuple", dict := dd, data := .seq items n, slots := sl } ∧
      R (.ok (.ret (Value.ref s.heap.objs.size))) { s with heap := s.heap.push { cls := Value.type "tuple", data := Data.seq #[] }, toks := s.toks }) :=
  .of_wp fun prog w A R s h => by
    obtain ⟨hp, g, d, tk, os⟩ := s
    obtain ⟨hl, h⟩ := h
    have f1 := AutoSeq1.idx_int
    wp_walk using wpAny_loadPart' hl
    repeat (first
      | (refine wpAny_ite_false (decide_eq_false (by rw [c0]; exact Bool.false_ne_true)) ?_; wp_walk using wpAny_loadPart' hl)
      | (refine wpAny_ite_false (decide_eq_false (by rw [c1]; exact Bool.false_ne_true)) ?_; wp_walk using wpAny_loadPart' hl)
      | (refine wpAny_ite_true (decide_eq_true (by rw [c2])) ?_; wp_walk using wpAny_loadPart' hl)
      | (refine wpAny_ite_false (decide_eq_false (Nat.not_lt.mpr (Nat.zero_le _))) ?_; wp_walk using wpAny_loadPart' hl))
    exact ⟨_, rfl, h⟩
/-- t * k, t not empty -/
def rRepA (K : PySem.W.Frag) : R2 := fun x y H Q => ∃ l k xs, x = .ref l ∧ y = .int k ∧ SqT K H l xs ∧ xs ≠ [] ∧ 0 ≤ k ∧ k ≤ 1000 ∧ xs.length ≤ 1000 ∧ (k = 1 → Q (.ref l) H) ∧ (k ≠ 1 → ∀ p, H p = none → Q (.ref p) (upd H p (.tup (List.replicate k.toNat xs).flatten)))
theorem op_repA : OpR X (binaryOp .Mult) (rRepA X.K) := by
  intro pins s σ H x y v u Q I rx ry h
  obtain ⟨l, k, xs, rfl, rfl, hT, hne, h1, h2, hz, q1, q2⟩ := h
  by_cases hk : 2 ≤ k
  · exact op_repT pins s σ H _ _ v u Q I rx ry ⟨l, k, xs, rfl, rfl, hT, hne, hk, h2, hz, q2 (by omega)⟩
  cases rx
  obtain ⟨t, rfl⟩ := ry
  obtain ⟨its, r, ⟨⟨cls, dd, data, sl⟩, ho, hc, n, hd⟩, hs⟩ := I.tuple hT
  simp only at hc hd
  subst hc hd
  have hle : its.length = xs.length := r.length.symm
  have hn : its ≠ [] := fun e => hne (by
    rw [e] at hle
    exact List.eq_nil_of_length_eq_zero hle.symm)
  have hi : its.toArray.isEmpty = false := by
    cases its with
    | nil => exact absurd rfl hn
    | cons a b => rfl
  have c0 : (decide (k < -(2 ^ 63)) || decide (k ≥ 2 ^ 63)) = false := by
    rw [decide_eq_false (by omega), decide_eq_false (by omega)] <;> rfl
  by_cases hk1 : k = 1
  · refine wpAny_binaryOp_repeat_ref (T := "tuple") (U := "int") (by decide) ⟨_, ho, rfl⟩ (fun s' => typeIs_int s' k t) noFill_tuple_mul F.fills_int_mul F.slot_int_rmul repeat_tuple F.slot_int_index.lookup
      (call_meets F.slot_int_rmul (typeIs_int s k t) F.entry_int_rmul (F.args_int_rmul_2 _ _) (int_rmul_tuple k t l its.toArray n dd sl)
        ⟨ho, rfl, ⟨_, ho, rfl⟩, call_meets F.slot_tuple_mul ⟨_, ho, rfl⟩ F.entry_tuple_mul (F.args_tuple_mul_2 _ _) (tuple_mul1 l its.toArray n dd sl k t c0 (by rw [hi, hk1]; rfl)) ⟨ho, ?_⟩⟩)
    exact ⟨.ref l, H, I, rfl, q1 hk1⟩
  · have c1 : (its.toArray.isEmpty || k == 1) = false := by
      rw [hi, Bool.false_or]
      exact beq_eq_false_iff_ne.mpr (by omega)
    have c2 : (decide (k ≤ 0) || its.toArray.isEmpty) = true := by
      rw [decide_eq_true (by omega)] <;> rfl
    refine wpAny_binaryOp_repeat_ref (T := "tuple") (U := "int") (by decide) ⟨_, ho, rfl⟩ (fun s' => typeIs_int s' k t) noFill_tuple_mul F.fills_int_mul F.slot_int_rmul repeat_tuple F.slot_int_index.lookup
      (call_meets F.slot_int_rmul (typeIs_int s k t) F.entry_int_rmul (F.args_int_rmul_2 _ _) (int_rmul_tuple k t l its.toArray n dd sl)
        ⟨ho, rfl, ⟨_, ho, rfl⟩, call_meets F.slot_tuple_mul ⟨_, ho, rfl⟩ F.entry_tuple_mul (F.args_tuple_mul_2 _ _) (tuple_mul0 l its.toArray n dd sl k t c0 c1 c2) ⟨ho, ?_⟩⟩)
    have e0 : (List.replicate k.toNat xs).flatten = [] := by rw [show k.toNat = 0 by omega]; rfl
    refine ⟨.ref s.heap.objs.size, _, I.laid (t' := s.toks) (o := .tup (List.replicate k.toNat xs).flatten) (fun b ob q => Heap.get?_push_of_some _ q) (Nat.le_refl _) ?_, rfl, q2 hk1 _ (I.hok.fresh (Nat.le_refl _))⟩
    rw [e0]
    exact ⟨Nat.zero_le _, [], .nil, IsTup.new _ _⟩
end
section
variable {X : Cx} {E : XK} {XC : XCt} {g : Ga} {W : Om} {a b c : Expr} {pos : Pos} {O : OD}
/-- *: ints, a tuple or a list times an int -/
def MulD : R2D := fun d e W O => match d, e with
  | .int i, .int j => CMul i j ∧ O (.int (i * j)) W
  | .tup xs, .int k => xs ≠ [] ∧ 0 ≤ k ∧ k ≤ 1000 ∧ xs.length ≤ 1000 ∧ O (.tup (List.replicate k.toNat xs).flatten) W
  | .p l, .int k => ∃ xs, W l = some (.lst xs) ∧ 0 ≤ k ∧ k ≤ 1000 ∧ xs.length ≤ 1000 ∧ ∀ p, W p = none → O (.p p) (updO W p (.lst (List.replicate k.toNat xs).flatten))
  | _, _ => False
theorem op2_mul (K : PySem.W.Frag) : Op2 K (fun x y H Q => (rI CMul fun i j => .int (i * j)) x y H Q ∨ rRepA K x y H Q ∨ rRep x y H Q) MulD := by
  intro x y d e H W O Q rx ry o q h
  cases rx with
  | int i =>
    cases ry with
    | int j => exact .inl ⟨i, j, rfl, rfl, h.1, q _ H _ W (Kp.refl H) o (.int _) h.2⟩
    | _ => exact False.elim h
  | @tup l xs ds hl hx =>
    cases ry with
    | int k =>
      obtain ⟨hn, h1, h2, hz, h⟩ := h
      refine .inr (.inl ⟨l, k, xs, rfl, rfl, .of hl, fun e => hn (by subst e; cases hx; rfl), h1, h2, by rw [hx.length]; exact hz, fun e => ?_, fun e p hp => ?_⟩)
      · subst e
        have e1 : (List.replicate (1 : Int).toNat ds).flatten = ds := by
          show (List.replicate 1 ds).flatten = ds
          simp
        rw [e1] at h
        exact q _ H _ W (Kp.refl H) o (.tup hl hx) h
      · exact q _ _ _ W (Kp.new hp) (o.more hp) (.tup upd_same ((hx.rep _).kp (Kp.new hp))) h
    | _ => exact False.elim h
  | p l =>
    cases ry with
    | int k =>
      obtain ⟨ds, h0, h1, h2, hz, h⟩ := h
      obtain ⟨xs, h3, hx⟩ := o l _ h0
      have hz2 : xs.length * k.toNat ≤ sizeLine := by
        rw [sizeLine_eq, hx.length]
        have a1 : ds.length * k.toNat ≤ 1000 * 1000 := Nat.mul_le_mul hz (by omega)
        omega
      refine .inr (.inr ⟨l, k, xs, rfl, rfl, h3, by omega, by omega, hz2, fun p hp => ?_⟩)
      exact q _ _ _ _ (Kp.new hp) (o.new (o := .lst (List.replicate k.toNat ds).flatten) hp ⟨_, upd_same, (hx.rep _).kp (Kp.new hp)⟩) (.p p) (h p (o.free hp))
    | _ => exact False.elim h
  | _ => exact False.elim (by cases ry <;> exact h)
theorem xe_times (h : XE X E XC a g W fun d W1 => XE X E XC b g W1 fun e W2 => MulD d e W2 O) : XE X E XC (.BinOp a .Mult b pos) g W O :=
  xe_of (pe_op (op_mul.or (op_repA.or op_rep)) pe_W pe_W) (ex_op (op2_mul X.K) h)
/-- sum of a tuple, a list of ints -/
theorem xe_sum {p : Pos} (hm : X.mg "sum" = none) (h : XE X E XC a g W fun d W1 => ∃ ns : List Int, SeqD W1 d (ns.map D.int) ∧ O (.int ns.sum) W1) (hc : X.calm = true := by rfl) (hg : Gl X "sum" := by rfl) (hs : starEach [a] X.env = (false, eval a X.env) :: starEach [] X.env := by rfl) (hp : (backTo pos (starEach [] X.env)).any (·.1) = false := by rfl) :
    XE X E XC (.Call (.Name "sum" p) [a] [] pos) g W O := by
  refine xe_callB ((cr_sum hc).or (cr_sumT hc)) hm (by decide +kernel) (xa1 (fun σ H r k el Q q => h σ H r k el Q fun v H1 d W1 k1 o1 r1 h1 => q v H1 d W1 k1 o1 r1 ?_) hs) hg (hs := hs) (hp := hp)
  intro vs H2 Q2 r2 o2 q2
  obtain ⟨ns, hsq, h2⟩ := h1
  cases r2 with
  | cons rv rn =>
    cases rn
    obtain ⟨a, xs, rfl, hx, rx⟩ := seqD_sq o2 rv hsq
    rw [rx.ints] at hx
    rcases hx with hx | hx
    · exact .inl ⟨a, ns, rfl, hx, q2 _ H2 _ W1 (Kp.refl _) o2 (.int _) h2⟩
    · exact .inr ⟨a, ns, rfl, hx, q2 _ H2 _ W1 (Kp.refl _) o2 (.int _) h2⟩
end
end SR
namespace SR
open PySem PySem.Spec PyProof.Rows L2
/-- the slots of a block's own names forgotten -/
def wipeG (g : Ga) : List Nat → Ga
  | [] => g
  | v :: vs => (wipeG g vs).set v none
theorem wipeG_len (g : Ga) : ∀ vs : List Nat, (wipeG g vs).length = g.length
  | [] => rfl
  | v :: vs => by unfold wipeG; rw [List.length_set, wipeG_len g vs]
theorem rpS_none {K : PySem.W.Frag} {H : Hp} {σ : St} {g : Ga} (h : RpS K H σ g) (i : Nat) : RpS K H (σ.set i none) (g.set i none) := by
  refine ⟨by rw [List.length_set, List.length_set]; exact h.len, fun j e q => ?_⟩
  by_cases hj : i = j
  · subst hj
    by_cases hl : i < g.length
    · rw [List.getElem?_set_self hl] at q; cases q
    · rw [List.getElem?_eq_none (by rw [List.length_set]; omega)] at q; cases q
  · rw [List.getElem?_set_ne hj] at q
    obtain ⟨u, a, b⟩ := h.get j e q
    exact ⟨u, by rw [List.getElem?_set_ne hj]; exact a, b⟩
theorem rpS_wipe {K : PySem.W.Frag} {H : Hp} {σ : St} {g : Ga} (h : RpS K H σ g) : ∀ vs : List Nat, RpS K H (wipe σ vs) (wipeG g vs)
  | [] => h
  | v :: vs => rpS_none (rpS_wipe h vs) v
section
variable {X : Cx} {E : XK} {XC : XCt} {g : Ga} {W : Om} {a b c : Expr} {pos : Pos} {O : OD}
/-- the block of a comprehension -/
abbrev Blk (X : Cx) (scope : Scope) (s : Shared) (H : Hp) (C : Addr) (cl : List (Str × Addr)) (fp : List Addr) : Cx := X.blk s H scope (compEnvC scope cl C X.env) fp
def XTs (Y : Cx) (ifs : List Expr) (g : Ga) (W : Om) (O : Bool → Om → Prop) : Prop := match ifs with
  | [] => O true W
  | [c] => XT Y E0 XC0 c g W O
  | _ => False
/-- the target of a comprehension's for: the slots it fills, by data -/
structure LcTg (X : Cx) (scope : Scope) (tg : Expr) (vs : List Nat) (put : D → Ga → Option Ga) : Prop where
  ex : ∃ t : TG, (∀ (s : Shared) (H : Hp) (C : Addr) (cl : List (Str × Addr)) (fp : List Addr), PG (Blk X scope s H C cl fp) tg t) ∧
    ∀ (v : V) (d : D) (σ : St) (H : Hp) (g g2 : Ga) (Q : St → Hp → Prop), RpS X.K H σ g → Rp X.K H v d → put d g = some g2 → (∀ σ2, RpS X.K H σ2 g2 → wipe σ2 vs = wipe σ vs → Q σ2 H) → t v σ H Q
theorem set_none_of {α : Type} (l : List (Option α)) (i : Nat) (x : Option α) : (l.set i x).set i none = l.set i none := List.set_set ..
theorem lcTg_name {scope : Scope} {x : Str} {p : Pos} (i : Nat) (hN : X.N.Nodup) (hi : X.N[i]? = some x := by rfl) (hx : ∀ (s : Shared) (H : Hp) (C : Addr) (cl : List (Str × Addr)) (fp : List Addr), Loc (Blk X scope s H C cl fp).env.scope x := by intros; first | exact .inl rfl | exact .inr rfl)
    (hf : ∀ (s : Shared) (H : Hp) (C : Addr) (cl : List (Str × Addr)) (fp : List Addr), (Blk X scope s H C cl fp).fn x = true ∨ (Blk X scope s H C cl fp).env.scope.names.lookup x = some .local := by intros; first | exact .inl rfl | exact .inr rfl) : LcTg X scope (.Name x p) [i] (fun d g => some (g.set i (some d))) :=
  ⟨gName i, fun s H C cl fp => pg_name (X := Blk X scope s H C cl fp) (i := i) hN hi (hx s H C cl fp) (hf s H C cl fp), fun v d σ H g g2 Q r rv hp q => by
    cases hp
    exact q _ (r.set i rv) (set_none_of σ i (some v))⟩
def put2 (i j : Nat) (d : D) (g : Ga) : Option Ga := match d with
  | .tup [x, y] => some ((g.set i (some x)).set j (some y))
  | _ => none
theorem wipe2 (σ : St) (i j : Nat) (x y : Option V) : wipe ((σ.set i x).set j y) [i, j] = wipe σ [i, j] := by
  unfold wipe wipe wipe
  by_cases h : i = j
  · subst h
    rw [List.set_set, List.set_set, List.set_set, List.set_set]
  · rw [List.set_set, List.set_comm _ _ (Ne.symm h), List.set_set, List.set_comm _ _ h]
theorem lcTg_two {scope : Scope} {x y : Str} {p p2 p3 : Pos} {k : Nat} (i j : Nat) (hN : X.N.Nodup) (hc : X.calm = true := by rfl) (hi : X.N[i]? = some x := by rfl) (hj : X.N[j]? = some y := by rfl)
    (hx : ∀ (s : Shared) (H : Hp) (C : Addr) (cl : List (Str × Addr)) (fp : List Addr), Loc (Blk X scope s H C cl fp).env.scope x := by intros; first | exact .inl rfl | exact .inr rfl)
    (hf : ∀ (s : Shared) (H : Hp) (C : Addr) (cl : List (Str × Addr)) (fp : List Addr), (Blk X scope s H C cl fp).fn x = true ∨ (Blk X scope s H C cl fp).env.scope.names.lookup x = some .local := by intros; first | exact .inl rfl | exact .inr rfl)
    (hy : ∀ (s : Shared) (H : Hp) (C : Addr) (cl : List (Str × Addr)) (fp : List Addr), Loc (Blk X scope s H C cl fp).env.scope y := by intros; first | exact .inl rfl | exact .inr rfl)
    (hf2 : ∀ (s : Shared) (H : Hp) (C : Addr) (cl : List (Str × Addr)) (fp : List Addr), (Blk X scope s H C cl fp).fn y = true ∨ (Blk X scope s H C cl fp).env.scope.names.lookup y = some .local := by intros; first | exact .inl rfl | exact .inr rfl) :
    LcTg X scope (.Tuple [.Name x p, .Name y p2] k p3) [i, j] (put2 i j) :=
  ⟨gTup X.K 2 (gCons (gName i) (gCons (gName j) gNil)), fun s H C cl fp => pg_tup (X := Blk X scope s H C cl fp) hc (pgs_cons (pg_name (i := i) hN hi (hx s H C cl fp) (hf s H C cl fp)) (pgs_cons (pg_name (i := j) hN hj (hy s H C cl fp) (hf2 s H C cl fp)) pgs_nil)), fun v d σ H g g2 Q r rv hp q => by
    unfold put2 at hp
    split at hp
    · rename_i d1 d2
      cases hp
      cases rv with
      | @tup a xs _ h1 h2 =>
        cases h2 with
        | @cons v1 _ _ _ ra rb =>
          cases rb with
          | @cons v2 _ _ _ rb rc =>
            cases rc
            exact ⟨a, _, rfl, .of h1, rfl, v1, [v2], rfl, v2, [], rfl, rfl, q _ ((r.set i ra).set j rb) (wipe2 σ i j _ _)⟩
    · cases hp⟩
/-- a comprehension's parts and their reading over data -/
def LcR (X : Cx) (E : XK) (XC : XCt) (elt tg iter : Expr) (ifs : List Expr) (scope : Scope) (own : List (Str × Nat)) (g : Ga) (W : Om) (O : OD) : Prop :=
  ∃ (wi : TI) (t : TG) (tt : TT) (te : TE), PI X tg iter wi ∧ (∀ (s : Shared) (H : Hp) (C : Addr) (cl : List (Str × Addr)) (fp : List Addr), PG (Blk X scope s H C cl fp) tg t) ∧ (∀ (s : Shared) (H : Hp) (C : Addr) (cl : List (Str × Addr)) (fp : List Addr), PTs (Blk X scope s H C cl fp) ifs tt) ∧
    (∀ (s : Shared) (H : Hp) (C : Addr) (cl : List (Str × Addr)) (fp : List Addr), PE (Blk X scope s H C cl fp) elt te) ∧ Ex X.K E XC (tLc wi t tt te (own.map (·.2))) g W O
theorem xe_lcR {elt tg iter : Expr} {ifs : List Expr} {scope : Scope} {own : List (Str × Nat)} (hN : X.N.Nodup) (ok : BlkOk X.N X.env.scope scope own) (h : LcR X E XC elt tg iter ifs scope own g W O)
    (hc : X.calm = true := by rfl) (hs : ∀ x, foldedSetIterable iter X.env x = pure x := by intro _; rfl) : XE X E XC (.ListComp elt [⟨tg, iter, ifs, 0⟩] scope pos) g W O := by
  obtain ⟨wi, t, tt, te, h1, h2, h3, h4, h5⟩ := h
  exact xe_of (pe_lc hc hN h1 ok h2 h3 h4 hs) h5
theorem xs_setR (i : Nat) {y : Str} {py spos : Pos} {C : EndD} {elt tg iter : Expr} {ifs : List Expr} {scope : Scope} {own : List (Str × Nat)} (hN : X.N.Nodup) (ok : BlkOk X.N X.env.scope scope own) (h : LcR X E XC elt tg iter ifs scope own g W fun d W1 => C.nx (g.set i (some d)) W1)
    (hy : X.N[i]? = some y := by rfl) (hyl : X.env.scope.names.lookup y = some .local := by rfl) (hsw : swapsWith (.ListComp elt [⟨tg, iter, ifs, 0⟩] scope pos) (some (.Name y py)) spos.line X.env = pure true := by exact sw_true rfl rfl rfl (by decide +kernel))
    (hc : X.calm = true := by rfl) (hs : ∀ x, foldedSetIterable iter X.env x = pure x := by intro _; rfl) : XS X E XC (.Assign [.Name y py] (.ListComp elt [⟨tg, iter, ifs, 0⟩] scope pos) spos) g W C := by
  obtain ⟨wi, t, tt, te, h1, h2, h3, h4, h5⟩ := h
  refine xs_of (ps_setLc hc hN hy hyl hsw h1 ok h2 h3 h4 hs) fun D σ H r k el l => ?_
  exact h5 σ H r k el _ fun v H1 d W1 k1 o1 r1 h1 => l.nx _ H1 _ W1 k1 o1 ((r.kp k1).set i r1) h1
/-- the reading of a comprehension over data, I the invariant: turn, the items so far, the map -/
theorem lc_R {elt tg iter : Expr} {ifs : List Expr} {scope : Scope} (own : List (Str × Nat)) {put : D → Ga → Option Ga} (tg_ok : LcTg X scope tg (own.map (·.2)) put)
    (h : XI X E XC tg iter g W fun ds okk W1 => ∀ l, W1 l = none → ∃ I : Nat → List D → Om → Prop, I 0 [] (updO W1 l (.lst [])) ∧ (∀ i acc W', I i acc W' → okk W' ∧ W' l = some (.lst acc) ∧ acc.length ≤ i) ∧ ds.length ≤ sizeLine ∧
      (∀ i d acc W', ds[i]? = some d → I i acc W' → ∃ g2, put d (wipeG g (own.map (·.2))) = some g2 ∧ ∀ (s : Shared) (H : Hp) (C : Addr) (cl : List (Str × Addr)) (fp : List Addr),
        XTs (Blk X scope s H C cl fp) ifs g2 W' fun k W3 => (k = true → ∀ (s : Shared) (H : Hp) (C : Addr) (cl : List (Str × Addr)) (fp : List Addr), XE (Blk X scope s H C cl fp) E0 XC0 elt g2 W3 fun y W4 => W4 l = some (.lst acc) ∧ I (i + 1) (acc ++ [y]) (updO W4 l (.lst (acc ++ [y])))) ∧ (k = false → I (i + 1) acc W3)) ∧
      (∀ acc W', I ds.length acc W' → O (.p l) W')) : LcR X E XC elt tg iter ifs scope own g W O := by
  obtain ⟨wi, hi, hw⟩ := h
  obtain ⟨t, ht, hrun⟩ := tg_ok.ex
  have hif : ∃ tt : TT, (∀ (s : Shared) (H : Hp) (C : Addr) (cl : List (Str × Addr)) (fp : List Addr), PTs (Blk X scope s H C cl fp) ifs tt) ∧
      ∀ (g2 : Ga) (W2 : Om) (O2 : Bool → Om → Prop), (∀ (s : Shared) (H : Hp) (C : Addr) (cl : List (Str × Addr)) (fp : List Addr), XTs (Blk X scope s H C cl fp) ifs g2 W2 O2) →
        ∀ (σ : St) (H : Hp), RpS X.K H σ g2 → HpOk X.K H W2 → ∀ Q : Bool → Hp → Prop, (∀ b H' W', Kp H H' → HpOk X.K H' W' → O2 b W' → Q b H') → tt σ H Q := by
    match ifs with
    | [] => exact ⟨tYes, fun s H C cl fp => pts_nil, fun g2 W2 O2 h2 σ H r o Q q => q true H W2 (Kp.refl H) o (h2 X.s_0 H 0 [] [])⟩
    | [c] => exact ⟨fun σ H Q => ∀ (s : Shared) (H0 : Hp) (C : Addr) (cl : List (Str × Addr)) (fp : List Addr), ttW (Blk X scope s H0 C cl fp) c σ H Q,
        fun s H C cl fp => pts_one ⟨fun pins s1 σ H1 Q I h => h s H C cl fp pins s1 I⟩, fun g2 W2 O2 h2 σ H r o Q q s H0 C cl fp => h2 s H0 C cl fp σ H r o el0 Q q⟩
    | _ :: _ :: _ => exact ⟨fun _ _ _ => False, fun s H C cl fp => ⟨fun _ _ _ _ _ _ h => h.elim⟩, fun g2 W2 O2 h2 => (h2 X.s_0 (fun _ => none) 0 [] []).elim⟩
  obtain ⟨tt, htt, hit⟩ := hif
  refine ⟨wi, t, tt, fun σ H Q => ∀ (s : Shared) (H0 : Hp) (C : Addr) (cl : List (Str × Addr)) (fp : List Addr), tW (Blk X scope s H0 C cl fp) elt σ H Q, hi, ht, htt, (fun s H C cl fp => ⟨fun pins s1 σ H1 Q I h => h s H C cl fp pins s1 I⟩), fun σ H r k el Q q => ?_⟩
  refine hw σ H r k el _ fun J H1 ds okk W1 k1 o1 it h1 => ?_
  intro l hl
  obtain ⟨I, h0, hI, hz, hturn, hend⟩ := h1 l (o1.free hl)
  have kn : Kp H1 (upd H1 l (.lst [])) := Kp.new hl
  refine ⟨fun i m H2 => m = ds.length - i ∧ i ≤ ds.length ∧ ∃ acc W', Kp (upd H1 l (.lst [])) H2 ∧ HpOk X.K H2 W' ∧ I i acc W', ⟨ds.length, rfl, Nat.zero_le _, [], _, Kp.refl _, o1.new (o := .lst []) hl ⟨[], upd_same, .nil⟩, h0⟩, ?_⟩
  rintro i m H2 ⟨rfl, hil, acc, W', k2, o2, hi2⟩
  obtain ⟨hok, hlst, hacc⟩ := hI i acc W' hi2
  have kb : Kp H1 H2 := kn.trans k2
  obtain ⟨hgo, hst⟩ := it i H2 W' kb o2 hok
  by_cases hlt : i < ds.length
  · obtain ⟨go, hy⟩ := hgo hlt
    refine .inr ⟨go, fun H3 => ∃ acc3 W3, Kp (upd H1 l (.lst [])) H3 ∧ HpOk X.K H3 W3 ∧ I (i + 1) acc3 W3, fun H3 h3 => ⟨ds.length - (i + 1), by omega, rfl, hlt, h3⟩, fun x H' y => ?_⟩
    obtain ⟨k3, o3, d, hd, rx⟩ := hy x H' y
    obtain ⟨g2, hput, hx⟩ := hturn i d acc W' hd hi2
    refine hrun x d _ H' _ g2 _ (rpS_wipe (((r.kp k1).kp kb).kp k3) _) rx hput fun σ2 r2 hwp => ⟨?_, ?_⟩
    · rw [hwp]
      have hww : ∀ (vs : List Nat) (σ : St), wipe (wipe σ vs) vs = wipe σ vs := by
        intro vs
        have aux : ∀ (us : List Nat) (σ : St) (v : Nat), v ∈ us → (wipe σ us).set v none = wipe σ us := by
          intro us
          induction us with
          | nil => intro σ v hv; cases hv
          | cons u us ih =>
            intro σ v hv
            unfold wipe
            by_cases hvu : v = u
            · subst hvu; rw [List.set_set]
            · rcases List.mem_cons.mp hv with e | e
              · exact absurd e hvu
              · rw [List.set_comm _ _ (Ne.symm hvu), ih σ v e]
        have aux2 : ∀ (us vs : List Nat) (σ : St), (∀ u ∈ us, u ∈ vs) → wipe (wipe σ vs) us = wipe σ vs := by
          intro us vs
          induction us with
          | nil => intro σ _; rfl
          | cons u us ih =>
            intro σ hs
            show (wipe (wipe σ vs) us).set u none = wipe σ vs
            rw [ih σ (fun z hz => hs z (List.mem_cons_of_mem _ hz)), aux vs σ u (hs u List.mem_cons_self)]
        exact fun σ => aux2 vs vs σ fun _ h => h
      exact hww _ _
    · refine hit g2 W' _ hx σ2 H' r2 o3 _ fun b H4 W4 k4 o4 ⟨ha, hb⟩ => ?_
      cases b with
      | false => rw [if_neg Bool.false_ne_true]; exact ⟨acc, W4, (k2.trans k3).trans k4, o4, hb rfl⟩
      | true =>
        rw [if_pos rfl]
        intro s H0 C cl fp
        refine ha rfl s H0 C cl fp σ2 H4 (r2.kp k4) o4 el0 _ fun y H5 e W5 k5 o5 r5 ⟨h5, h6⟩ => ?_
        obtain ⟨xs, hxs, rxs⟩ := o5 l _ h5
        have kk : Kp H5 (upd H5 l (.lst (xs ++ [y]))) := Kp.at hxs (fun _ z => by cases z) (fun _ _ z => by cases z)
        refine ⟨xs, hxs, by rw [rxs.length]; omega, acc ++ [e], _, (((k2.trans k3).trans k4).trans k5).trans kk, o5.set kk (o := .lst (acc ++ [e])) ⟨_, upd_same, (rxs.append (.cons r5 .nil)).kp kk⟩, h6⟩
  · have e : i = ds.length := by omega
    subst e
    exact .inl ⟨hst (Nat.le_refl _), q _ H2 _ W' (k1.trans kb) o2 (.p l) (hend acc W' hi2)⟩
/-- the pure form: every item is read without a change; f says what comes of it (none: left out) -/
theorem lcP_R {elt tg iter : Expr} {ifs : List Expr} {scope : Scope} (own : List (Str × Nat)) {put : D → Ga → Option Ga} (tg_ok : LcTg X scope tg (own.map (·.2)) put)
    (h : XI X E XC tg iter g W fun ds okk W1 => (∀ W2, Sub W1 W2 → okk W2) ∧ ds.length ≤ sizeLine ∧ ∃ f : D → Option D,
      (∀ (i : Nat) d W2, ds[i]? = some d → Sub W1 W2 → ∃ g2, put d (wipeG g (own.map (·.2))) = some g2 ∧ ∀ (s : Shared) (H : Hp) (C : Addr) (cl : List (Str × Addr)) (fp : List Addr),
        XTs (Blk X scope s H C cl fp) ifs g2 W2 fun k W3 => Sub W2 W3 ∧ (k = true → ∀ (s : Shared) (H : Hp) (C : Addr) (cl : List (Str × Addr)) (fp : List Addr), XE (Blk X scope s H C cl fp) E0 XC0 elt g2 W3 fun y W4 => Sub W3 W4 ∧ f d = some y) ∧ (k = false → f d = none)) ∧
      (∀ l, W1 l = none → O (.p l) (updO W1 l (.lst (ds.filterMap f))))) : LcR X E XC elt tg iter ifs scope own g W O := by
  obtain ⟨wi, hi, hw⟩ := h
  -- the end may forget what the turns have laid
  have key : LcR X E XC elt tg iter ifs scope own g W fun d W' => ∃ W2, Sub W2 W' ∧ O d W2 := by
    refine lc_R own tg_ok ⟨wi, hi, fun σ H r k el R q => hw σ H r k el R fun J H' ds okk W1 k1 o1 it ⟨h1, hz, f, h2, h3⟩ => q J H' ds okk W1 k1 o1 it fun l hl => ?_⟩
    refine ⟨fun i acc W' => acc = (ds.take i).filterMap f ∧ Sub W1 W' ∧ W' l = some (.lst acc), ⟨rfl, Sub.new hl, updO_same⟩, fun i acc W' ⟨e, hs, hl'⟩ => ⟨h1 _ hs, hl', ?_⟩, hz, fun i d acc W' hd ⟨e, hs, hl'⟩ => ?_, fun acc W' ⟨e, hs, hl'⟩ => ?_⟩
    · rw [e]
      exact Nat.le_trans (List.length_filterMap_le _ _) (by rw [List.length_take]; exact Nat.min_le_left _ _)
    · obtain ⟨g2, hp, hx⟩ := h2 i d W' hd hs
      have step : ∀ o : Option D, f d = o → (ds.take (i + 1)).filterMap f = acc ++ o.toList := fun o eo => by
        rw [List.take_add_one, hd, List.filterMap_append, ← e]
        congr 1
        show List.filterMap f [d] = _
        rw [List.filterMap_cons, eo]
        cases o <;> rfl
      refine ⟨g2, hp, fun s H C cl fp => ?_⟩
      have conv : ∀ k W3, (Sub W' W3 ∧ (k = true → ∀ (s : Shared) (H : Hp) (C : Addr) (cl : List (Str × Addr)) (fp : List Addr), XE (Blk X scope s H C cl fp) E0 XC0 elt g2 W3 fun y W4 => Sub W3 W4 ∧ f d = some y) ∧ (k = false → f d = none)) →
          ((k = true → ∀ (s : Shared) (H : Hp) (C : Addr) (cl : List (Str × Addr)) (fp : List Addr), XE (Blk X scope s H C cl fp) E0 XC0 elt g2 W3 fun y W4 => W4 l = some (.lst acc) ∧ (acc ++ [y] = (ds.take (i + 1)).filterMap f ∧ Sub W1 (updO W4 l (.lst (acc ++ [y]))) ∧ updO W4 l (.lst (acc ++ [y])) l = some (.lst (acc ++ [y])))) ∧ (k = false → acc = (ds.take (i + 1)).filterMap f ∧ Sub W1 W3 ∧ W3 l = some (.lst acc))) := fun k W3 ⟨s3, ha, hb⟩ => by
        refine ⟨fun hk s H C cl fp σ H2 r2 o2 el2 Q2 q2 => ha hk s H C cl fp σ H2 r2 o2 el2 Q2 fun v H4 y W4 k4 o4 r4 ⟨s4, hy⟩ => q2 v H4 y W4 k4 o4 r4 ⟨s4 _ _ (s3 _ _ hl'), ?_, ?_, updO_same⟩, fun hk => ⟨?_, hs.trans s3, s3 _ _ hl'⟩⟩
        · rw [step _ hy]; rfl
        · intro b o eb
          rw [updO_ne (neO eb hl)]
          exact s4 _ _ (s3 _ _ (hs _ _ eb))
        · rw [step _ (hb hk)]; simp
      have hx1 := hx s H C cl fp
      match ifs, hx1 with
      | [], hx1 => exact conv true _ hx1
      | [c], hx1 => exact fun σ H2 r2 o2 el2 Q2 q2 => hx1 σ H2 r2 o2 el2 Q2 fun b H3 W3 k3 o3 h3 => q2 b H3 W3 k3 o3 (conv b W3 h3)
      | _ :: _ :: _, hx1 => exact hx1.elim
    · refine ⟨updO W1 l (.lst (ds.filterMap f)), fun b o eb => ?_, h3 l hl⟩
      by_cases hb : b = l
      · subst hb
        rw [updO_same] at eb
        cases eb
        rw [hl', e, List.take_length]
      · rw [updO_ne hb] at eb
        exact hs _ _ eb
  obtain ⟨wi2, t, tt, te, h1, h2, h3, h4, h5⟩ := key
  exact ⟨wi2, t, tt, te, h1, h2, h3, h4, fun σ H r k el Q q => h5 σ H r k el Q fun v H1 d W1 k1 o1 r1 ⟨W2, s2, h2⟩ => q v H1 d W2 k1 (o1.sub s2) r1 h2⟩
/-- a comprehension as a value -/
theorem xe_lcP {elt tg iter : Expr} {ifs : List Expr} {scope : Scope} (own : List (Str × Nat)) {put : D → Ga → Option Ga} (hN : X.N.Nodup) (tg_ok : LcTg X scope tg (own.map (·.2)) put) (ok : BlkOk X.N X.env.scope scope own)
    (h : XI X E XC tg iter g W fun ds okk W1 => (∀ W2, Sub W1 W2 → okk W2) ∧ ds.length ≤ sizeLine ∧ ∃ f : D → Option D,
      (∀ (i : Nat) d W2, ds[i]? = some d → Sub W1 W2 → ∃ g2, put d (wipeG g (own.map (·.2))) = some g2 ∧ ∀ (s : Shared) (H : Hp) (C : Addr) (cl : List (Str × Addr)) (fp : List Addr),
        XTs (Blk X scope s H C cl fp) ifs g2 W2 fun k W3 => Sub W2 W3 ∧ (k = true → ∀ (s : Shared) (H : Hp) (C : Addr) (cl : List (Str × Addr)) (fp : List Addr), XE (Blk X scope s H C cl fp) E0 XC0 elt g2 W3 fun y W4 => Sub W3 W4 ∧ f d = some y) ∧ (k = false → f d = none)) ∧
      (∀ l, W1 l = none → O (.p l) (updO W1 l (.lst (ds.filterMap f)))))
    (hc : X.calm = true := by rfl) (hs : ∀ x, foldedSetIterable iter X.env x = pure x := by intro _; rfl) : XE X E XC (.ListComp elt [⟨tg, iter, ifs, 0⟩] scope pos) g W O :=
  xe_lcR hN ok (lcP_R own tg_ok h) hc hs
theorem xe_lc {elt tg iter : Expr} {ifs : List Expr} {scope : Scope} (own : List (Str × Nat)) {put : D → Ga → Option Ga} (hN : X.N.Nodup) (tg_ok : LcTg X scope tg (own.map (·.2)) put) (ok : BlkOk X.N X.env.scope scope own)
    (h : XI X E XC tg iter g W fun ds okk W1 => ∀ l, W1 l = none → ∃ I : Nat → List D → Om → Prop, I 0 [] (updO W1 l (.lst [])) ∧ (∀ i acc W', I i acc W' → okk W' ∧ W' l = some (.lst acc) ∧ acc.length ≤ i) ∧ ds.length ≤ sizeLine ∧
      (∀ i d acc W', ds[i]? = some d → I i acc W' → ∃ g2, put d (wipeG g (own.map (·.2))) = some g2 ∧ ∀ (s : Shared) (H : Hp) (C : Addr) (cl : List (Str × Addr)) (fp : List Addr),
        XTs (Blk X scope s H C cl fp) ifs g2 W' fun k W3 => (k = true → ∀ (s : Shared) (H : Hp) (C : Addr) (cl : List (Str × Addr)) (fp : List Addr), XE (Blk X scope s H C cl fp) E0 XC0 elt g2 W3 fun y W4 => W4 l = some (.lst acc) ∧ I (i + 1) (acc ++ [y]) (updO W4 l (.lst (acc ++ [y])))) ∧ (k = false → I (i + 1) acc W3)) ∧
      (∀ acc W', I ds.length acc W' → O (.p l) W'))
    (hc : X.calm = true := by rfl) (hs : ∀ x, foldedSetIterable iter X.env x = pure x := by intro _; rfl) : XE X E XC (.ListComp elt [⟨tg, iter, ifs, 0⟩] scope pos) g W O :=
  xe_lcR hN ok (lc_R own tg_ok h) hc hs
end
end SR
namespace SR
open PySem PySem.Spec PyProof.Rows L2
/-- the built-ins' names are not bound by the text -/
structure Bi (mg : Str → Option Value) : Prop where
  isinstance : mg "isinstance" = none
  int : mg "int" = none
  bool : mg "bool" = none
  str : mg "str" = none
  tuple : mg "tuple" = none
  list : mg "list" = none
  len : mg "len" = none
  min : mg "min" = none
  max : mg "max" = none
  sum : mg "sum" = none
  all : mg "all" = none
  range : mg "range" = none
  set : mg "set" = none
section
variable {X : Cx} {E : XK} {XC : XCt} {g : Ga} {W : Om} {a b c : Expr} {pos : Pos} {O : OD}
/-! ### == of scalars -/
def eqS : D → D → Option Bool
  | .int i, .int j => some (decide (i = j))
  | .str i, .str j => some (decide (i = j))
  | .bl i, .bl j => some (decide (i = j))
  | .non, .non => some true
  | .non, .int _ => some false
  | .int _, .non => some false
  | .non, .bl _ => some false
  | .bl _, .non => some false
  | .non, .str _ => some false
  | .str _, .non => some false
  | .int _, .str _ => some false
  | .str _, .int _ => some false
  | _, _ => none
def EqS : R2D := fun d e W O => ∃ r, eqS d e = some r ∧ O (.bl r) W
def NeS : R2D := fun d e W O => ∃ r, eqS d e = some r ∧ O (.bl (!r)) W
theorem dec_inj {p q : Prop} [Decidable p] [Decidable q] (h : p ↔ q) : decide p = decide q := by
  by_cases hp : p
  · rw [decide_eq_true hp, decide_eq_true (h.mp hp)]
  · rw [decide_eq_false hp, decide_eq_false fun hq => hp (h.mpr hq)]
theorem eqS_ok {K : PySem.W.Frag} {H : Hp} {x y : V} {d e : D} {r : Bool} (rx : Rp K H x d) (ry : Rp K H y e) (h : eqS d e = some r) : scal x y = true ∧ decide (x = y) = r := by
  cases rx <;> cases ry <;> simp only [eqS, Option.some.injEq, reduceCtorEq] at h <;> subst h <;> refine ⟨rfl, ?_⟩ <;> first | rfl | exact dec_inj (by simp) | simp
theorem op2_eqS (K : PySem.W.Frag) : Op2 K rEq EqS := fun x y d e H W O Q rx ry o q ⟨r, h1, h2⟩ => by
  obtain ⟨a, b⟩ := eqS_ok rx ry h1
  exact ⟨a, by rw [b]; exact q _ H _ W (Kp.refl H) o (.bl _) h2⟩
theorem op2_neS (K : PySem.W.Frag) : Op2 K rNe NeS := fun x y d e H W O Q rx ry o q ⟨r, h1, h2⟩ => by
  obtain ⟨a, b⟩ := eqS_ok rx ry h1
  exact ⟨a, by rw [b]; exact q _ H _ W (Kp.refl H) o (.bl _) h2⟩
theorem xe_eqS (h : XE X E XC a g W fun d W1 => XE X E XC b g W1 fun e W2 => EqS d e W2 O) : XE X E XC (.Compare a [.Eq] [b] pos) g W O :=
  xe_of (pe_cmpR op_eq pe_W pe_W (nomark _)) (ex_op (op2_eqS X.K) h)
theorem xe_neS (h : XE X E XC a g W fun d W1 => XE X E XC b g W1 fun e W2 => NeS d e W2 O) : XE X E XC (.Compare a [.NotEq] [b] pos) g W O :=
  xe_of (pe_cmpR op_ne pe_W pe_W (nomark _)) (ex_op (op2_neS X.K) h)
theorem xt_eqS {O : Bool → Om → Prop} (h : XE X E XC a g W fun d W1 => XE X E XC b g W1 fun e W2 => EqS d e W2 (asB O)) : XT X E XC (.Compare a [.Eq] [b] pos) g W O :=
  xt_of (pt_cmpR op_eq pe_W pe_W (nomark _)) (exT_test (ex_op (op2_eqS X.K) h))
theorem xt_neS {O : Bool → Om → Prop} (h : XE X E XC a g W fun d W1 => XE X E XC b g W1 fun e W2 => NeS d e W2 (asB O)) : XT X E XC (.Compare a [.NotEq] [b] pos) g W O :=
  xt_of (pt_cmpR op_ne pe_W pe_W (nomark _)) (exT_test (ex_op (op2_neS X.K) h))
/-- continuation, weakened -/
theorem XE.imp {e : Expr} {O' : OD} (h : XE X E XC e g W O) (i : ∀ d W', O d W' → O' d W') : XE X E XC e g W O' := fun σ H r k el Q q => h σ H r k el Q fun v H1 d W1 k1 o1 r1 h1 => q v H1 d W1 k1 o1 r1 (i d W1 h1)
theorem XT.imp {e : Expr} {O O' : Bool → Om → Prop} (h : XT X E XC e g W O) (i : ∀ d W', O d W' → O' d W') : XT X E XC e g W O' := fun σ H r k el Q q => h σ H r k el Q fun b H1 W1 k1 o1 h1 => q b H1 W1 k1 o1 (i b W1 h1)
/-- the map, weakened ahead -/
theorem XE.sub {e : Expr} {W' : Om} (s : Sub W' W) (h : XE X E XC e g W' O) : XE X E XC e g W O := fun σ H r k el Q q => h σ H r (k.sub s) el Q q
theorem xt_and2 {O : Bool → Om → Prop} {b : Expr} (h : XT X E XC a g W fun k W1 => (k = true → XT X E XC b g W1 O) ∧ (k = false → O false W1)) : XT X E XC (.BoolOp .And [a, b] pos) g W O :=
  xt_w (xw_and (h.imp fun k W1 ⟨h1, h2⟩ => ⟨fun e => xw_and1 (h1 e), h2⟩))
theorem xt_or2 {O : Bool → Om → Prop} {b : Expr} (h : XT X E XC a g W fun k W1 => (k = false → XT X E XC b g W1 O) ∧ (k = true → O true W1)) : XT X E XC (.BoolOp .Or [a, b] pos) g W O :=
  xt_w (xw_or (h.imp fun k W1 ⟨h1, h2⟩ => ⟨fun e => xw_or1 (h1 e), h2⟩))
theorem xt_or3 {O : Bool → Om → Prop} {b c : Expr} (h : XT X E XC a g W fun k W1 => (k = false → XT X E XC b g W1 fun k2 W2 => (k2 = false → XT X E XC c g W2 O) ∧ (k2 = true → O true W2)) ∧ (k = true → O true W1)) : XT X E XC (.BoolOp .Or [a, b, c] pos) g W O :=
  xt_w (xw_or (h.imp fun k W1 ⟨h1, h2⟩ => ⟨fun e => xw_or ((h1 e).imp fun k2 W2 ⟨h3, h4⟩ => ⟨fun e2 => xw_or1 (h3 e2), h4⟩), h2⟩))
/-- what the reading has laid may be forgotten -/
theorem xe_shr {e : Expr} (h : XE X E XC e g W fun d W1 => ∃ W0, Sub W0 W1 ∧ O d W0) : XE X E XC e g W O := fun σ H r k el Q q => h σ H r k el Q fun v H1 d W1 k1 o1 r1 ⟨W0, s, h0⟩ => q v H1 d W0 k1 (o1.sub s) r1 h0
theorem xt_shr {e : Expr} {O : Bool → Om → Prop} (h : XT X E XC e g W fun d W1 => ∃ W0, Sub W0 W1 ∧ O d W0) : XT X E XC e g W O := fun σ H r k el Q q => h σ H r k el Q fun v H1 W1 k1 o1 ⟨W0, s, h0⟩ => q v H1 W0 k1 (o1.sub s) h0
/-! ### raise -/
/-- an own class of exceptions, over ValueError -/
structure ExC (K : PySem.W.Frag) (mg : Str → Option Value) (x : Str) (C : Addr) : Prop where
  q : PySem.W.excIn K C [.type "ValueError", .type "Exception", .type "BaseException", .type "object"] "ValueError.__new__" = true
  g : mg x = some (.ref C)
  k : PySem.W.keepIn K (.ref C) = true
  b : PySem.W.subIn K (.ref C) (.type "BaseException") = some true
  t : PySem.W.typeIn K (.ref C) = some (.type "type")
theorem xs_raise {x m : Str} {j : Nat} {p p2 pos pos2 : Pos} {C0 : Addr} {C : EndD} (c : ExC X.K X.mg x C0) (tk : Takes X (fun cls d _ H => E cls d H)) (h : XC C0 W) (hc : X.calm = true := by rfl) (hg : Gl X x := by rfl)
    (hdb : (x == ("__debug__" : Str)) = false := by decide) : XS X E XC (.Raise (some (.Call (.Name x p) [.Constant (.str m) j p2] [] pos)) none pos2) g W C :=
  xs_of (ps_raise hc tk (pmk_own PySem.F.excBase_ValueError c.q c.g c.k (raises_own c.b c.t) hg hdb)) fun D σ H r k el l => el C0 H W (Kp.refl H) k h
/-! ### name = [..] -/
end
end SR
namespace SR
open PySem PySem.Spec PyProof.Rows L2
section
variable {X : Cx} {E : XK} {XC : XCt} {g : Ga} {W : Om} {a b c : Expr} {pos : Pos} {O : OD}
/-- o[i] = v, o a list -/
theorem xg_sub {v : D} {O : Ga → Om → Prop} (h : XE X E0 XC0 a g W fun d W1 => XE X E0 XC0 b g W1 fun e W2 => ∃ l xs k j, d = .p l ∧ e = .int k ∧ W2 l = some (.lst xs) ∧ ixN xs.length k = some j ∧ O g (updO W2 l (.lst (xs.set j v))))
    (ha : ∀ v, assign (.Subscript a b pos) X.env v = (do
      let ov ← holding [v] (eval a X.env)
      let iv ← holding [v, ov] (eval b X.env)
      standAt pos
      holding [v, ov, iv] (setItem ov iv v)
      release [v, ov, iv] []) := by intro _; rfl) : XG X (.Subscript a b pos) v g W O := by
  intro vv σ H r k rv Q q pins s u I ru
  refine (pg_sub pe_W pe_W set_list ha).run pins s σ H vv u Q I ru ?_
  refine h σ H r k el0 _ fun x H1 d W1 k1 o1 r1 h1 => ?_
  refine h1 σ H1 (r.kp k1) o1 el0 _ fun y H2 e W2 k2 o2 r2 ⟨l, xs, m, j, e1, e2, hl, hj, h2⟩ => ?_
  subst e1 e2
  cases r1
  cases r2
  obtain ⟨us, hu, ru⟩ := o2 l _ hl
  have kk : Kp H2 (upd H2 l (.lst (us.set j vv))) := Kp.at hu (fun _ z => by cases z) (fun _ _ z => by cases z)
  refine ⟨l, us, m, j, rfl, rfl, hu, by rw [ru.length]; exact hj, ?_⟩
  exact q _ _ _ _ ((k1.trans k2).trans kk) (o2.set kk (o := .lst (xs.set j v)) ⟨_, upd_same, (RpAll.set ((rv.kp k1).kp k2) j ru).kp kk⟩) (((r.kp k1).kp k2).kp kk) h2
/-- low <= x <= high as a test -/
theorem xt_chain {O : Bool → Om → Prop} (h : XE X E XC a g W fun d W1 => XE X E XC b g W1 fun e W2 => ∃ i j, d = .int i ∧ e = .int j ∧ (i ≤ j → XE X E XC c g W2 fun f W3 => ∃ k, f = .int k ∧ O (decide (j ≤ k)) W3) ∧ (¬ i ≤ j → O false W2))
    (hm : lastMarks [.LtE, .LtE] [b, c] = false := by with_unfolding_all rfl) : XT X E XC (.Compare a [.LtE, .LtE] [b, c] pos) g W O := by
  refine xt_of (pt_chain op_le op_le pe_W pe_W pe_W hm) (exT_test fun σ H r k el Q q => ?_)
  refine h σ H r k el _ fun x H1 d W1 k1 o1 r1 h1 => ?_
  refine h1 σ H1 (r.kp k1) o1 (el.kp k1) _ fun y H2 e W2 k2 o2 r2 ⟨i, j, e1, e2, ha, hb⟩ => ?_
  subst e1 e2
  cases r1
  cases r2
  refine ⟨i, j, rfl, rfl, decide (i ≤ j), rfl, ?_⟩
  by_cases hij : i ≤ j
  · rw [if_pos (decide_eq_true hij)]
    refine ha hij σ H2 ((r.kp k1).kp k2) o2 ((el.kp k1).kp k2) _ fun z H3 f W3 k3 o3 r3 ⟨m, e3, h3⟩ => ?_
    subst e3
    cases r3
    exact ⟨j, m, rfl, rfl, q _ H3 _ W3 ((k1.trans k2).trans k3) o3 (.bl _) ⟨_, rfl, h3⟩⟩
  · rw [decide_eq_false hij, if_neg Bool.false_ne_true]
    exact q _ H2 _ W2 (k1.trans k2) o2 (.bl _) ⟨_, rfl, hb hij⟩
/-! ### is, is not of truth values -/
theorem op2_isB {K : PySem.W.Frag} : Op2 K rIsB (fun d e W O => ∃ a b : Bool, d = .bl a ∧ e = .bl b ∧ O (.bl (decide (a = b))) W) := by
  intro x y d e H W O Q rx ry o q ⟨i, j, e1, e2, h⟩
  subst e1 e2
  cases rx
  cases ry
  exact ⟨i, j, rfl, rfl, q _ H _ W (Kp.refl H) o (.bl _) h⟩
theorem op2_notB {K : PySem.W.Frag} : Op2 K rNotB (fun d e W O => ∃ a b : Bool, d = .bl a ∧ e = .bl b ∧ O (.bl (!decide (a = b))) W) := by
  intro x y d e H W O Q rx ry o q ⟨i, j, e1, e2, h⟩
  subst e1 e2
  cases rx
  cases ry
  exact ⟨i, j, rfl, rfl, q _ H _ W (Kp.refl H) o (.bl _) h⟩
theorem xe_isB (h : XE X E XC a g W fun d W1 => XE X E XC b g W1 fun e W2 => ∃ i j : Bool, d = .bl i ∧ e = .bl j ∧ O (.bl (decide (i = j))) W2) : XE X E XC (.Compare a [.Is] [b] pos) g W O :=
  xe_of (pe_cmpR op_isBl pe_W pe_W (nomark _)) (ex_op op2_isB h)
theorem xe_notB (h : XE X E XC a g W fun d W1 => XE X E XC b g W1 fun e W2 => ∃ i j : Bool, d = .bl i ∧ e = .bl j ∧ O (.bl (!decide (i = j))) W2) : XE X E XC (.Compare a [.IsNot] [b] pos) g W O :=
  xe_of (pe_cmpR op_notBl pe_W pe_W (nomark _)) (ex_op op2_notB h)
theorem xt_isB {O : Bool → Om → Prop} (h : XE X E XC a g W fun d W1 => XE X E XC b g W1 fun e W2 => ∃ i j : Bool, d = .bl i ∧ e = .bl j ∧ O (decide (i = j)) W2) : XT X E XC (.Compare a [.Is] [b] pos) g W O :=
  xt_of (pt_cmpR op_isBl pe_W pe_W (nomark _)) (exT_test (ex_op op2_isB (h.imp fun d W1 h1 => h1.imp fun e W2 ⟨i, j, e1, e2, h2⟩ => ⟨i, j, e1, e2, _, rfl, h2⟩)))
theorem xt_notB {O : Bool → Om → Prop} (h : XE X E XC a g W fun d W1 => XE X E XC b g W1 fun e W2 => ∃ i j : Bool, d = .bl i ∧ e = .bl j ∧ O (!decide (i = j)) W2) : XT X E XC (.Compare a [.IsNot] [b] pos) g W O :=
  xt_of (pt_cmpR op_notBl pe_W pe_W (nomark _)) (exT_test (ex_op op2_notB (h.imp fun d W1 h1 => h1.imp fun e W2 ⟨i, j, e1, e2, h2⟩ => ⟨i, j, e1, e2, _, rfl, h2⟩)))
/-! ### in, not in a list or tuple of ints -/
theorem inV_int {n : Int} : ∀ ns : List Int, inV (.int n) (ns.map V.int) = ns.contains n
  | [] => rfl
  | m :: r => by
    show ((m == n) || inV (.int n) (r.map V.int)) = (m :: r).contains n
    rw [inV_int r, List.contains_cons, Bool.beq_comm]
theorem flat_ints : ∀ ns : List Int, (ns.map V.int).all flatV = true
  | [] => rfl
  | m :: r => by rw [List.map_cons, List.all_cons, flat_ints r]; rfl
theorem op2_inI {K : PySem.W.Frag} {neg : Bool} : Op2 K (rIn K neg) (fun d e W O => ∃ (n : Int) (ns : List Int), d = .int n ∧ SeqD W e (ns.map D.int) ∧ O (.bl (if neg then !ns.contains n else ns.contains n)) W) := by
  intro x y d e H W O Q rx ry o q ⟨n, ns, e1, hs, h⟩
  subst e1
  cases rx
  obtain ⟨a, xs, rfl, hx, rx⟩ := seqD_sq o ry hs
  rw [rx.ints] at hx
  exact ⟨a, _, rfl, hx, rfl, flat_ints ns, by rw [inV_int]; exact q _ H _ W (Kp.refl H) o (.bl _) h⟩
theorem xe_inI (h : XE X E XC a g W fun d W1 => XE X E XC b g W1 fun e W2 => ∃ (n : Int) (ns : List Int), d = .int n ∧ SeqD W2 e (ns.map D.int) ∧ O (.bl (ns.contains n)) W2) (hm : behindInMarks .In b = false := by with_unfolding_all rfl) : XE X E XC (.Compare a [.In] [b] pos) g W O :=
  xe_of (pe_cmpR op_in_seq pe_W pe_W hm) (ex_op op2_inI h)
theorem xt_inI {O : Bool → Om → Prop} (h : XE X E XC a g W fun d W1 => XE X E XC b g W1 fun e W2 => ∃ (n : Int) (ns : List Int), d = .int n ∧ SeqD W2 e (ns.map D.int) ∧ O (ns.contains n) W2) (hm : behindInMarks .In b = false := by with_unfolding_all rfl) : XT X E XC (.Compare a [.In] [b] pos) g W O :=
  xt_of (pt_cmpR op_in_seq pe_W pe_W hm) (exT_test (ex_op op2_inI (h.imp fun d W1 h1 => h1.imp fun e W2 ⟨i, j, e1, e2, h2⟩ => ⟨i, j, e1, e2, _, rfl, h2⟩)))
theorem xt_notInI {O : Bool → Om → Prop} (h : XE X E XC a g W fun d W1 => XE X E XC b g W1 fun e W2 => ∃ (n : Int) (ns : List Int), d = .int n ∧ SeqD W2 e (ns.map D.int) ∧ O (!ns.contains n) W2) (hm : behindInMarks .NotIn b = false := by with_unfolding_all rfl) : XT X E XC (.Compare a [.NotIn] [b] pos) g W O :=
  xt_of (pt_cmpR op_notIn_seq pe_W pe_W hm) (exT_test (ex_op op2_inI (h.imp fun d W1 h1 => h1.imp fun e W2 ⟨i, j, e1, e2, h2⟩ => ⟨i, j, e1, e2, _, rfl, h2⟩)))
/-! ### list(range(a, b)), list(range(n)) -/
theorem rgV_rp {K : PySem.W.Frag} {H : Hp} (i j : Int) : RpAll K H (rgV i j) (rangeD i (j - i).toNat) := by
  unfold rgV rangeD
  generalize (List.range (j - i).toNat) = l
  induction l with
  | nil => exact .nil
  | cons x r ih => exact .cons (.int _) ih
theorem xe_listRg2 {e f : Expr} {p p2 pos2 : Pos} (hm : X.mg "list" = none) (hr : X.mg "range" = none) (h : XE X E XC e g W fun d W1 => XE X E XC f g W1 fun d2 W2 => ∃ i j : Int, d = .int i ∧ d2 = .int j ∧ RgOk i j ∧ ∀ l, W2 l = none → O (.p l) (updO W2 l (.lst (rangeD i (j - i).toNat))))
    (hc : X.calm = true := by rfl) (hg : Gl X "list" := by rfl) (hg2 : Gl X "range" := by rfl) (na : starEach [.Call (.Name "range" p2) [e, f] [] pos2] X.env = (false, eval (.Call (.Name "range" p2) [e, f] [] pos2) X.env) :: starEach [] X.env := by rfl)
    (ha : starEach [e, f] X.env = (false, eval e X.env) :: starEach [f] X.env := by rfl) (hb : starEach [f] X.env = (false, eval f X.env) :: starEach [] X.env := by rfl) (hp : (backTo pos2 (starEach [f] X.env)).any (·.1) = false := by rfl) :
    XE X E XC (.Call (.Name "list" p) [.Call (.Name "range" p2) [e, f] [] pos2] [] pos) g W O := by
  refine xe_of (pe_listRg hc hg hm (prg_2 hg2 hr pe_W pe_W ha hb hp) na) fun σ H r k el Q q => ?_
  refine h σ H r k el _ fun x H1 d W1 k1 o1 r1 h1 => ?_
  refine h1 σ H1 (r.kp k1) o1 (el.kp k1) _ fun y H2 e W2 k2 o2 r2 ⟨i, j, e1, e2, hok, h2⟩ => ?_
  subst e1 e2
  cases r1
  cases r2
  exact ⟨i, j, rfl, rfl, hok, fun p hp => q _ _ _ _ ((k1.trans k2).trans (Kp.new hp)) (o2.new (o := .lst (rangeD i (j - i).toNat)) hp ⟨_, upd_same, rgV_rp i j⟩) (.p p) (h2 p (o2.free hp))⟩
/-! ### max, min of a list of ints -/
theorem xe_maxL {p : Pos} (hm : X.mg "max" = none) (h : XE X E XC a g W fun d W1 => ∃ (l : Addr) (ns : List Int), d = .p l ∧ W1 l = some (.lst (ns.map D.int)) ∧ 0 < ns.length ∧ ∀ m, m ∈ ns → (∀ y, y ∈ ns → y ≤ m) → O (.int m) W1) (hc : X.calm = true := by rfl) (hg : Gl X "max" := by rfl) (hs : starEach [a] X.env = (false, eval a X.env) :: starEach [] X.env := by rfl) (hp : (backTo pos (starEach [] X.env)).any (·.1) = false := by rfl) :
    XE X E XC (.Call (.Name "max" p) [a] [] pos) g W O := by
  refine xe_callB (cr_max hc) hm (by decide +kernel) (xa1 (h.imp fun d W1 h1 => ?_) hs) hg (hs := hs) (hp := hp)
  intro vs H2 Q2 r2 o2 q2
  obtain ⟨l, ns, rfl, hl, hn, h2⟩ := h1
  cases r2 with
  | cons rv rn =>
    cases rn
    cases rv
    obtain ⟨xs, h3, h4⟩ := o2 l _ hl
    rw [h4.ints] at h3
    exact ⟨l, ns, rfl, .of h3, hn, fun m h5 h6 => q2 _ H2 _ W1 (Kp.refl _) o2 (.int _) (h2 m h5 h6)⟩
theorem xe_minL {p : Pos} (hm : X.mg "min" = none) (h : XE X E XC a g W fun d W1 => ∃ (l : Addr) (ns : List Int), d = .p l ∧ W1 l = some (.lst (ns.map D.int)) ∧ 0 < ns.length ∧ ∀ m, m ∈ ns → (∀ y, y ∈ ns → m ≤ y) → O (.int m) W1) (hc : X.calm = true := by rfl) (hg : Gl X "min" := by rfl) (hs : starEach [a] X.env = (false, eval a X.env) :: starEach [] X.env := by rfl) (hp : (backTo pos (starEach [] X.env)).any (·.1) = false := by rfl) :
    XE X E XC (.Call (.Name "min" p) [a] [] pos) g W O := by
  refine xe_callB (cr_min hc) hm (by decide +kernel) (xa1 (h.imp fun d W1 h1 => ?_) hs) hg (hs := hs) (hp := hp)
  intro vs H2 Q2 r2 o2 q2
  obtain ⟨l, ns, rfl, hl, hn, h2⟩ := h1
  cases r2 with
  | cons rv rn =>
    cases rn
    cases rv
    obtain ⟨xs, h3, h4⟩ := o2 l _ hl
    rw [h4.ints] at h3
    exact ⟨l, ns, rfl, .of h3, hn, fun m h5 h6 => q2 _ H2 _ W1 (Kp.refl _) o2 (.int _) (h2 m h5 h6)⟩
end
/-! ### == of data, by plain equality -/
mutual
/-- no truth value within: then == is equality -/
def nob : PyData → Bool
  | .none => true
  | .int _ => true
  | .str _ => true
  | .list xs => nobs xs
  | .tuple xs => nobs xs
  | _ => false
def nobs : List PyData → Bool
  | [] => true
  | x :: xs => nob x && nobs xs
end
mutual
theorem eqv_iff : ∀ (x y : PyData), nob x = true → nob y = true → (PyData.eqv x y = true ↔ x = y)
  | .none, y, _, hy => by cases y <;> simp_all [PyData.eqv, nob]
  | .int i, y, _, hy => by cases y <;> simp_all [PyData.eqv, nob]
  | .str i, y, _, hy => by cases y <;> simp_all [PyData.eqv, nob]
  | .list xs, y, hx, hy => by
    cases y with
    | list ys => rw [PyData.eqv, eqvs_iff xs ys (by simpa [nob] using hx) (by simpa [nob] using hy)]; simp
    | _ => simp_all [PyData.eqv, nob]
  | .tuple xs, y, hx, hy => by
    cases y with
    | tuple ys => rw [PyData.eqv, eqvs_iff xs ys (by simpa [nob] using hx) (by simpa [nob] using hy)]; simp
    | _ => simp_all [PyData.eqv, nob]
  | .bool _, _, hx, _ => by simp [nob] at hx
  | .dict _, _, hx, _ => by simp [nob] at hx
theorem eqvs_iff : ∀ (xs ys : List PyData), nobs xs = true → nobs ys = true → (PyData.eqvAll xs ys = true ↔ xs = ys)
  | [], [], _, _ => by simp [PyData.eqvAll]
  | [], _ :: _, _, _ => by simp [PyData.eqvAll]
  | _ :: _, [], _, _ => by simp [PyData.eqvAll]
  | x :: xs, y :: ys, hx, hy => by
    simp only [nobs, Bool.and_eq_true] at hx hy
    rw [PyData.eqvAll, Bool.and_eq_true, eqv_iff x y hx.1 hy.1, eqvs_iff xs ys hx.2 hy.2]
    simp
end
end SR
namespace SR
open PySem PySem.Spec PyProof.Rows L2
/-! ### == of plain data: equality -/
inductive Pln : Nat → D → Prop
  | int {n : Nat} (i : Int) : Pln n (.int i)
  | non {n : Nat} : Pln n .non
  | str {n : Nat} {x : Str} : PyData.strOk x = true → Pln n (.str x)
  | tup {n : Nat} {xs : List D} : (∀ x ∈ xs, Pln n x) → Pln (n + 1) (.tup xs)
structure PlnP (n : Nat) (y : PyData) : Prop where
  lay : PyData.canLay0 y = true
  dep : y.depth ≤ n
  nb : nob y = true
theorem toPs_of {n : Nat} : ∀ {xs : List D}, (∀ x ∈ xs, ∃ y, toP x = some y ∧ PlnP n y) → ∃ ys, toPs xs = some ys ∧ PyData.canLayAll0 ys = true ∧ PyData.depthAll ys ≤ n ∧ nobs ys = true
  | [], _ => ⟨[], by simp [toPs], by simp [PyData.canLayAll0], by simp [PyData.depthAll], by simp [nobs]⟩
  | x :: xs, h => by
    obtain ⟨y, h1, h2⟩ := h x List.mem_cons_self
    obtain ⟨ys, h3, h4, h5, h6⟩ := toPs_of fun z hz => h z (List.mem_cons_of_mem _ hz)
    refine ⟨y :: ys, by simp only [toPs, h1, h3], ?_, ?_, ?_⟩
    · rw [PyData.canLayAll0, h2.lay, h4]; rfl
    · rw [PyData.depthAll]; have := h2.dep; omega
    · rw [nobs, h2.nb, h6]; rfl
theorem Pln.toP {n : Nat} {d : D} (h : Pln n d) : ∃ y, SR.toP d = some y ∧ PlnP n y := by
  induction h with
  | int i => exact ⟨.int i, by simp [SR.toP], by simp [PyData.canLay0], by simp [PyData.depth], by simp [nob]⟩
  | non => exact ⟨.none, by simp [SR.toP], by simp [PyData.canLay0], by simp [PyData.depth], by simp [nob]⟩
  | @str n x hx => exact ⟨.str x, by simp [SR.toP], by simpa [PyData.canLay0] using hx, by simp [PyData.depth], by simp [nob]⟩
  | @tup n xs h ih =>
    obtain ⟨ys, h3, h4, h5, h6⟩ := toPs_of ih
    refine ⟨.tuple ys, by simp only [SR.toP, h3, Option.map_some], ?_, ?_, ?_⟩
    · rw [PyData.canLay0]; exact h4
    · rw [PyData.depth]; omega
    · rw [nob]; exact h6
theorem toPs_len : ∀ {xs : List D} {ys : List PyData}, toPs xs = some ys → xs.length = ys.length
  | [], _, h => by simp [toPs] at h; subst h; rfl
  | x :: xs, ys, h => by
    simp only [toPs] at h
    split at h
    · rename_i y zs _ h2
      simp only [Option.some.injEq] at h
      subst h
      rw [List.length_cons, List.length_cons, toPs_len h2]
    · cases h
theorem toPs_cons {x : D} {xs : List D} {ys : List PyData} (h : toPs (x :: xs) = some ys) : ∃ y zs, ys = y :: zs ∧ SR.toP x = some y ∧ toPs xs = some zs := by
  simp only [toPs] at h
  split at h
  · rename_i y zs h1 h2
    simp only [Option.some.injEq] at h
    exact ⟨y, zs, h.symm, h1, h2⟩
  · cases h
theorem toPs_inj {n : Nat} : ∀ {xs zs : List D} {ys : List PyData}, (∀ x ∈ xs, ∀ e y m, Pln m e → SR.toP x = some y → SR.toP e = some y → x = e) → (∀ z ∈ zs, Pln n z) → toPs xs = some ys → toPs zs = some ys → xs = zs
  | [], [], _, _, _, _, _ => rfl
  | [], z :: zs, ys, _, _, h1, h2 => by
    have a := toPs_len h1; have b := toPs_len h2
    rw [List.length_cons] at b; simp at a; omega
  | x :: xs, [], ys, _, _, h1, h2 => by
    have a := toPs_len h1; have b := toPs_len h2
    rw [List.length_cons] at a; simp at b; omega
  | x :: xs, z :: zs, ys, hi, hz, h1, h2 => by
    obtain ⟨y, r, rfl, a1, a2⟩ := toPs_cons h1
    obtain ⟨y2, r2, e, b1, b2⟩ := toPs_cons h2
    cases e
    rw [hi x List.mem_cons_self z y n (hz z List.mem_cons_self) a1 b1, toPs_inj (fun u hu => hi u (List.mem_cons_of_mem _ hu)) (fun u hu => hz u (List.mem_cons_of_mem _ hu)) a2 b2]
theorem Pln.inj {n : Nat} {d : D} (h : Pln n d) : ∀ e y m, Pln m e → SR.toP d = some y → SR.toP e = some y → d = e := by
  induction h with
  | int i =>
    intro e y m he h1 h2
    simp only [SR.toP, Option.some.injEq] at h1
    subst h1
    cases he with
    | int j => simp only [SR.toP, Option.some.injEq, PyData.int.injEq] at h2; rw [h2]
    | non => simp [SR.toP] at h2
    | str _ => simp [SR.toP] at h2
    | @tup k xs _ => simp only [SR.toP] at h2; cases q : toPs xs <;> rw [q] at h2 <;> simp at h2
  | non =>
    intro e y m he h1 h2
    simp only [SR.toP, Option.some.injEq] at h1
    subst h1
    cases he with
    | int j => simp [SR.toP] at h2
    | non => rfl
    | str _ => simp [SR.toP] at h2
    | @tup k xs _ => simp only [SR.toP] at h2; cases q : toPs xs <;> rw [q] at h2 <;> simp at h2
  | str hx =>
    intro e y m he h1 h2
    simp only [SR.toP, Option.some.injEq] at h1
    subst h1
    cases he with
    | int j => simp [SR.toP] at h2
    | non => simp [SR.toP] at h2
    | str _ => simp only [SR.toP, Option.some.injEq, PyData.str.injEq] at h2; rw [h2]
    | @tup k xs _ => simp only [SR.toP] at h2; cases q : toPs xs <;> rw [q] at h2 <;> simp at h2
  | @tup n xs h ih =>
    intro e y m he h1 h2
    simp only [SR.toP] at h1
    cases q : toPs xs with
    | none => rw [q] at h1; cases h1
    | some ys =>
      rw [q] at h1
      simp only [Option.map_some, Option.some.injEq] at h1
      subst h1
      cases he with
      | int j => simp [SR.toP] at h2
      | non => simp [SR.toP] at h2
      | str _ => simp [SR.toP] at h2
      | @tup k zs hz =>
        simp only [SR.toP] at h2
        cases q2 : toPs zs with
        | none => rw [q2] at h2; cases h2
        | some ws =>
          rw [q2] at h2
          simp only [Option.map_some, Option.some.injEq, PyData.tuple.injEq] at h2
          subst h2
          rw [toPs_inj ih hz q q2]
theorem PlnP.shaped {n : Nat} {y : PyData} (h : PlnP n y) (hn : n ≤ 64) : SeqAt.shaped y = true := by
  unfold SeqAt.shaped
  rw [h.lay, Bool.true_and]
  exact decide_eq_true (by have := h.dep; omega)
theorem Pln.topP {n : Nat} {d : D} (W : Om) (h : Pln n d) : ∃ y, SR.topP W d = some y ∧ SR.toP d = some y ∧ PlnP n y := by
  obtain ⟨y, h1, h2⟩ := h.toP
  exact ⟨y, by cases h <;> exact h1, h1, h2⟩
section
variable {X : Cx} {E : XK} {XC : XCt} {g : Ga} {W : Om} {a b c : Expr} {pos : Pos} {O : OD}
theorem eqD_pln {n m : Nat} {d e : D} (hd : Pln n d) (he : Pln m e) (hn : n ≤ 64) (hm : m ≤ 64) (h1 : d = e → O (.bl true) W) (h2 : d ≠ e → O (.bl false) W) : EqD d e W O := by
  obtain ⟨y, a1, a2, a3⟩ := hd.topP W
  obtain ⟨z, b1, b2, b3⟩ := he.topP W
  refine ⟨y, z, a1, b1, a3.shaped hn, b3.shaped hm, ?_⟩
  cases q : PyData.eqv y z with
  | true =>
    have := (eqv_iff y z a3.nb b3.nb).mp q
    subst this
    exact h1 (hd.inj e y m he a2 b2)
  | false =>
    refine h2 fun z' => ?_
    subst z'
    rw [a2] at b2
    cases b2
    rw [(eqv_iff y y a3.nb a3.nb).mpr rfl] at q
    cases q
theorem neD_pln {n m : Nat} {d e : D} (hd : Pln n d) (he : Pln m e) (hn : n ≤ 64) (hm : m ≤ 64) (h1 : d = e → O (.bl false) W) (h2 : d ≠ e → O (.bl true) W) : NeD d e W O := by
  obtain ⟨y, z, a, b, c, d, h⟩ := eqD_pln (O := fun d W => ∀ r, d = .bl r → O (.bl (!r)) W) (W := W) hd he hn hm (fun e r er => by cases er; exact h1 e) (fun e r er => by cases er; exact h2 e)
  exact ⟨y, z, a, b, c, d, h _ rfl⟩
/-- two lists of plain data -/
theorem topP_lst {n : Nat} {l : Addr} {xs : List D} (hl : W l = some (.lst xs)) (h : ∀ x ∈ xs, Pln n x) : ∃ ys, SR.topP W (.p l) = some (.list ys) ∧ toPs xs = some ys ∧ PlnP (n + 1) (.list ys) := by
  obtain ⟨ys, h3, h4, h5, h6⟩ := toPs_of fun x hx => (h x hx).toP
  refine ⟨ys, by simp only [SR.topP, hl, h3, Option.map_some], h3, ?_, ?_, ?_⟩
  · rw [PyData.canLay0]; exact h4
  · rw [PyData.depth]; omega
  · rw [nob]; exact h6
theorem eqD_lst {n m : Nat} {l k : Addr} {xs ys : List D} (hl : W l = some (.lst xs)) (hk : W k = some (.lst ys)) (hx : ∀ x ∈ xs, Pln n x) (hy : ∀ y ∈ ys, Pln m y) (hn : n ≤ 60) (hm : m ≤ 60) (h1 : xs = ys → O (.bl true) W) (h2 : xs ≠ ys → O (.bl false) W) : EqD (.p l) (.p k) W O := by
  obtain ⟨us, a1, a2, a3⟩ := topP_lst hl hx
  obtain ⟨vs, b1, b2, b3⟩ := topP_lst hk hy
  refine ⟨_, _, a1, b1, a3.shaped (by omega), b3.shaped (by omega), ?_⟩
  cases q : PyData.eqv (.list us) (.list vs) with
  | true =>
    have := (eqv_iff _ _ a3.nb b3.nb).mp q
    cases this
    exact h1 (toPs_inj (fun x hx' => (hx x hx').inj) hy a2 b2)
  | false =>
    refine h2 fun z' => ?_
    subst z'
    rw [a2] at b2
    cases b2
    rw [(eqv_iff _ _ a3.nb a3.nb).mpr rfl] at q
    cases q
theorem neD_lst {n m : Nat} {l k : Addr} {xs ys : List D} (hl : W l = some (.lst xs)) (hk : W k = some (.lst ys)) (hx : ∀ x ∈ xs, Pln n x) (hy : ∀ y ∈ ys, Pln m y) (hn : n ≤ 60) (hm : m ≤ 60) (h1 : xs = ys → O (.bl false) W) (h2 : xs ≠ ys → O (.bl true) W) : NeD (.p l) (.p k) W O := by
  obtain ⟨y, z, a, b, c, d, h⟩ := eqD_lst (O := fun d W => ∀ r, d = .bl r → O (.bl (!r)) W) hl hk hx hy hn hm (fun e r er => by cases er; exact h1 e) (fun e r er => by cases er; exact h2 e)
  exact ⟨y, z, a, b, c, d, h _ rfl⟩
end
theorem pln_ints (n : Nat) (ms : List Int) : Pln (n + 1) (.tup (ms.map D.int)) := .tup fun x hx => by
  obtain ⟨m, _, rfl⟩ := List.mem_map.mp hx
  exact .int m
end SR
namespace SR
open PySem PySem.Spec PyProof.Rows L2
/-! ### min of a tuple of ints -/
theorem min_tup {prog : Program} {w : World} {A : Around} {E : Value → Shared → Prop} {s : Shared} {t : Addr} {its : List Value} {ns : List Int} {Q : Value → Shared → Prop} (hh : A.handled = none) (ht : IsTup s.heap t its.toArray) (hi : IntsAre its ns) (hne : 0 < ns.length)
    (h : ∀ h' tk M t', (∀ b o, s.heap.get? b = some o → h'.get? b = some o) → M ∈ ns → (∀ a, a ∈ ns → M ≤ a) → Q (.int M t') { s with heap := h', toks := tk }) : wpAny (model prog w) A (call (.builtin "min") [.ref t]) Q E s := by
  obtain ⟨xs, e⟩ := hi.allInts.items
  have hn : numsOf (intItems xs).toList = ns := by rw [← e]; exact hi.numsOf
  rw [nums_intItems] at hn
  subst hn
  rw [e] at ht
  have hsz : 0 < xs.size := by simpa using hne
  have hlt : t < s.heap.objs.size := ht.lt
  have htT : s.heap.IsTuple t (intItems xs) := ht
  refine call_min_walk (wpAny_pyIter_tuple htT ?_)
  refine ⟨_, _, _, _, _, _, _, rfl, Walks.tuple (A := A.in1) hh _ t (Nat.ne_of_lt hlt) (intItems xs), ⟨⟨_, Heap.get?_push_size _ rfl, rfl, rfl⟩, ht.push _⟩, ?_, by simpa [intItems] using hsz, CmpOf.ints_lt (numAt xs) (fun _ _ => intItems_at), fun v h' tk hP hk => ?_⟩
  · intro b hb
    have hsz : (s.heap.push { cls := .type "tuple_iterator", data := .fields #[.ref t, .int 0 0] }).objs.size = s.heap.objs.size + 1 := Heap.size_push _ _
    simp only [List.mem_cons, List.not_mem_nil, or_false] at hb
    rcases hb with rfl | rfl
    · show _ < (s.heap.push _).objs.size
      rw [hsz]; exact Nat.lt_succ_self _
    · show _ < (s.heap.push _).objs.size
      rw [hsz]; exact Nat.lt_succ_of_lt hlt
  · have hv : (intItems xs)[argBest (fun i j => decide (numAt xs i < numAt xs j)) (xs.size - 1)]? = some v := by simpa [intItems] using hP
    obtain ⟨tt, rfl⟩ := intItems_at hv
    obtain ⟨h1, h2⟩ := argBest_lt (numAt xs) (xs.size - 1)
    refine h h' tk _ tt (fun b o e => hk b o (by simpa using Nat.ne_of_lt (Heap.lt_size e)) (Heap.get?_push_of_some _ e)) ?_ fun a ha => ?_
    · rw [numAt_eq]; exact PySem.getD_mem (by rw [List.length_map, Array.length_toList]; omega)
    · obtain ⟨j, hj, rfl⟩ := mem_getD ha
      rw [List.length_map, Array.length_toList] at hj
      rw [← numAt_eq]; exact h2 j (by omega)
section
variable {X : Cx} {E : XK} {XC : XCt} {g : Ga} {W : Om} {a b c : Expr} {pos : Pos} {O : OD}
def rMinT (K : PySem.W.Frag) : List V → Hp → VK → Prop := fun vs H Q => ∃ (a : Addr) (ns : List Int), vs = [V.ref a] ∧ SqT K H a (ns.map V.int) ∧ 0 < ns.length ∧ ∀ m, m ∈ ns → (∀ y, y ∈ ns → m ≤ y) → Q (.int m) H
theorem cr_minT (hc : X.calm = true) : CallR X (.builtin "min") (rMinT X.K) := by
  intro pins s σ H vs us Q I r h
  obtain ⟨a, ns, rfl, hs, hne, q⟩ := h
  obtain ⟨its, rv, hl, _⟩ := I.tuple hs
  rw [Vals.ref1 r]
  exact min_tup (I.ok.hd hc) hl rv.ints hne fun h' tk m t' hk h1 h2 => ⟨.int _, H, I.kept hk, ⟨_, rfl⟩, q m h1 h2⟩
theorem xe_minT {p : Pos} (hm : X.mg "min" = none) (h : XE X E XC a g W fun d W1 => ∃ ns : List Int, d = .tup (ns.map D.int) ∧ 0 < ns.length ∧ ∀ m, m ∈ ns → (∀ y, y ∈ ns → m ≤ y) → O (.int m) W1) (hc : X.calm = true := by rfl) (hg : Gl X "min" := by rfl) (hs : starEach [a] X.env = (false, eval a X.env) :: starEach [] X.env := by rfl) (hp : (backTo pos (starEach [] X.env)).any (·.1) = false := by rfl) :
    XE X E XC (.Call (.Name "min" p) [a] [] pos) g W O := by
  refine xe_callB (cr_minT hc) hm (by decide +kernel) (xa1 (h.imp fun d W1 h1 => ?_) hs) hg (hs := hs) (hp := hp)
  intro vs H2 Q2 r2 o2 q2
  obtain ⟨ns, rfl, hn, h2⟩ := h1
  cases r2 with
  | cons rv rn =>
    cases rn
    cases rv with
    | @tup l xs _ h3 h4 =>
      rw [h4.ints] at h3
      exact ⟨l, ns, rfl, .of h3, hn, fun m h5 h6 => q2 _ H2 _ W1 (Kp.refl _) o2 (.int _) (h2 m h5 h6)⟩
end
end SR
namespace SR
open PySem PySem.Spec PyProof.Rows L2
/-- what the dict holds at k -/
def lookN (kvs : List (NestedKey × D)) (k : NestedKey) : Option D := (kvs.find? fun p => decide (p.1 = k)).map (·.2)
def putN (kvs : List (NestedKey × D)) (k : NestedKey) (d : D) : List (NestedKey × D) :=
  if (lookN kvs k).isSome then kvs.map fun p => if p.1 = k then (p.1, d) else p else kvs ++ [(k, d)]
theorem length_putN (kvs : List (NestedKey × D)) (k : NestedKey) (d : D) : (putN kvs k d).length ≤ kvs.length + 1 := by
  unfold putN; split
  · rw [List.length_map]; omega
  · simp
section
variable {P : Program} {w : World} {K : PySem.W.Frag} {H H' : Hp} {h : Heap} {a : Addr}
mutual
theorem nested_of (ok : HOk P w H h) : ∀ (k : NestedKey) {v : V} {u : Value}, Rp K H v (kD k) → RelV v u → NestedIs h k u
  | .none, v, u, r, ru => by
    unfold kD at r; cases r
    cases (show u = Value.none from ru); exact .none
  | .num i, v, u, r, ru => by
    unfold kD at r; cases r
    obtain ⟨t, rfl⟩ := ru; exact .int i t
  | .text x, v, u, r, ru => by
    unfold kD at r; cases r
    obtain ⟨t, rfl⟩ := ru; exact .text x t
  | .tup ks, v, u, r, ru => by
    unfold kD at r
    cases r with
    | @tup a xs _ h1 h2 =>
      cases (show u = Value.ref a from ru)
      obtain ⟨_, its, rv, o, e1, e2, n, e3⟩ := (show ObjOk P w H h a (.tup xs) from ok a _ h1)
      exact .tup e1 e2 e3 (nested_all ok ks h2 rv)
theorem nested_all (ok : HOk P w H h) : ∀ (ks : List NestedKey) {xs : List V} {us : List Value}, RpAll K H xs (kDs ks) → Vals xs us → NestedAll h ks us
  | [], xs, us, r, ru => by
    unfold kDs at r; cases r; cases ru; exact .nil
  | k :: ks, xs, us, r, ru => by
    unfold kDs at r
    cases r with
    | cons r1 r2 =>
      cases ru with
      | cons u1 u2 => exact .cons (nested_of ok k r1 u1) (nested_all ok ks r2 u2)
end
theorem kt_val {kvs : List (NestedKey × D)} {xs : List (NestedKey × Addr × Value)} (r : KTn K H kvs xs) (k : NestedKey) :
    (lookN kvs k = none ∧ atKey xs k = none) ∨ ∃ d q v, lookN kvs k = some d ∧ atKey xs k = some q ∧ RelV v q.2 ∧ Rp K H v d := by
  induction r with
  | nil => exact .inl ⟨rfl, rfl⟩
  | @cons p q ps qs hq t ih =>
    obtain ⟨e, _, _, v, rv, rd⟩ := hq
    by_cases hk : p.1 = k
    · refine .inr ⟨p.2, q.2, v, ?_, ?_, rv, rd⟩
      · simp [lookN, List.find?_cons, hk]
      · simp [atKey, List.find?_cons, ← e, hk]
    · have e1 : lookN (p :: ps) k = lookN ps k := by simp [lookN, List.find?_cons, hk]
      have e2 : atKey (q :: qs) k = atKey qs k := by simp [atKey, List.find?_cons, ← e, hk]
      rw [e1, e2]; exact ih
theorem kt_put {kvs : List (NestedKey × D)} {xs : List (NestedKey × Addr × Value)} (r : KTn K H kvs xs) {k : NestedKey} {b : Addr} {v : V} {u : Value} {d : D} (hk : k.depth ≤ 8) (rb : Rp K H (.ref b) (kD k)) (rv : RelV v u) (rd : Rp K H v d) :
    KTn K H (putN kvs k d) (storedH xs k b u) := by
  unfold putN storedH
  have hs : (lookN kvs k).isSome = (atKey xs k).isSome := by
    rcases kt_val r k with ⟨a, b⟩ | ⟨_, _, _, a, b, _⟩ <;> rw [a, b] <;> rfl
  rw [hs]
  split
  · have rep : ∀ {l : List (NestedKey × D)} {m : List (NestedKey × Addr × Value)}, KTn K H l m → KTn K H (l.map fun p => if p.1 = k then (p.1, d) else p) (m.map (putAt k u)) := by
      intro l m q
      induction q with
      | nil => exact .nil
      | @cons p q ps qs hq t ih =>
        refine .cons ?_ ih
        obtain ⟨e, h8, ra, v', rv', rd'⟩ := hq
        show (fun (p : NestedKey × D) (q : NestedKey × Addr × Value) => p.1 = q.1 ∧ p.1.depth ≤ 8 ∧ Rp K H (.ref q.2.1) (kD p.1) ∧ ∃ v, RelV v q.2.2 ∧ Rp K H v p.2) (if p.1 = k then (p.1, d) else p) (putAt k u q)
        unfold putAt
        by_cases hk : p.1 = k
        · rw [if_pos hk, if_pos (e ▸ hk)]
          exact ⟨e, h8, ra, v, rv, rd⟩
        · rw [if_neg hk, if_neg (e ▸ hk)]
          exact ⟨e, h8, ra, v', rv', rd'⟩
    exact rep r
  · have app : ∀ {l : List (NestedKey × D)} {m : List (NestedKey × Addr × Value)}, KTn K H l m → KTn K H (l ++ [(k, d)]) (m ++ [(k, b, u)]) := by
      intro l m q
      induction q with
      | nil => exact .cons ⟨rfl, hk, rb, v, rv, rd⟩ .nil
      | cons hq t ih => exact .cons hq ih
    exact app r
theorem dictH (ok : HOk P w H h) {kvs : List (NestedKey × D)} {xs : List (NestedKey × Addr × Value)} (e : Rd H a (.ext (DIs w a xs))) (r : KTn K H kvs xs) :
    h.DictOfH (nestedKind P w) a xs ∧ xs.length ≤ sizeLine ∧ (a == sysModules) = false := by
  obtain ⟨⟨h1, h2, o, es, ep, h3, h4, h5, h6, h7⟩, h8⟩ := (show ObjOk P w H h a (.ext (DIs w a xs)) from e.ok ok)
  refine ⟨⟨o, es, ep, h3, h4, h5, h6, ?_, h7⟩, h1, h2⟩
  clear h6 h7 h1 e h8
  induction r with
  | nil => intro x hx; exact nomatch hx
  | @cons p q ps qs hq t ih =>
    intro x hx
    rcases List.mem_cons.mp hx with z | hx
    · subst z
      rw [← hq.1]
      exact ⟨nested_of ok _ hq.2.2.1 rfl, hq.2.1⟩
    · exact ih x hx
theorem dIs_of {xs : List (NestedKey × Addr × Value)} (d : h.DictOfH (nestedKind P w) a xs) (hz : xs.length ≤ sizeLine) (hm : (a == sysModules) = false) : ObjOk P w H h a (.ext (DIs w a xs)) := by
  obtain ⟨o, es, ep, h3, h4, h5, h6, _, h7⟩ := d
  exact ⟨⟨hz, hm, o, es, ep, h3, h4, h5, h6, h7⟩, ⟨o, h3⟩, fun _ _ q k => q.stay k⟩
end
/-- a key by its datum -/
def KeyD (d : D) (k : NestedKey) : Prop := d = kD k ∧ k.depth ≤ 8 ∧ ∃ ks, k = .tup ks
theorem rp_key {K : PySem.W.Frag} {H : Hp} {v : V} {d : D} {k : NestedKey} (r : Rp K H v d) (x : KeyD d k) : ∃ b, v = .ref b ∧ Rp K H (.ref b) (kD k) := by
  obtain ⟨rfl, _, ks, rfl⟩ := x
  have r0 := r
  unfold kD at r
  cases r with
  | @tup a xs _ h1 h2 => exact ⟨a, rfl, r0⟩
/-- the dict at a, as it may be read -/
def DRd (w : World) (W : Om) (a : Addr) (kvs : List (NestedKey × D)) : Prop := W a = some (.dic w kvs) ∨ W a = some (.fdic w kvs)
theorem DRd.rd {K : PySem.W.Frag} {H : Hp} {w : World} {W : Om} {a : Addr} {kvs : List (NestedKey × D)} (o : HpOk K H W) (h : DRd w W a kvs) : ∃ xs, Rd H a (.ext (DIs w a xs)) ∧ KTn K H kvs xs := by
  rcases h with h | h
  · obtain ⟨xs, e, r⟩ := o a _ h; exact ⟨xs, .inl e, r⟩
  · obtain ⟨ob, xs, e, r⟩ := o a _ h; exact ⟨xs, .inr ⟨ob, e⟩, r⟩

section
variable {X : Cx} {o i e f value : Expr} {pos pos' apos cpos : Pos} {td ty tv tx : TE}
def KAt (X : Cx) (H : Hp) (x y : V) (a : Addr) (kvs : List (NestedKey × D)) (xs : List (NestedKey × Addr × Value)) (k : NestedKey) (b : Addr) : Prop :=
  x = .ref a ∧ y = .ref b ∧ Rd H a (.ext (DIs X.w a xs)) ∧ KTn X.K H kvs xs ∧ Rp X.K H (.ref b) (kD k) ∧ k.depth ≤ 8
/-- d[k] -/
def tKGet (X : Cx) (td ty : TE) : TE := fun σ H Q => td σ H fun x H1 => ty σ H1 fun y H2 => ∃ a kvs xs k b d, KAt X H2 x y a kvs xs k b ∧ lookN kvs k = some d ∧ ∀ v, Rp X.K H2 v d → Q v H2
theorem pe_kget (hu : X.A.units + 9 < cLine) (ho : PE X o td) (hi : PE X i ty) (hs : NoSl i) : PE X (.Subscript o i pos) (tKGet X td ty) := by
  refine ⟨fun pins s σ H Q I h => ?_⟩
  refine subD_of PySem.F.slot_dict_getitem.lookup hs (thn (ho.run pins s σ H _ I h) fun u s1 ⟨x, H1, I1, rx, q1⟩ => thn (hi.run pins s1 σ H1 _ I1 q1) fun iv s2 ⟨y, H2, I2, ry, a, kvs, xs, k, b, d, ⟨ex, ey, hr, kt, rb, h8⟩, hl, q2⟩ => ?_)
  subst ex ey
  obtain rfl : u = Value.ref a := rx
  obtain rfl : iv = Value.ref b := ry
  obtain ⟨dd, hz, hm⟩ := dictH I2.hok hr kt
  refine ⟨dd.typeIs, ?_⟩
  rcases kt_val kt k with ⟨z, _⟩ | ⟨d', q, v, z, hq, rv, rd⟩
  · rw [hl] at z; cases z
  · rw [hl] at z; cases z
    exact wpAny_getItem_heap (knd := nestedKind X.prog X.w) (by show X.A.units + 1 + 8 < cLine; omega) ⟨nested_of I2.hok k rb rfl, h8⟩ dd hq ⟨v, H2, I2.tok _, rv, q2 v rd⟩
/-- k in d, k not in d -/
def tKIn (X : Cx) (ng : Bool) (ty td : TE) : TE := fun σ H Q => ty σ H fun y H1 => td σ H1 fun x H2 => ∃ a kvs xs k b, KAt X H2 x y a kvs xs k b ∧ Q (.bl (if ng = true then !(lookN kvs k).isSome else (lookN kvs k).isSome)) H2
theorem at_some {K : PySem.W.Frag} {H : Hp} {kvs : List (NestedKey × D)} {xs : List (NestedKey × Addr × Value)} (r : KTn K H kvs xs) (k : NestedKey) : (atKey xs k).isSome = (lookN kvs k).isSome := by
  rcases kt_val r k with ⟨a, b⟩ | ⟨_, _, _, a, b, _⟩ <;> rw [a, b] <;> rfl
theorem pc_kin (hu : X.A.units + 9 < cLine) (hi : PE X i ty) (ho : PE X o td) : PC X .In i o (tKIn X false ty td) := by
  refine ⟨fun pins s σ H Q I h => ?_⟩
  refine thn (hi.run pins s σ H _ I h) fun iv s1 ⟨y, H1, I1, ry, q1⟩ => thn (ho.run pins s1 σ H1 _ I1 q1) fun u s2 ⟨x, H2, I2, rx, a, kvs, xs, k, b, ⟨ex, ey, hr, kt, rb, h8⟩, q2⟩ => ?_
  subst ex ey
  obtain rfl : u = Value.ref a := rx
  obtain rfl : iv = Value.ref b := ry
  obtain ⟨dd, hz, hm⟩ := dictH I2.hok hr kt
  refine wpAny_in_heap (knd := nestedKind X.prog X.w) (by show X.A.units + 1 + 8 < cLine; omega) ⟨nested_of I2.hok k rb rfl, h8⟩ hm dd ?_
  rw [at_some kt k]
  exact ⟨.bl _, H2, I2.tok _, rfl, q2⟩
theorem pc_knotin (hu : X.A.units + 9 < cLine) (hi : PE X i ty) (ho : PE X o td) : PC X .NotIn i o (tKIn X true ty td) := by
  refine ⟨fun pins s σ H Q I h => ?_⟩
  refine thn (hi.run pins s σ H _ I h) fun iv s1 ⟨y, H1, I1, ry, q1⟩ => thn (ho.run pins s1 σ H1 _ I1 q1) fun u s2 ⟨x, H2, I2, rx, a, kvs, xs, k, b, ⟨ex, ey, hr, kt, rb, h8⟩, q2⟩ => ?_
  subst ex ey
  obtain rfl : u = Value.ref a := rx
  obtain rfl : iv = Value.ref b := ry
  obtain ⟨dd, hz, hm⟩ := dictH I2.hok hr kt
  refine wpAny_notIn_heap (knd := nestedKind X.prog X.w) (by show X.A.units + 1 + 8 < cLine; omega) ⟨nested_of I2.hok k rb rfl, h8⟩ hm dd ?_
  rw [at_some kt k]
  exact ⟨.bl _, H2, I2.tok _, rfl, q2⟩
/-- d[k] = v -/
def sKPut (X : Cx) (td ty tv : TE) : TS := fun D σ H => tv σ H fun v H1 => td σ H1 fun x H2 => ty σ H2 fun y H3 => ∃ a kvs xs k b d, KAt X H3 x y a kvs xs k b ∧ H3 a = some (.ext (DIs X.w a xs)) ∧ Rp X.K H3 v d ∧ kvs.length < sizeLine ∧
  ∀ xs', KTn X.K H3 (putN kvs k d) xs' → D.nx σ (upd H3 a (.ext (DIs X.w a xs')))
theorem k_setItem {pins : List (Addr × Obj)} {σ : St} {H : Hp} {s : Shared} {A : Around} {E : Value → Shared → Prop} {a b : Addr} {kvs : List (NestedKey × D)} {xs : List (NestedKey × Addr × Value)} {k : NestedKey} {v : V} {r : Value} {d : D} {Q : Unit → Shared → Prop}
    (hu : A.units + 9 < cLine) (I : Inv X pins σ H s) (hr : H a = some (.ext (DIs X.w a xs))) (kt : KTn X.K H kvs xs) (rb : Rp X.K H (.ref b) (kD k)) (h8 : k.depth ≤ 8) (rv : RelV v r) (rd : Rp X.K H v d) (hl : kvs.length < sizeLine)
    (h : ∀ xs' s', KTn X.K H (putN kvs k d) xs' → Inv X pins σ (upd H a (.ext (DIs X.w a xs'))) s' → Q () s') : wpAny (model X.prog X.w) A (setItem (.ref a) (.ref b) r) Q E s := by
  obtain ⟨dd, hz, hm⟩ := dictH I.hok (.inl hr) kt
  have hlen : kvs.length = xs.length := Paired.length kt
  refine wpAny_setItem_heap (knd := nestedKind X.prog X.w) (hsz := hz) (by show A.units + 1 + 8 < cLine; omega) ⟨nested_of I.hok k rb rfl, h8⟩ dd fun h' dd' hs => ?_
  have he : ∃ q, h'.get? a = some q := let ⟨q, _, _, hq, _⟩ := dd'; ⟨q, hq⟩
  have kt' := kt_put kt h8 rb rv rd
  have hl' : (storedH xs k b r).length ≤ sizeLine := by
    rw [← Paired.length kt']
    have := length_putN kvs k d
    omega
  exact h _ _ kt' (d_write I (by rw [hr]; exact True.intro) hs he (dIs_of dd' hl' hm))
theorem ps_kput (hu : X.A.units + 9 < cLine) (ho : PE X o td) (hi : PE X i ty) (hv : PE X value tv) (hs : swapsWith value (some (.Subscript o i pos')) pos.line X.env = pure false) :
    PS X (.Assign [.Subscript o i pos'] value pos) (sKPut X td ty tv) := by
  refine ⟨fun pins s σ H D I h => ?_⟩
  refine wpAny_Assign_Subscript (thn (hv.run pins s σ H _ I h) fun r s1 ⟨v, H1, I1, rv, q1⟩ => thn (ho.run pins s1 σ H1 _ I1 q1) fun u s2 ⟨x, H2, I2, rx, q2⟩ => thn (hi.run pins s2 σ H2 _ I2 q2) fun iv s3 ⟨y, H3, I3, ry, a, kvs, xs, k, b, d, ⟨ex, ey, _, kt, rb, h8⟩, hr, rd, hl, q3⟩ => ?_) hs
  subst ex ey
  obtain rfl : u = Value.ref a := rx
  obtain rfl : iv = Value.ref b := ry
  exact k_setItem hu I3 hr kt rb h8 rv rd hl fun xs' s' kt' I' => ⟨σ, _, I', q3 xs' kt'⟩
/-- d.get(k, x) -/
def tKGet2 (X : Cx) (td ty tx : TE) : TE := fun σ H Q => td σ H fun x H1 => (∃ a kvs xs, x = .ref a ∧ Rd H1 a (.ext (DIs X.w a xs)) ∧ KTn X.K H1 kvs xs) ∧ ty σ H1 fun y H2 => tx σ H2 fun z H3 => ∃ a kvs xs k b dz, KAt X H3 x y a kvs xs k b ∧ Rp X.K H3 z dz ∧ ∀ v, Rp X.K H3 v ((lookN kvs k).getD dz) → Q v H3
theorem pe_kget2 (hu : X.A.units + 9 < cLine) (ho : PE X o td) (he : PE X e ty) (hf : PE X f tx) (m : M2 X o "get" apos e f cpos) : PE X (.Call (.Attribute o "get" apos) [e, f] [] cpos) (tKGet2 X td ty tx) := by
  refine ⟨fun pins s σ H Q I h => ?_⟩
  refine wpAny_Call_method m.base m.few m.line PySem.F.plainAttrs_dict PySem.F.slot_dict_get PySem.F.type_dict_get (thn (ho.run pins s σ H _ I h) fun u s1 ⟨x, H1, I1, rx, ⟨a, kvs, xs, ex, hr, kt⟩, q1⟩ => ?_)
  subst ex
  obtain rfl : u = Value.ref a := rx
  obtain ⟨dd, hz, hm⟩ := dictH I1.hok hr kt
  refine ⟨dd.typeIs, fun b q => ?_, ?_⟩
  · cases q
    obtain ⟨ob, _, _, h1, h2, _⟩ := dd
    exact ⟨ob, h1, h2.2.1⟩
  rw [m.trees]
  refine Calls.callWith_builtin rfl (Calls.evalArgs_plain (Calls.spliced_cons (thn (he.run pins s1 σ H1 _ I1 q1) fun iv s2 ⟨y, H2, I2, ry, q2⟩ =>
    Calls.spliced_cons (thn (hf.run pins s2 σ H2 _ I2 q2) fun fv s3 ⟨z, H3, I3, rz, a', kvs, xs, k, b, dz, ⟨ex, ey, hr, kt, rb, h8⟩, rdz, q3⟩ => Calls.spliced_nil ?_))))
  cases ex
  subst ey
  obtain rfl : iv = Value.ref b := ry
  obtain ⟨dd, hz, hm⟩ := dictH I3.hok hr kt
  refine call_meetsIn PySem.F.slot_dict_get dd.typeIs PySem.F.entry_dict_get (PySem.F.args_dict_get_3 _ _ _) (meetsH_dict_get_default (nestedKind X.prog X.w) a b hm fv) ⟨by show X.A.units + 1 + 8 < cLine; omega, k, xs, ⟨nested_of I3.hok k rb rfl, h8⟩, dd, ?_⟩
  rcases kt_val kt k with ⟨z1, z2⟩ | ⟨d', q, v, z1, z2, rv, rd⟩
  · rw [z2]; rw [z1] at q3
    exact ⟨z, H3, I3.tok _, rz, q3 z rdz⟩
  · rw [z2]; rw [z1] at q3
    exact ⟨v, H3, I3.tok _, rv, q3 v rd⟩
/-- {} -/
def tKNew (X : Cx) : TE := fun _ H Q => ∀ p, H p = none → Q (.ref p) (upd H p (.ext (DIs X.w p [])))
theorem dIs_new {P : Program} {w : World} {H : Hp} (h : Heap) (hb : sysModules < h.objs.size) : ObjOk P w H (h.push { cls := .type "dict", data := .dict #[] }) h.objs.size (.ext (DIs w h.objs.size [])) :=
  dIs_of (P := P) (Heap.DictOfH.new h) (Nat.zero_le _) (beq_eq_false_iff_ne.mpr (Ne.symm (Nat.ne_of_lt hb)))
theorem pe_knew : PE X (.Dict [] [] pos) (tKNew X) := ⟨fun pins s σ H Q I h =>
  wpAny_Dict_empty ⟨.ref s.heap.objs.size, _, I.laid (a := s.heap.objs.size) (o := .ext (DIs X.w s.heap.objs.size [])) (t' := s.toks) (fun _ _ q => Heap.get?_push_of_some _ q) (Nat.le_refl _) (dIs_new s.heap I.big), rfl, h _ (I.hok.fresh (Nat.le_refl _))⟩⟩
/-- {k: v} -/
def tKOne (X : Cx) (tk tv : TE) : TE := fun σ H Q => ∀ p, H p = none → tk σ (upd H p (.ext (DIs X.w p []))) fun y H1 => tv σ H1 fun v H2 => H2 p = some (.ext (DIs X.w p [])) ∧ ∃ k b d, y = .ref b ∧ Rp X.K H2 (.ref b) (kD k) ∧ k.depth ≤ 8 ∧ Rp X.K H2 v d ∧
  ∀ xs', KTn X.K H2 [(k, d)] xs' → Q (.ref p) (upd H2 p (.ext (DIs X.w p xs')))
theorem pe_kone {kx vx : Expr} (hu : X.A.units + 9 < cLine) (hk : PE X kx ty) (hv : PE X vx tv) : PE X (.Dict [some kx] [vx] pos) (tKOne X ty tv) := by
  refine ⟨fun pins s σ H Q I h => ?_⟩
  have I1 := I.laid (a := s.heap.objs.size) (o := .ext (DIs X.w s.heap.objs.size [])) (h' := s.heap.push { cls := .type "dict", data := .dict #[] }) (t' := s.toks) (fun _ _ q => Heap.get?_push_of_some _ q) (Nat.le_refl _) (dIs_new s.heap I.big)
  have h1 := h _ (I.hok.fresh (Nat.le_refl s.heap.objs.size))
  rw [arm_eval_Dict, zip_pairTrees [some kx] [vx] X.env pos rfl rfl, dictDisplay_pairs _ (by simp [pairTrees]) (by simp [pairTrees])]
  refine wpAny_bind (wpAny_standAt (wpAny_bind (wpAny_subDictH (knd := nestedKind X.prog X.w) (by show X.A.units + 8 < cLine; omega) (by simp [pairTrees]) ?_)))
  refine pairTrees_cons_walk (thn (hk.run pins _ σ _ _ I1 h1) fun kv s1 ⟨y, H1, I2, ry, q1⟩ => thn (hv.run pins s1 σ H1 _ I2 q1) fun vv s2 ⟨v, H2, I3, rv, hp, k, b, d, ey, rb, h8, rd, q2⟩ => pairTrees_nil_walk ?_)
  subst ey
  obtain rfl : kv = Value.ref b := ry
  have kt0 : KTn X.K H2 [] [] := .nil
  obtain ⟨dd, hz, hm⟩ := dictH I3.hok (.inl hp) kt0
  refine ⟨[(k, b, vv)], ⟨rfl, rfl, ⟨nested_of I3.hok k rb rfl, h8⟩, True.intro⟩, dd, fun h' tk dd' hs => wpAny_pure ?_⟩
  have he : ∃ q, h'.get? s.heap.objs.size = some q := let ⟨q, _, _, hq, _⟩ := dd'; ⟨q, hq⟩
  have kt' : KTn X.K H2 [(k, d)] [(k, b, vv)] := .cons ⟨rfl, h8, rb, v, rv, rd⟩ .nil
  exact ⟨.ref s.heap.objs.size, _, d_write (t' := tk) I3 (by rw [hp]; exact True.intro) hs he (dIs_of (xs := [(k, b, vv)]) dd' (by show 1 ≤ sizeLine; decide) hm), rfl, q2 _ kt'⟩
end
end SR
namespace SR
open PySem PySem.Spec PyProof.Rows L2
section
variable {X : Cx} {E : XK} {XC : XCt} {g : Ga} {W : Om} {a b c : Expr} {pos : Pos} {O : OD}
theorem kAt_of {H : Hp} {W : Om} {x y : V} {d : D} {p : Addr} {kvs : List (NestedKey × D)} {k : NestedKey} (o : HpOk X.K H W) (rx : Rp X.K H x (.p p)) (ry : Rp X.K H y d) (hd : DRd X.w W p kvs) (hk : KeyD d k) :
    ∃ xs b, KAt X H x y p kvs xs k b := by
  cases rx
  obtain ⟨b, e, rb⟩ := rp_key ry hk
  obtain ⟨xs, h1, h2⟩ := hd.rd o
  exact ⟨xs, b, rfl, e, h1, h2, rb, hk.2.1⟩
/-- d[k] -/
theorem xe_kget (hu : X.A.units + 9 < cLine) (h : XE X E XC a g W fun d W1 => XE X E XC b g W1 fun e W2 => ∃ p kvs k v, d = .p p ∧ KeyD e k ∧ DRd X.w W2 p kvs ∧ lookN kvs k = some v ∧ O v W2) (hs : NoSl b := by intro _ _; rfl) : XE X E XC (.Subscript a b pos) g W O := by
  refine xe_of (pe_kget hu pe_W pe_W hs) fun σ H r k el Q q => ?_
  refine h σ H r k el _ fun x H1 d W1 k1 o1 r1 h1 => ?_
  refine h1 σ H1 (r.kp k1) o1 (el.kp k1) _ fun y H2 e W2 k2 o2 r2 ⟨p, kvs, kk, v, e1, hk, hd, hl, h2⟩ => ?_
  subst e1
  obtain ⟨xs, b, ka⟩ := kAt_of o2 (r1.kp k2) r2 hd hk
  exact ⟨p, kvs, xs, kk, b, v, ka, hl, fun u ru => q u H2 v W2 (k1.trans k2) o2 ru h2⟩
/-- k not in d -/
theorem xt_knotin {O : Bool → Om → Prop} (hu : X.A.units + 9 < cLine) (h : XE X E XC a g W fun e W1 => XE X E XC b g W1 fun d W2 => ∃ p kvs k, d = .p p ∧ KeyD e k ∧ DRd X.w W2 p kvs ∧ O (!(lookN kvs k).isSome) W2) (hm : behindInMarks .NotIn b = false := by with_unfolding_all rfl) :
    XT X E XC (.Compare a [.NotIn] [b] pos) g W O := by
  refine xt_of (pt_cmp (pc_knotin hu pe_W pe_W) hm) fun σ H r k el Q q => ?_
  refine h σ H r k el _ fun y H1 e W1 k1 o1 r1 h1 => ?_
  refine h1 σ H1 (r.kp k1) o1 (el.kp k1) _ fun x H2 d W2 k2 o2 r2 ⟨p, kvs, kk, e1, hk, hd, h2⟩ => ?_
  subst e1
  obtain ⟨xs, b, ka⟩ := kAt_of o2 r2 (r1.kp k2) hd hk
  exact ⟨p, kvs, xs, kk, b, ka, _, rfl, q _ H2 W2 (k1.trans k2) o2 h2⟩
/-- d[k] = v -/
theorem xs_kput {C : EndD} {pos' : Pos} (hu : X.A.units + 9 < cLine) (h : XE X E XC c g W fun v W0 => XE X E XC a g W0 fun d W1 => XE X E XC b g W1 fun e W2 => ∃ p kvs k, d = .p p ∧ KeyD e k ∧ W2 p = some (.dic X.w kvs) ∧ kvs.length < sizeLine ∧ C.nx g (updO W2 p (.dic X.w (putN kvs k v))))
    (hs : swapsWith c (some (.Subscript a b pos')) pos.line X.env = pure false := by rfl) : XS X E XC (.Assign [.Subscript a b pos'] c pos) g W C := by
  refine xs_of (ps_kput hu pe_W pe_W pe_W hs) fun D σ H r k el l => ?_
  refine h σ H r k el _ fun v H0 dv W0 k0 o0 r0 h0 => ?_
  refine h0 σ H0 (r.kp k0) o0 (el.kp k0) _ fun x H1 d W1 k1 o1 r1 h1 => ?_
  refine h1 σ H1 ((r.kp k0).kp k1) o1 ((el.kp k0).kp k1) _ fun y H2 e W2 k2 o2 r2 ⟨p, kvs, kk, e1, hk, hd, hl, h2⟩ => ?_
  subst e1
  have rx := r1.kp k2
  cases rx
  obtain ⟨b, eb, rb⟩ := rp_key r2 hk
  obtain ⟨xs, hx, kt⟩ := o2 p _ hd
  refine ⟨p, kvs, xs, kk, b, dv, ⟨rfl, eb, .inl hx, kt, rb, hk.2.1⟩, hx, (r0.kp k1).kp k2, hl, fun xs' kt' => ?_⟩
  have kk2 : Kp H2 (upd H2 p (.ext (DIs X.w p xs'))) := Kp.at hx (fun _ z => by cases z) (fun _ _ z => by cases z)
  exact l.nx _ _ _ _ (((k0.trans k1).trans k2).trans kk2) (o2.set kk2 (o := .dic X.w (putN kvs kk dv)) ⟨xs', upd_same, kt'.kp kk2⟩) ((((r.kp k0).kp k1).kp k2).kp kk2) h2
/-- d.get(k, x) -/
theorem xe_kget2 {apos : Pos} (hu : X.A.units + 9 < cLine) (h : XE X E XC a g W fun d W1 => ∃ p kvs, d = .p p ∧ DRd X.w W1 p kvs ∧ XE X E XC b g W1 fun e W2 => XE X E XC c g W2 fun z W3 => ∃ kvs k, KeyD e k ∧ DRd X.w W3 p kvs ∧ O ((lookN kvs k).getD z) W3)
    (m : M2 X a "get" apos b c pos := by exact ⟨rfl, rfl, rfl, rfl⟩) : XE X E XC (.Call (.Attribute a "get" apos) [b, c] [] pos) g W O := by
  refine xe_of (pe_kget2 hu pe_W pe_W pe_W m) fun σ H r k el Q q => ?_
  refine h σ H r k el _ fun x H1 d W1 k1 o1 r1 ⟨p, kvs1, e1, hd1, h1⟩ => ?_
  subst e1
  obtain ⟨xs1, hr1, kt1⟩ := hd1.rd o1
  refine ⟨⟨p, kvs1, xs1, by cases r1; rfl, hr1, kt1⟩, ?_⟩
  refine h1 σ H1 (r.kp k1) o1 (el.kp k1) _ fun y H2 e W2 k2 o2 r2 h2 => ?_
  refine h2 σ H2 ((r.kp k1).kp k2) o2 ((el.kp k1).kp k2) _ fun z H3 dz W3 k3 o3 r3 ⟨kvs, kk, hk, hd, h3⟩ => ?_
  obtain ⟨xs, b, ka⟩ := kAt_of o3 ((r1.kp k2).kp k3) (r2.kp k3) hd hk
  exact ⟨p, kvs, xs, kk, b, dz, ka, r3, fun u ru => q u H3 _ W3 ((k1.trans k2).trans k3) o3 ru h3⟩
/-- {} -/
theorem xe_knew (h : ∀ p, W p = none → O (.p p) (updO W p (.dic X.w []))) : XE X E XC (.Dict [] [] pos) g W O := by
  refine xe_of pe_knew fun σ H r k el Q q => ?_
  intro p hp
  exact q _ _ _ _ (Kp.new hp) (k.new (o := .dic X.w []) hp ⟨[], upd_same, .nil⟩) (.p p) (h p (k.free hp))
/-- {k: v} -/
theorem xe_kone (hu : X.A.units + 9 < cLine) (h : ∀ p, W p = none → XE X E XC a g (updO W p (.dic X.w [])) fun e W1 => XE X E XC b g W1 fun v W2 => ∃ k, KeyD e k ∧ W2 p = some (.dic X.w []) ∧ O (.p p) (updO W2 p (.dic X.w [(k, v)]))) : XE X E XC (.Dict [some a] [b] pos) g W O := by
  refine xe_of (pe_kone hu pe_W pe_W) fun σ H r k el Q q => ?_
  intro p hp
  have kn : Kp H (upd H p (.ext (DIs X.w p []))) := Kp.new hp
  refine h p (k.free hp) σ _ (r.kp kn) (k.new (o := .dic X.w []) hp ⟨[], upd_same, .nil⟩) (el.kp kn) _ fun y H1 e W1 k1 o1 r1 h1 => ?_
  refine h1 σ H1 ((r.kp kn).kp k1) o1 ((el.kp kn).kp k1) _ fun v H2 d W2 k2 o2 r2 ⟨kk, hk, hd, h2⟩ => ?_
  obtain ⟨xs, hx, kt⟩ := o2 p _ hd
  cases kt
  obtain ⟨b, eb, rb⟩ := rp_key (r1.kp k2) hk
  refine ⟨hx, kk, b, d, eb, rb, hk.2.1, r2, fun xs' kt' => ?_⟩
  have kk2 : Kp H2 (upd H2 p (.ext (DIs X.w p xs'))) := Kp.at hx (fun _ z => by cases z) (fun _ _ z => by cases z)
  exact q _ _ _ _ (((kn.trans k1).trans k2).trans kk2) (o2.set kk2 (o := .dic X.w [(kk, d)]) ⟨xs', upd_same, kt'.kp kk2⟩) (.p p) h2
/-- a dict that changes no more -/
theorem xs_lock {C : EndD} {st : Stmt} (p : Addr) (kvs : List (NestedKey × D)) (hp : W p = some (.dic X.w kvs)) (h : XS X E XC st g (updO W p (.fdic X.w kvs)) C) : XS X E XC st g W C := by
  intro D σ H r k el l pins s I
  obtain ⟨xs, hx, kt⟩ := k p _ hp
  obtain ⟨od, I2⟩ := I.lock hx True.intro
  have kk : Kp H (upd H p (.frz od (.ext (DIs X.w p xs)))) := Kp.at hx (fun _ z => by cases z) (fun _ _ z => by cases z)
  exact h D σ _ (r.kp kk) (k.set kk (o := .fdic X.w kvs) ⟨od, xs, upd_same, kt.kp kk⟩) (el.kp kk) (l.kp kk) pins s I2
theorem xe_lock {e : Expr} (p : Addr) (kvs : List (NestedKey × D)) (hp : W p = some (.dic X.w kvs)) (h : XE X E XC e g (updO W p (.fdic X.w kvs)) O) : XE X E XC e g W O := by
  intro σ H r k el Q q pins s I
  obtain ⟨xs, hx, kt⟩ := k p _ hp
  obtain ⟨od, I2⟩ := I.lock hx True.intro
  have kk : Kp H (upd H p (.frz od (.ext (DIs X.w p xs)))) := Kp.at hx (fun _ z => by cases z) (fun _ _ z => by cases z)
  exact h σ _ (r.kp kk) (k.set kk (o := .fdic X.w kvs) ⟨od, xs, upd_same, kt.kp kk⟩) (el.kp kk) _ (q.kp kk) pins s I2
end
/-! ### walking a dict that changes no more -/
def Frz (w : World) (d : Addr) (o : Obj) (xs : List (NestedKey × Addr × Value)) (H : Hp) : Prop := H d = some (.frz o (.ext (DIs w d xs)))
theorem frzN {X : Cx} {pins : List (Addr × Obj)} {σ : St} {H : Hp} {s : Shared} {d : Addr} {o : Obj} {xs : List (NestedKey × Addr × Value)} (I : Inv X pins σ H s) (h : Frz X.w d o xs H) :
    (d == sysModules) = false ∧ s.heap.get? d = some o ∧ o.ExactDict ∧ ∃ (es : Array DictEntry) (ep : Nat), o.data = .dict es ep ∧ es.size = xs.length ∧ ∀ (i : Nat) e, xs[i]? = some e → ∃ en, es[i]? = some en ∧ en.key = .ref e.2.1 ∧ en.val = e.2.2 := by
  obtain ⟨hd, ⟨⟨hz, hs, o', es, ep, ho, hx, hdt, he, _⟩, _⟩⟩ := I.hok d _ h
  rw [hd] at ho
  cases ho
  refine ⟨hs, hd, hx, es, ep, hdt, ?_, fun i e q => ?_⟩
  · rw [← Array.length_toList, he, List.length_map]
  · refine ⟨⟨e.1.hash X.w, .ref e.2.1, e.2.2⟩, ?_, rfl, rfl⟩
    rw [← Array.getElem?_toList, he, List.getElem?_map, q]
    rfl
def Itn (w : World) (d : Addr) (o : Obj) (xs : List (NestedKey × Addr × Value)) : It :=
  ⟨fun i H => Frz w d o xs H ∧ i < xs.length, fun i H x H' => H' = H ∧ ∃ e, xs[i]? = some e ∧ x = .ref e.2.1, fun i H => Frz w d o xs H ∧ xs.length ≤ i⟩
def Itm (w : World) (d : Addr) (o : Obj) (xs : List (NestedKey × Addr × Value)) : It :=
  ⟨fun i H => Frz w d o xs H ∧ i < xs.length, fun i H x H' => ∃ T e, xs[i]? = some e ∧ x = .ref T ∧ H T = none ∧ ∃ v, RelV v e.2.2 ∧ H' = upd H T (.tup [.ref e.2.1, v]), fun i H => Frz w d o xs H ∧ xs.length ≤ i⟩
section
variable {P : Program} {w : World} {K : PySem.W.Frag} {tg : Expr} {d : Addr} {o : Obj} {es : Array DictEntry} {ep : Nat} {xs : List (NestedKey × Addr × Value)}
theorem turn_keysN (it : Addr) (hod : o.data = .dict es ep) : Turn P w K tg (Itn w d o xs) [it] it (fun i h => h.IsKeyIter it d i xs.length ep) where
  mem := by simp
  obj := fun i h st b hb => by
    have e : b = it := by simpa using hb
    subst e
    obtain ⟨oi, e, c, dd⟩ := st
    exact ⟨oi, e, fun v z => by rw [dd] at z; cases z⟩
  keep := fun i h h' st k => st.at fun oi e => k it (by simp) oi e
  item := by
    intro X hP hw hK hc i pins s σ H E I hf st hg
    subst hP hw hK
    obtain ⟨hd, hi⟩ := hg
    obtain ⟨f0, f1, f2, f3, f4, f5⟩ := hf it (by simp)
    obtain ⟨hs, hgd, hx, es', ep', hdt, hsz, ent⟩ := frzN I hd
    obtain ⟨rfl, rfl⟩ := dict_ep hod hdt
    obtain ⟨e0, he0⟩ : ∃ p, xs[i]? = some p := ⟨xs[i], List.getElem?_eq_getElem hi⟩
    obtain ⟨en, hen, hkey, _⟩ := ent i e0 he0
    refine next_key_item st hgd hdt hsz hen fun h' st' sb => ?_
    have I1 : Inv X pins σ H { s with heap := h' } := I.turned (t' := s.toks) (fun b ob hb e => (sb.2 b hb).trans e) f0 f1 f3 f4 f5
    obtain ⟨oi, e, c, dd⟩ := id st'
    exact ⟨en.key, rfl, go_of (s := { s with heap := h' }) e c dd (by decide) ⟨.ref e0.2.1, H, I1, hkey, ⟨rfl, e0, he0, rfl⟩, st', fun b hb => (hf b hb).1⟩⟩
  done := by
    intro X hP hw hK hc i pins s σ H E I hf st hg
    subst hP hw hK
    obtain ⟨hd, hi⟩ := hg
    obtain ⟨f0, f1, f2, f3, f4, f5⟩ := hf it (by simp)
    obtain ⟨hs, hgd, hx, es', ep', hdt, hsz, ent⟩ := frzN I hd
    obtain ⟨rfl, rfl⟩ := dict_ep hod hdt
    exact next_key_end (I.ok.hd hc) st hgd hdt hsz hi fun h' eb => ⟨rfl, I.turned (t' := s.toks) (fun b ob hb e => eb b ob hb e) f0 f1 f3 f4 f5⟩
  self := fun A i s Q E st h => by
    refine wpAny_pyIter_slot st.typeIs F.slot_dict_keyiterator_iter (wpAny_call_entry F.slot_dict_keyiterator_iter st.typeIs F.entry_dict_keyiterator_iter ?_ (F.args_dict_keyiterator_iter_1 _))
    show wpAny _ _ (ret (.ref it)) _ _ s
    exact wpAny_pure ⟨_, rfl, "dict_keyiterator", _, st.typeIs, F.slot_dict_keyiterator_next.lookup, h⟩
theorem relV_any (u : Value) (h : ∃ v, RelV v u) : ∃ v, RelV v u := h
theorem turn_itemsN {elts : List Expr} {kk : Nat} {tpos : Pos} (it : Addr) (hod : o.data = .dict es ep) (hv : ∀ e ∈ xs, ∃ v, RelV v e.2.2) :
    Turn P w K (.Tuple elts kk tpos) (Itm w d o xs) [it] it (fun i h => ∃ ok ov, IsItemIter h it d i xs.length ep ok ov) where
  mem := by simp
  obj := fun i h st b hb => by
    have e : b = it := by simpa using hb
    subst e
    obtain ⟨ok, ov, e⟩ := st
    exact ⟨_, e, fun v z => nomatch z⟩
  keep := fun i h h' st k => let ⟨ok, ov, e⟩ := st; ⟨ok, ov, k it (by simp) _ e⟩
  item := by
    intro X hP hw hK hc i pins s σ H E I hf st hg
    subst hP hw hK
    obtain ⟨hd, hi⟩ := hg
    obtain ⟨hs, hgd, hx, es', ep', hdt, hsz, ent⟩ := frzN I hd
    obtain ⟨rfl, rfl⟩ := dict_ep hod hdt
    obtain ⟨e0, he0⟩ : ∃ p, xs[i]? = some p := ⟨xs[i], List.getElem?_eq_getElem hi⟩
    obtain ⟨en, hen, hkey, hval⟩ := ent i e0 he0
    obtain ⟨v, rv⟩ := hv e0 (List.mem_of_getElem? he0)
    obtain ⟨ok, ov, he⟩ := st
    rw [← hsz] at he
    have hlt : it < s.heap.objs.size := Heap.lt_size he
    have hi' : i < es'.size := by rw [hsz]; exact hi
    have hen' : es'[i] = en := by
      rw [Array.getElem?_eq_getElem hi'] at hen
      exact Option.some.inj hen
    refine DT.nextI he ⟨o, hgd, hx, hdt⟩ hi' fun h' ho hT hz hk => ?_
    rw [hen', hkey, hval] at ho hT
    refine ⟨_, rfl, wpAny_letOwnedTupleGo_items (s := { s with heap := h' }) ho fun h'' he' sb => ?_⟩
    have hT2 : h''.get? s.heap.objs.size = some { cls := .type "tuple", data := .seq #[.ref e0.2.1, e0.2.2] } := (sb.2 _ (Nat.ne_of_gt hlt)).trans hT
    have new : ObjOk X.prog X.w (upd H s.heap.objs.size (.tup [.ref e0.2.1, v])) h'' s.heap.objs.size (.tup [.ref e0.2.1, v]) :=
      ⟨by show 2 ≤ sizeLine; decide, [.ref e0.2.1, e0.2.2], .cons rfl (.cons rv .nil), ⟨_, hT2, rfl, _, rfl⟩⟩
    have I1 : Inv X pins σ (upd H s.heap.objs.size (.tup [.ref e0.2.1, v])) { s with heap := h'' } :=
      I.turnedNew (t' := s.toks) (ch := [it]) (fun b ob hb e => (sb.2 b (by simpa using hb)).trans (hk b ob (by simpa using hb) e)) hf (Nat.le_refl _) new
    refine ⟨.ref s.heap.objs.size, _, I1, rfl, ⟨_, e0, he0, rfl, I.hok.fresh (Nat.le_refl _), v, rv, rfl⟩, ⟨_, _, by rw [← hsz]; exact he'⟩, fun b hb => ?_⟩
    have e : b = it := by simpa using hb
    rw [e, upd_ne (Nat.ne_of_lt hlt)]
    exact (hf it (by simp)).1
  done := by
    intro X hP hw hK hc i pins s σ H E I hf st hg
    subst hP hw hK
    obtain ⟨hd, hi⟩ := hg
    obtain ⟨f0, f1, f2, f3, f4, f5⟩ := hf it (by simp)
    obtain ⟨hs, hgd, hx, es', ep', hdt, hsz, ent⟩ := frzN I hd
    obtain ⟨rfl, rfl⟩ := dict_ep hod hdt
    obtain ⟨ok, ov, he⟩ := st
    rw [← hsz] at he
    exact DT.endI (I.ok.hd hc) he ⟨o, hgd, hx, hdt⟩ (by rw [hsz]; exact hi) fun h' eb => ⟨rfl, I.turned (t' := s.toks) (fun b ob hb e => eb b ob hb e) f0 f1 f3 f4 f5⟩
  self := fun A i s Q E st h => let ⟨_, _, e⟩ := st; PySem.W.kcp_self e h
end
def iKeysN (X : Cx) (td : TE) : TI := fun σ H R => td σ H fun x H1 => ∃ d o xs, x = .ref d ∧ Frz X.w d o xs H1 ∧ R (Itn X.w d o xs) H1
def iItemsN (X : Cx) (td : TE) : TI := fun σ H R => td σ H fun x H1 => ∃ d o xs, x = .ref d ∧ Frz X.w d o xs H1 ∧ (∀ e ∈ xs, ∃ v, RelV v e.2.2) ∧ R (Itm X.w d o xs) H1
section
variable {X : Cx} {tg e : Expr} {td : TE} {apos cpos : Pos}
theorem pi_keysN (he : PE X e td) : PI X tg e (iKeysN X td) := by
  refine ⟨fun pins s σ H R I h => ?_⟩
  refine thn (he.run pins s σ H _ I h) fun u s1 ⟨x, H1, I1, rx, d, o, xs, ex, hd, q⟩ => ?_
  subst ex
  obtain rfl : u = Value.ref d := rx
  obtain ⟨hs, hgd, hx, es, ep, hdt, hsz, ent⟩ := frzN I1 hd
  refine iter_keys hs hgd hx hdt (pi_one (tk := s1.toks) I1 _ (turn_keysN _ hdt) ⟨_, Heap.get?_push_size _ rfl, rfl, ?_⟩ q)
  rw [hsz] <;> rfl
theorem pi_itemsN {elts : List Expr} {kk : Nat} {tpos : Pos} (he : PE X e td) (hbase : attributeBase e "items" X.env (eval e X.env) = eval e X.env := by rfl) (hline : (apos.endLine == cpos.line) = true := by rfl) :
    PI X (.Tuple elts kk tpos) (.Call (.Attribute e "items" apos) [] [] cpos) (iItemsN X td) := by
  refine ⟨fun pins s σ H R I h => ?_⟩
  refine wpAny_Call_method (T := "dict") (id := "dict.items") hbase rfl hline F.plainAttrs_dict F.slot_dict_items F.type_dict_items (thn (he.run pins s σ H _ I h) fun u s1 ⟨x, H1, I1, rx, d, o, xs, ex, hd, hv, q⟩ => ?_)
  subst ex
  obtain rfl : u = Value.ref d := rx
  obtain ⟨hs, hgd, hx, es, ep, hdt, hsz, ent⟩ := frzN I1 hd
  have raw : DT.Raw s1.heap d es ep := ⟨o, hgd, hx, hdt⟩
  refine ⟨raw.typeIs, fun b q => by cases q; exact ⟨o, hgd, hx.2.1⟩, ?_⟩
  have I2 : Inv X pins σ H1 { s1 with heap := s1.heap.push { cls := .type "dict_items", data := .fields #[.ref d] } } := I1.kept (t' := s1.toks) fun b ob q => Heap.get?_push_of_some _ q
  have fin : wpAny (model X.prog X.w) X.A (pyIter (.ref s1.heap.objs.size)) (PIE X pins σ (.Tuple elts kk tpos) R) X.xe { s1 with heap := s1.heap.push { cls := .type "dict_items", data := .fields #[.ref d] } } := by
    refine DT.iterI (d := d) ⟨_, Heap.get?_push_size _ rfl, rfl, rfl⟩ (raw.push _) (pi_one (tk := s1.toks) I2 _ (turn_itemsN _ hdt hv) ⟨.none, .none, ?_⟩ q)
    rw [hsz]
    exact Heap.get?_push_size _ rfl
  show wpAny _ _ (callWith cpos (.builtin "dict.items") [.ref d] [] []) _ X.xe s1
  exact method_meetsIn F.slot_dict_items F.entry_dict_items rfl (PySem.evalArgs_none ⟨rfl, raw.typeIs, F.args_dict_items_1 _, _, DT.meetsItems (es := es) (ep := ep) hs, raw, fin⟩)
end
end SR
namespace SR
open PySem PySem.Spec PyProof.Rows L2
theorem updO_comm {W : Om} {a b : Addr} {o u : Ob} (h : a ≠ b) : updO (updO W a o) b u = updO (updO W b u) a o := by
  funext c
  unfold updO
  by_cases h1 : c = b
  · subst h1
    rw [if_pos rfl, if_neg (Ne.symm h), if_pos rfl]
  · rw [if_neg h1, if_neg h1]
theorem sub_upd {W W' : Om} {a : Addr} {o : Ob} (s : Sub W W') (h : W' a = some o) : Sub (updO W a o) W' := fun b u e => by
  by_cases hb : b = a
  · subst hb; rw [updO_same] at e; cases e; exact h
  · rw [updO_ne hb] at e; exact s b u e
theorem sub_in {W W' : Om} {a : Addr} {o : Ob} (s : Sub W W') (h : W a = none) : Sub W (updO W' a o) := fun b u e => by
  rw [updO_ne (neO e h)]; exact s b u e
section
variable {X : Cx} {E : XK} {XC : XCt} {g : Ga} {W : Om} {a b c : Expr} {pos : Pos} {O : OD}
/-- long tuples -/
def AddT : R2D := fun d e W O => ∃ xs ys, d = .tup xs ∧ e = .tup ys ∧ xs.length + ys.length ≤ sizeLine ∧ O (.tup (xs ++ ys)) W
theorem op2_addT (K : PySem.W.Frag) : Op2 K (rAddA K) AddT := by
  intro x y d e H W O Q rx ry o q ⟨xs, ys, e1, e2, hz, h⟩
  subst e1 e2
  cases rx with
  | @tup l xs ds hl hx =>
    cases ry with
    | @tup m ys es hm hy =>
      refine .inr (.inl ⟨l, m, xs, ys, rfl, rfl, .of hl, .of hm, by rw [hx.length, hy.length]; exact hz, fun e => ?_, fun _ e => ?_, fun _ _ p hp => ?_⟩)
      · subst e
        cases hx
        exact q _ H _ W (Kp.refl H) o (.tup hm hy) h
      · subst e
        cases hy
        exact q _ H _ W (Kp.refl H) o (.tup hl (by rw [List.append_nil]; exact hx)) h
      · exact q _ _ _ W (Kp.new hp) (o.more hp) (.tup upd_same ((hx.append hy).kp (Kp.new hp))) h
theorem xe_addT (h : XE X E XC a g W fun d W1 => XE X E XC b g W1 fun e W2 => AddT d e W2 O) : XE X E XC (.BinOp a .Add b pos) g W O :=
  xe_of (pe_op (r := rAddA X.K) (op_add.or (op_catA.or (op_add_str.or op_cat))) pe_W pe_W) (ex_op (op2_addT X.K) h)
theorem relV_det {v v' : V} {u : Value} (h : L2.RelV v u) (k : L2.RelV v' u) : v = v' := by
  cases v <;> cases v' <;> simp only [L2.RelV] at h k <;> first
    | rfl
    | (obtain ⟨t, rfl⟩ := h; obtain ⟨t2, k⟩ := k; cases k; rfl)
    | (obtain ⟨t, rfl⟩ := h; obtain ⟨t2, k⟩ := k; cases k; done)
    | (obtain ⟨t, rfl⟩ := h; cases k; done)
    | (subst h; obtain ⟨t2, k⟩ := k; cases k; done)
    | (subst h; cases k; rfl)
    | (subst h; cases k)
theorem kt_get {K : PySem.W.Frag} {H : Hp} : ∀ {kvs : List (NestedKey × D)} {xs : List (NestedKey × Addr × Value)} {i : Nat} {e : NestedKey × Addr × Value}, KTn K H kvs xs → xs[i]? = some e → ∃ p, kvs[i]? = some p ∧ Rp K H (.ref e.2.1) (kD p.1) ∧ ∀ v, RelV v e.2.2 → Rp K H v p.2
  | _, _, _, _, .nil, q => by simp at q
  | _, _, 0, e, .cons (a := p) h _, q => by
    simp at q; subst q
    obtain ⟨_, _, h3, v, h4, h5⟩ := h
    refine ⟨p, by simp, h3, fun v' h6 => ?_⟩
    have : v' = v := relV_det h6 h4
    rw [this]; exact h5
  | _, _, i + 1, e, .cons _ t, q => by
    obtain ⟨p, h1, h2⟩ := kt_get (i := i) t (by simpa using q)
    exact ⟨p, by simpa using h1, h2⟩
theorem xi_keys {tg iter : Expr} {O : List D → (Om → Prop) → Om → Prop} (h : XE X E XC iter g W fun d W1 => ∃ p kvs, d = .p p ∧ W1 p = some (.fdic X.w kvs) ∧ O (kvs.map fun e => kD e.1) (fun _ => True) W1) : XI X E XC tg iter g W O := by
  refine ⟨_, pi_keysN pe_W, fun σ H r k el R q => ?_⟩
  refine h σ H r k el _ fun v H1 d W1 k1 o1 r1 ⟨p, kvs, e, hp, h1⟩ => ?_
  subst e
  cases r1
  obtain ⟨od, xs, hx, kt⟩ := o1 p _ hp
  have hl : kvs.length = xs.length := Paired.length kt
  refine ⟨p, od, xs, rfl, hx, q _ H1 _ _ W1 k1 o1 (fun i H2 W2 k2 o2 _ => ?_) h1⟩
  have hx2 : Frz X.w p od xs H2 := k2.f _ _ _ hx
  have kt2 := kt.kp k2
  refine ⟨fun hi => ⟨⟨hx2, by rw [List.length_map] at hi; omega⟩, fun x H' ⟨e1, en, h2, e2⟩ => ?_⟩, fun hi => ⟨hx2, by rw [List.length_map] at hi; omega⟩⟩
  subst e1 e2
  obtain ⟨pr, h3, h4, _⟩ := kt_get kt2 h2
  exact ⟨Kp.refl _, o2, kD pr.1, by rw [List.getElem?_map, h3]; rfl, h4⟩
theorem xi_items {elts : List Expr} {kk : Nat} {tpos apos : Pos} {O : List D → (Om → Prop) → Om → Prop} (h : XE X E XC a g W fun d W1 => ∃ p kvs, d = .p p ∧ W1 p = some (.fdic X.w kvs) ∧ O (kvs.map fun e => .tup [kD e.1, e.2]) (fun _ => True) W1)
    (hbase : attributeBase a "items" X.env (eval a X.env) = eval a X.env := by rfl) (hline : (apos.endLine == pos.line) = true := by rfl) : XI X E XC (.Tuple elts kk tpos) (.Call (.Attribute a "items" apos) [] [] pos) g W O := by
  refine ⟨_, pi_itemsN pe_W hbase hline, fun σ H r k el R q => ?_⟩
  refine h σ H r k el _ fun v H1 d W1 k1 o1 r1 ⟨p, kvs, e, hp, h1⟩ => ?_
  subst e
  cases r1
  obtain ⟨od, xs, hx, kt⟩ := o1 p _ hp
  have hl : kvs.length = xs.length := Paired.length kt
  have hv : ∀ e ∈ xs, ∃ v, RelV v e.2.2 := by
    have : ∀ {l : List (NestedKey × D)} {m : List (NestedKey × Addr × Value)}, KTn X.K H1 l m → ∀ e ∈ m, ∃ v, RelV v e.2.2 := by
      intro l m t
      induction t with
      | nil => intro e he; cases he
      | cons hq _ ih =>
        intro e he
        rcases List.mem_cons.mp he with rfl | he
        · exact ⟨_, hq.2.2.2.choose_spec.1⟩
        · exact ih e he
    exact this kt
  refine ⟨p, od, xs, rfl, hx, hv, q _ H1 _ _ W1 k1 o1 (fun i H2 W2 k2 o2 _ => ?_) h1⟩
  have hx2 : Frz X.w p od xs H2 := k2.f _ _ _ hx
  have kt2 := kt.kp k2
  refine ⟨fun hi => ⟨⟨hx2, by rw [List.length_map] at hi; omega⟩, fun x H' ⟨T, en, h2, e2, hT, u, ru, e3⟩ => ?_⟩, fun hi => ⟨hx2, by rw [List.length_map] at hi; omega⟩⟩
  subst e2 e3
  obtain ⟨pr, h3, h4, h5⟩ := kt_get kt2 h2
  have kn : Kp H2 (upd H2 T (.tup [.ref en.2.1, u])) := Kp.new hT
  exact ⟨kn, o2.more hT, .tup [kD pr.1, pr.2], by rw [List.getElem?_map, h3]; rfl, .tup upd_same (.cons (h4.kp kn) (.cons ((h5 u ru).kp kn) .nil))⟩
/-- a loop whose invariant knows what is walked -/
theorem xs_forL {C : EndD} {tg iter : Expr} {body : List Stmt}
    (h : XI X E XC tg iter g W fun ds ok W1 => ∃ I : Nat → Ga → Om → Prop, I 0 g W1 ∧ (∀ i g' W', I i g' W' → ok W') ∧
      (∀ i d g' W', ds[i]? = some d → I i g' W' → XG X tg d g' W' fun g2 W2 => XB X E XC body g2 W2 { C with nx := I (i + 1), ct := I (i + 1), bk := C.nx }) ∧ (∀ g' W', I ds.length g' W' → C.nx g' W'))
    (hp : PassesOwn (model X.prog X.w) X.A X.env X.xe := by exact PassesOwn.never) (hc : X.calm = true := by rfl) (hs : ∀ x, foldedSetIterable iter X.env x = pure x := by intro _; rfl) : XS X E XC (.For tg iter body [] pos) g W C := by
  obtain ⟨wi, hi, hw⟩ := h
  refine xs_of (ps_for hp hc hi pg_W pss_W hs) fun D σ H r k el l => ?_
  refine hw σ H r k el _ fun J H1 ds ok W1 k1 o1 it ⟨I, h0, hok, hturn, hend⟩ => ?_
  refine ⟨fun i m σ H => m = ds.length - i ∧ i ≤ ds.length ∧ ∃ g' W', Kp H1 H ∧ HpOk X.K H W' ∧ RpS X.K H σ g' ∧ I i g' W', ⟨ds.length, rfl, Nat.zero_le _, g, W1, Kp.refl _, o1, r.kp k1, h0⟩, ?_⟩
  rintro i m σ2 H2 ⟨rfl, hil, g', W', k2, o2, r2, hI⟩
  obtain ⟨hgo, hst⟩ := it i H2 W' k2 o2 (hok i g' W' hI)
  by_cases hlt : i < ds.length
  · obtain ⟨go, hy⟩ := hgo hlt
    refine .inr ⟨go, fun σ3 H3 => ∃ g3 W3, Kp H1 H3 ∧ HpOk X.K H3 W3 ∧ RpS X.K H3 σ3 g3 ∧ I (i + 1) g3 W3, fun σ3 H3 h3 => ⟨ds.length - (i + 1), by omega, rfl, hlt, h3⟩, fun x H' y => ?_⟩
    obtain ⟨k3, o3, d, hd, rx⟩ := hy x H' y
    refine hturn i d g' W' hd hI x σ2 H' (r2.kp k3) o3 rx _ fun σ4 H4 g4 W4 k4 o4 r4 h4 => ?_
    have kk : Kp H H4 := ((k1.trans k2).trans k3).trans k4
    refine h4 _ σ4 H4 r4 o4 (el.kp kk) ⟨fun σ5 H5 g5 W5 k5 o5 r5 h5 => ⟨g5, W5, ((k2.trans k3).trans k4).trans k5, o5, r5, h5⟩, l.rt.kp kk, l.nx.kp kk, fun σ5 H5 g5 W5 k5 o5 r5 h5 => ⟨g5, W5, ((k2.trans k3).trans k4).trans k5, o5, r5, h5⟩⟩
  · have e : i = ds.length := by omega
    subst e
    exact .inl ⟨hst (Nat.le_refl _), l.nx σ2 H2 g' W' (k1.trans k2) o2 r2 (hend g' W' hI)⟩
end
end SR
/-! Plain facts: stores and days. -/
namespace SR
structure Sto where
  room : Int
  wait : Int
  fill : Bool
  level : Int
  size : Int
structure Sto.ok (s : Sto) : Prop where
  r1 : 1 ≤ s.room
  r12 : s.room ≤ 12
  w1 : 1 ≤ s.wait
  w3 : s.wait ≤ 3
  l0 : 0 ≤ s.level
  l12 : s.level ≤ 12
  sz : if s.fill = true then s.level + 1 ≤ s.size ∧ s.size ≤ 18 else 1 ≤ s.size ∧ s.size ≤ 6
theorem Sto.ok.s1 {s : Sto} (h : s.ok) : 1 ≤ s.size := by
  have := h.sz; have := h.l0
  split at * <;> omega
theorem Sto.ok.s18 {s : Sto} (h : s.ok) : s.size ≤ 18 := by
  have := h.sz; have := h.l0
  split at * <;> omega
/-- what is ordered for a position -/
def amount (s : Sto) (p : Int) : Int := if p > s.level then 0 else if s.fill = true then s.size - p else ((s.level - p) / s.size + 1) * s.size
/-- a situation: the stock, what is coming -/
structure Sit where
  stock : Int
  coming : List Int
  deriving DecidableEq
structure DRow where
  came : Int
  spilled : Int
  missed : Int
  stock : Int
  ordered : Int
  deriving DecidableEq
def withOrder (s : Sto) (x : Int) (c : List Int) : Sit := ⟨x, c ++ [amount s (x + c.sum)]⟩
def begunS (s : Sto) (start : Int) : Sit := withOrder s start (List.replicate (s.wait - 1).toNat 0)
/-- a day -/
def dayRow (s : Sto) (x : Sit) (d : Int) : DRow :=
  let c := x.coming.headD 0
  let there := min s.room (x.stock + c)
  let missed := max 0 (d - there)
  ⟨c, x.stock + c - there, missed, there - d + missed, amount s (there - d + missed + x.coming.tail.sum)⟩
def dayS (s : Sto) (x : Sit) (d : Int) : Sit := ⟨(dayRow s x d).stock, x.coming.tail ++ [(dayRow s x d).ordered]⟩
def runS (s : Sto) : Sit → List Int → Sit
  | x, [] => x
  | x, d :: r => runS s (dayS s x d) r
def rowsS (s : Sto) : Sit → List Int → List DRow
  | _, [] => []
  | x, d :: r => dayRow s x d :: rowsS s (dayS s x d) r
theorem runS_append (s : Sto) : ∀ (x : Sit) (a b : List Int), runS s x (a ++ b) = runS s (runS s x a) b
  | _, [], _ => rfl
  | x, d :: r, b => runS_append s (dayS s x d) r b
theorem rowsS_append (s : Sto) : ∀ (x : Sit) (a b : List Int), rowsS s x (a ++ b) = rowsS s x a ++ rowsS s (runS s x a) b
  | _, [], _ => rfl
  | x, d :: r, b => by
    show dayRow s x d :: rowsS s (dayS s x d) (r ++ b) = dayRow s x d :: (rowsS s (dayS s x d) r ++ rowsS s (runS s (dayS s x d) r) b)
    rw [rowsS_append s (dayS s x d) r b]
theorem runS_snoc (s : Sto) (x : Sit) (a : List Int) (d : Int) : runS s x (a ++ [d]) = dayS s (runS s x a) d := runS_append s x a [d]
theorem rowsS_snoc (s : Sto) (x : Sit) (a : List Int) (d : Int) : rowsS s x (a ++ [d]) = rowsS s x a ++ [dayRow s (runS s x a) d] := rowsS_append s x a [d]
theorem rowsS_len (s : Sto) : ∀ (x : Sit) (a : List Int), (rowsS s x a).length = a.length
  | _, [] => rfl
  | x, d :: r => by show (rowsS s (dayS s x d) r).length + 1 = r.length + 1; rw [rowsS_len s _ r]
theorem rowsS_take (s : Sto) : ∀ (x : Sit) (a : List Int) (n : Nat), rowsS s x (a.take n) = (rowsS s x a).take n
  | _, [], n => by simp [rowsS]
  | _, _ :: _, 0 => rfl
  | x, d :: r, n + 1 => by
    show dayRow s x d :: rowsS s (dayS s x d) (r.take n) = dayRow s x d :: (rowsS s (dayS s x d) r).take n
    rw [rowsS_take s _ r n]
/-- a situation of a store: as many as the wait are coming -/
structure SitOk (s : Sto) (x : Sit) : Prop where
  len : x.coming.length = s.wait.toNat
  x0 : 0 ≤ x.stock
  xr : x.stock ≤ s.room
  c0 : ∀ c ∈ x.coming, 0 ≤ c
theorem amount_nn {s : Sto} (h : s.ok) (p : Int) (hp : 0 ≤ p) : 0 ≤ amount s p := by
  unfold amount
  have h1 := h.s1
  have h2 := h.sz
  split
  · omega
  · split
    · rw [if_pos (by assumption)] at h2; omega
    · refine Int.mul_nonneg ?_ (by omega)
      have : 0 ≤ (s.level - p) / s.size := Int.ediv_nonneg (by omega) (by omega)
      omega
theorem sum_nn : ∀ {l : List Int}, (∀ c ∈ l, 0 ≤ c) → 0 ≤ l.sum
  | [], _ => Int.le_refl _
  | a :: r, h => by
    have := sum_nn fun c hc => h c (List.mem_cons_of_mem _ hc)
    have := h a List.mem_cons_self
    rw [List.sum_cons]; omega
theorem withOrder_ok {s : Sto} (h : s.ok) {x : Int} {c : List Int} (hc : c.length + 1 = s.wait.toNat) (h0 : 0 ≤ x) (h1 : x ≤ s.room) (hn : ∀ y ∈ c, 0 ≤ y) : SitOk s (withOrder s x c) := by
  refine ⟨by show (c ++ [_]).length = _; rw [List.length_append]; exact hc, h0, h1, fun y hy => ?_⟩
  rcases List.mem_append.mp hy with e | e
  · exact hn y e
  · simp at e
    subst e
    exact amount_nn h _ (by have := sum_nn hn; omega)
theorem begunS_ok {s : Sto} (h : s.ok) {x : Int} (h0 : 0 ≤ x) (h1 : x ≤ s.room) : SitOk s (begunS s x) := by
  refine withOrder_ok h ?_ h0 h1 fun y hy => ?_
  · have := h.w1
    rw [List.length_replicate]; omega
  · rw [List.eq_of_mem_replicate hy]; omega
theorem dayS_eq (s : Sto) (x : Sit) (d : Int) : dayS s x d = withOrder s (dayRow s x d).stock x.coming.tail := rfl
theorem SitOk.head {s : Sto} (h : s.ok) {x : Sit} (k : SitOk s x) : ∃ c r, x.coming = c :: r ∧ 0 ≤ c ∧ r.length + 1 = s.wait.toNat ∧ ∀ y ∈ r, 0 ≤ y := by
  have hl := k.len
  have := h.w1
  cases e : x.coming with
  | nil => rw [e] at hl; simp at hl; omega
  | cons c r =>
    have hc := k.c0
    rw [e] at hl hc
    exact ⟨c, r, rfl, hc c List.mem_cons_self, hl, fun y hy => hc y (List.mem_cons_of_mem _ hy)⟩
theorem dayS_ok {s : Sto} (h : s.ok) {x : Sit} (k : SitOk s x) {d : Int} (hd : 0 ≤ d) : SitOk s (dayS s x d) := by
  obtain ⟨c, r, e, hc, hl, hr⟩ := k.head h
  have := k.x0; have := k.xr; have := h.r1
  rw [dayS_eq, e]
  refine withOrder_ok h hl ?_ ?_ hr
  · unfold dayRow; rw [e]; simp only [List.headD_cons]; omega
  · unfold dayRow; rw [e]; simp only [List.headD_cons]; omega
theorem runS_ok {s : Sto} (h : s.ok) : ∀ {x : Sit} {ms : List Int}, SitOk s x → (∀ m ∈ ms, 0 ≤ m) → SitOk s (runS s x ms)
  | _, [], k, _ => k
  | x, d :: r, k, hm => runS_ok h (x := dayS s x d) (ms := r) (dayS_ok h k (hm d List.mem_cons_self)) fun m hm' => hm m (List.mem_cons_of_mem _ hm')
end SR
/-! Plain facts: what comes in, goes out and is left. -/
namespace SR
def sumBy (f : DRow → Int) (rs : List DRow) : Int := (rs.map f).sum
theorem sumBy_nil (f : DRow → Int) : sumBy f [] = 0 := rfl
theorem sumBy_cons (f : DRow → Int) (r : DRow) (rs : List DRow) : sumBy f (r :: rs) = f r + sumBy f rs := by
  unfold sumBy
  rw [List.map_cons, List.sum_cons]
theorem day_stock (s : Sto) (x : Sit) (d : Int) : (dayRow s x d).stock = x.stock + (dayRow s x d).came - (dayRow s x d).spilled - d + (dayRow s x d).missed := by
  unfold dayRow
  simp only
  omega
theorem head_tail_sum : ∀ l : List Int, l.headD 0 + l.tail.sum = l.sum
  | [] => rfl
  | a :: r => by rw [List.headD_cons, List.tail_cons, List.sum_cons]
theorem day_coming (s : Sto) (x : Sit) (d : Int) : (dayRow s x d).came + (dayS s x d).coming.sum = x.coming.sum + (dayRow s x d).ordered := by
  show x.coming.headD 0 + (x.coming.tail ++ [(dayRow s x d).ordered]).sum = _
  rw [List.sum_append, ← head_tail_sum x.coming]
  simp
  omega
theorem balance1 (s : Sto) : ∀ (x : Sit) (ms : List Int), x.stock + sumBy DRow.came (rowsS s x ms) = sumBy DRow.spilled (rowsS s x ms) + ms.sum - sumBy DRow.missed (rowsS s x ms) + (runS s x ms).stock
  | x, [] => by simp [rowsS, runS, sumBy]
  | x, d :: r => by
    have ih := balance1 s (dayS s x d) r
    have h1 := day_stock s x d
    show x.stock + sumBy DRow.came (dayRow s x d :: rowsS s (dayS s x d) r) = sumBy DRow.spilled (dayRow s x d :: rowsS s (dayS s x d) r) + (d :: r).sum - sumBy DRow.missed (dayRow s x d :: rowsS s (dayS s x d) r) + (runS s (dayS s x d) r).stock
    rw [sumBy_cons, sumBy_cons, sumBy_cons, List.sum_cons]
    have h2 : (dayS s x d).stock = (dayRow s x d).stock := rfl
    omega
theorem balance2 (s : Sto) : ∀ (x : Sit) (ms : List Int), sumBy DRow.came (rowsS s x ms) + (runS s x ms).coming.sum = x.coming.sum + sumBy DRow.ordered (rowsS s x ms)
  | x, [] => by simp [rowsS, runS, sumBy]
  | x, d :: r => by
    have ih := balance2 s (dayS s x d) r
    have h1 := day_coming s x d
    show sumBy DRow.came (dayRow s x d :: rowsS s (dayS s x d) r) + (runS s (dayS s x d) r).coming.sum = x.coming.sum + sumBy DRow.ordered (dayRow s x d :: rowsS s (dayS s x d) r)
    rw [sumBy_cons, sumBy_cons]
    omega
structure RowOk (s : Sto) (r : DRow) : Prop where
  c0 : 0 ≤ r.came
  s0 : 0 ≤ r.spilled
  m0 : 0 ≤ r.missed
  x0 : 0 ≤ r.stock
  xr : r.stock ≤ s.room
  o0 : 0 ≤ r.ordered
theorem dayRow_ok {s : Sto} (h : s.ok) {x : Sit} (k : SitOk s x) {d : Int} (hd : 0 ≤ d) : RowOk s (dayRow s x d) := by
  obtain ⟨c, r, e, hc, hl, hr⟩ := k.head h
  have := k.x0; have := k.xr; have := h.r1
  have k2 := dayS_ok h k hd
  have h1 : (dayS s x d).stock = (dayRow s x d).stock := rfl
  refine ⟨?_, ?_, ?_, by rw [← h1]; exact k2.x0, by rw [← h1]; exact k2.xr, ?_⟩
  · unfold dayRow; rw [e]; exact hc
  · unfold dayRow; rw [e]; simp only [List.headD_cons]; omega
  · unfold dayRow; simp only; omega
  · exact k2.c0 _ (by show _ ∈ x.coming.tail ++ [_]; simp)
theorem rowsS_ok {s : Sto} (h : s.ok) : ∀ {x : Sit} {ms : List Int}, SitOk s x → (∀ m ∈ ms, 0 ≤ m) → ∀ r ∈ rowsS s x ms, RowOk s r
  | _, [], _, _, r, hr => by cases hr
  | x, d :: ms, k, hm, r, hr => by
    rcases List.mem_cons.mp hr with rfl | hr
    · exact dayRow_ok h k (hm d List.mem_cons_self)
    · exact rowsS_ok h (x := dayS s x d) (ms := ms) (dayS_ok h k (hm d List.mem_cons_self)) (fun m hm' => hm m (List.mem_cons_of_mem _ hm')) r hr
end SR
/-! Plain facts: a graph walked level by level, in the order of the demands. -/
namespace SR
theorem snoc_ind {α : Type} {P : List α → Prop} (h0 : P []) (hs : ∀ ds d, P ds → P (ds ++ [d])) (ds : List α) : P ds := by
  have key : ∀ n (l : List α), l.length = n → P l := by
    intro n
    induction n with
    | zero => intro l h; rw [List.eq_nil_of_length_eq_zero h]; exact h0
    | succ n ih =>
      intro l h
      have hne : l ≠ [] := by intro e; subst e; simp at h
      rw [← List.dropLast_concat_getLast hne]
      exact hs _ _ (ih _ (by rw [List.length_dropLast, h]; rfl))
  exact key _ ds rfl
/-- the order of tuples of whole numbers -/
def llt : List Int → List Int → Prop
  | _, [] => False
  | [], _ :: _ => True
  | a :: x, b :: y => a < b ∨ a = b ∧ llt x y
instance llt_dec : ∀ x y, Decidable (llt x y)
  | [], [] => isFalse id
  | _ :: _, [] => isFalse id
  | [], _ :: _ => isTrue True.intro
  | a :: x, b :: y => by
    unfold llt
    have := llt_dec x y
    exact inferInstance
theorem llt_irrefl : ∀ x, ¬ llt x x
  | [], h => h
  | a :: x, h => by
    rcases h with h | h
    · omega
    · exact llt_irrefl x h.2
theorem llt_trans : ∀ {x y z : List Int}, llt x y → llt y z → llt x z
  | [], [], _, h, _ => h.elim
  | _ :: _, [], _, h, _ => h.elim
  | _, _ :: _, [], _, h => h.elim
  | [], _ :: _, _ :: _, _, _ => True.intro
  | a :: x, b :: y, c :: z, h, k => by
    rcases h with h | ⟨rfl, h⟩
    · rcases k with k | ⟨rfl, k⟩
      · exact .inl (by omega)
      · exact .inl h
    · rcases k with k | ⟨rfl, k⟩
      · exact .inl k
      · exact .inr ⟨rfl, llt_trans h k⟩
theorem llt_tri : ∀ x y : List Int, llt x y ∨ x = y ∨ llt y x
  | [], [] => .inr (.inl rfl)
  | [], _ :: _ => .inl True.intro
  | _ :: _, [] => .inr (.inr True.intro)
  | a :: x, b :: y => by
    by_cases h : a < b
    · exact .inl (.inl h)
    · by_cases h2 : b < a
      · exact .inr (.inr (.inl h2))
      · have : a = b := by omega
        subst this
        rcases llt_tri x y with k | k | k
        · exact .inl (.inr ⟨rfl, k⟩)
        · exact .inr (.inl (by rw [k]))
        · exact .inr (.inr (.inr ⟨rfl, k⟩))
theorem llt_app : ∀ {x y : List Int} (u v : List Int), x.length = y.length → llt x y → llt (x ++ u) (y ++ v)
  | [], [], _, _, _, h => h.elim
  | a :: x, b :: y, u, v, hl, h => by
    rcases h with h | ⟨rfl, h⟩
    · exact .inl h
    · exact .inr ⟨rfl, llt_app u v (by simpa using hl) h⟩
theorem llt_same : ∀ (x : List Int) {u v : List Int}, llt u v → llt (x ++ u) (x ++ v)
  | [], _, _, h => h
  | a :: x, _, _, h => .inr ⟨rfl, llt_same x h⟩
/-- shorter ones first, else by the order of tuples -/
def slt (x y : List Int) : Prop := x.length < y.length ∨ x.length = y.length ∧ llt x y
def sle (x y : List Int) : Prop := x = y ∨ slt x y
theorem slt_trans {x y z : List Int} (h : slt x y) (k : slt y z) : slt x z := by
  rcases h with h | ⟨h1, h2⟩ <;> rcases k with k | ⟨k1, k2⟩
  · exact .inl (by omega)
  · exact .inl (by omega)
  · exact .inl (by omega)
  · exact .inr ⟨by omega, llt_trans h2 k2⟩
theorem slt_irrefl (x : List Int) : ¬ slt x x := by
  rintro (h | ⟨_, h⟩)
  · omega
  · exact llt_irrefl x h
theorem slt_tri (x y : List Int) : slt x y ∨ x = y ∨ slt y x := by
  by_cases h : x.length < y.length
  · exact .inl (.inl h)
  · by_cases h2 : y.length < x.length
    · exact .inr (.inr (.inl h2))
    · rcases llt_tri x y with k | k | k
      · exact .inl (.inr ⟨by omega, k⟩)
      · exact .inr (.inl k)
      · exact .inr (.inr (.inr ⟨by omega, k⟩))
theorem sle_refl (x : List Int) : sle x x := .inl rfl
theorem sle_trans {x y z : List Int} (h : sle x y) (k : sle y z) : sle x z := by
  rcases h with rfl | h
  · exact k
  · rcases k with rfl | k
    · exact .inr h
    · exact .inr (slt_trans h k)
theorem slt_of_sle {x y z : List Int} (h : sle x y) (k : slt y z) : slt x z := by
  rcases h with rfl | h
  · exact k
  · exact slt_trans h k
theorem sle_anti {x y : List Int} (h : sle x y) (k : sle y x) : x = y := by
  rcases h with h | h
  · exact h
  · rcases k with k | k
    · exact k.symm
    · exact (slt_irrefl x (slt_trans h k)).elim
theorem sle_len {x y : List Int} (h : sle x y) : x.length ≤ y.length := by
  rcases h with rfl | h | h <;> omega
theorem sle_snoc {x y : List Int} (d : Int) (h : sle x y) : sle (x ++ [d]) (y ++ [d]) := by
  rcases h with rfl | h | ⟨h1, h2⟩
  · exact .inl rfl
  · exact .inr (.inl (by simp; omega))
  · exact .inr (.inr ⟨by simp; omega, llt_app _ _ h1 h2⟩)
section
variable {N : Type} [DecidableEq N] (nx : N → Int → N) (al : N → List Int) (b0 : N)
/-- where demands lead -/
def goN (ds : List Int) : N := ds.foldl nx b0
theorem goN_snoc (ds : List Int) (d : Int) : goN nx b0 (ds ++ [d]) = nx (goN nx b0 ds) d := by
  unfold goN; rw [List.foldl_append]; rfl
/-- each demand is possible where it comes -/
def OkN (ds : List Int) : Prop := ∀ i (h : i < ds.length), ds[i] ∈ al (goN nx b0 (ds.take i))
theorem okN_nil : OkN nx al b0 [] := fun i h => absurd h (Nat.not_lt_zero i)
theorem okN_snoc (ds : List Int) (d : Int) : OkN nx al b0 (ds ++ [d]) ↔ OkN nx al b0 ds ∧ d ∈ al (goN nx b0 ds) := by
  constructor
  · intro h
    refine ⟨fun i hi => ?_, ?_⟩
    · have := h i (by simp; omega)
      rw [List.getElem_append_left hi, List.take_append_of_le_length (by omega)] at this
      exact this
    · have := h ds.length (by simp)
      rw [List.getElem_append_right (Nat.le_refl _), List.take_left] at this
      simpa using this
  · rintro ⟨h1, h2⟩ i hi
    by_cases hl : i < ds.length
    · rw [List.getElem_append_left hl, List.take_append_of_le_length (by omega)]
      exact h1 i hl
    · have e : i = ds.length := by simp at hi; omega
      subst e
      rw [List.getElem_append_right (Nat.le_refl _), List.take_left]
      simpa using h2
abbrev Ent (N : Type) := N × List Int
def keyIn (M : List (Ent N)) (n : N) : Bool := M.any fun e => decide (e.1 = n)
def addC (M : List (Ent N)) (c : Ent N) : List (Ent N) := if keyIn M c.1 = true then M else M ++ [c]
def candN (e : Ent N) : List (Ent N) := (al e.1).map fun d => (nx e.1 d, e.2 ++ [d])
def candsN (L : List (Ent N)) : List (Ent N) := L.flatMap (candN nx al)
theorem keyIn_iff {M : List (Ent N)} {n : N} : keyIn M n = true ↔ ∃ ds, (n, ds) ∈ M := by
  unfold keyIn
  rw [List.any_eq_true]
  constructor
  · rintro ⟨⟨m, ds⟩, h, e⟩
    simp at e; subst e
    exact ⟨ds, h⟩
  · rintro ⟨ds, h⟩
    exact ⟨_, h, by simp⟩
theorem addC_mem {M : List (Ent N)} {c e : Ent N} (h : e ∈ M) : e ∈ addC M c := by
  unfold addC; split
  · exact h
  · exact List.mem_append_left _ h
theorem foldC_mem : ∀ (C : List (Ent N)) {M : List (Ent N)} {e : Ent N}, e ∈ M → e ∈ C.foldl addC M
  | [], _, _, h => h
  | c :: C, _, _, h => foldC_mem C (addC_mem h)
/-- what a row of candidates adds -/
theorem foldC_new : ∀ (C M : List (Ent N)), ∃ L, C.foldl addC M = M ++ L ∧ L.Sublist C ∧ ((M.map (·.1)).Nodup → ((M ++ L).map (·.1)).Nodup)
  | [], M => ⟨[], by simp, List.Sublist.refl _, fun h => by simpa using h⟩
  | c :: C, M => by
    by_cases h : keyIn M c.1 = true
    · obtain ⟨L, h1, h2, h3⟩ := foldC_new C M
      exact ⟨L, by rw [List.foldl_cons, addC, if_pos h]; exact h1, h2.cons _, h3⟩
    · obtain ⟨L, h1, h2, h3⟩ := foldC_new C (M ++ [c])
      refine ⟨c :: L, by rw [List.foldl_cons, addC, if_neg h, h1]; simp, h2.cons₂ _, fun hn => ?_⟩
      have := h3 (by
        rw [List.map_append, List.nodup_append]
        refine ⟨hn, by simp, fun a ha b hb => ?_⟩
        obtain ⟨e, he, rfl⟩ := List.mem_map.mp ha
        simp at hb
        subst hb
        intro z
        exact h (keyIn_iff.mpr ⟨e.2, by rw [← z]; exact he⟩))
      simpa using this
/-- each candidate's node is there behind it, by demands that are not later -/
theorem foldC_all : ∀ (C M : List (Ent N)), (∀ e ∈ M, ∀ c ∈ C, slt e.2 c.2) → C.Pairwise (fun a b => slt a.2 b.2) → ∀ c ∈ C, ∃ ds, (c.1, ds) ∈ C.foldl addC M ∧ sle ds c.2
  | [], _, _, _, c, h => by cases h
  | a :: C, M, hM, hp, c, h => by
    obtain ⟨p1, p2⟩ := List.pairwise_cons.mp hp
    rw [List.foldl_cons]
    rcases List.mem_cons.mp h with rfl | h
    · by_cases hk : keyIn M c.1 = true
      · obtain ⟨ds, hd⟩ := keyIn_iff.mp hk
        exact ⟨ds, foldC_mem C (addC_mem hd), .inr (hM _ hd c List.mem_cons_self)⟩
      · refine ⟨c.2, foldC_mem C ?_, .inl rfl⟩
        rw [addC, if_neg hk]; simp
    · refine foldC_all C (addC M a) (fun e he c' hc' => ?_) p2 c h
      unfold addC at he
      split at he
      · exact hM e he c' (List.mem_cons_of_mem _ hc')
      · rcases List.mem_append.mp he with he | he
        · exact hM e he c' (List.mem_cons_of_mem _ hc')
        · simp at he; subst he; exact p1 c' hc'
/-- what holds between two levels: M all so far, its end L the level, m its days -/
structure BI (M L : List (Ent N)) (m : Nat) : Prop where
  nd : (M.map (·.1)).Nodup
  st : (b0, []) ∈ M
  ok : ∀ e ∈ M, OkN nx al b0 e.2 ∧ goN nx b0 e.2 = e.1
  le : ∀ e ∈ M, e.2.length ≤ m
  sub : ∀ e ∈ L, e ∈ M
  lev : ∀ e ∈ L, e.2.length = m
  asc : L.Pairwise (fun a b => slt a.2 b.2)
  cl : ∀ e ∈ M, e ∉ L → ∀ d ∈ al e.1, ∃ ds, (nx e.1 d, ds) ∈ M ∧ sle ds (e.2 ++ [d])
theorem bi_start : BI nx al b0 [(b0, [])] [(b0, [])] 0 :=
  ⟨by simp, by simp, fun e he => by simp at he; subst he; exact ⟨okN_nil nx al b0, rfl⟩, fun e he => by simp at he; subst he; exact Nat.le_refl _, fun e he => he,
    fun e he => by simp at he; subst he; rfl, by simp, fun e he hn => (hn he).elim⟩
theorem cands_asc (hal : ∀ n, (al n).Pairwise (· < ·)) (m : Nat) : ∀ L : List (Ent N), (∀ e ∈ L, e.2.length = m) → L.Pairwise (fun a b => slt a.2 b.2) → (candsN nx al L).Pairwise (fun a b => slt a.2 b.2)
  | [], _, _ => List.Pairwise.nil
  | e :: L, hl, hp => by
    obtain ⟨p1, p2⟩ := List.pairwise_cons.mp hp
    unfold candsN
    rw [List.flatMap_cons, List.pairwise_append]
    refine ⟨?_, cands_asc hal m L (fun x hx => hl x (List.mem_cons_of_mem _ hx)) p2, fun a ha b hb => ?_⟩
    · unfold candN
      rw [List.pairwise_map]
      refine (hal e.1).imp fun {a b} hab => .inr ⟨by simp, llt_same _ (.inl hab)⟩
    · obtain ⟨d, _, rfl⟩ := List.mem_map.mp ha
      obtain ⟨x, hx, hb⟩ := List.mem_flatMap.mp hb
      obtain ⟨d2, _, rfl⟩ := List.mem_map.mp hb
      have h1 := hl e List.mem_cons_self
      have h2 := hl x (List.mem_cons_of_mem _ hx)
      rcases p1 x hx with h | ⟨h, k⟩
      · omega
      · exact .inr ⟨by simp [h1, h2], llt_app _ _ h k⟩
theorem bi_step {M L : List (Ent N)} {m : Nat} (hal : ∀ n, (al n).Pairwise (· < ·)) (h : BI nx al b0 M L m) :
    ∃ L', (candsN nx al L).foldl addC M = M ++ L' ∧ BI nx al b0 (M ++ L') L' (m + 1) := by
  obtain ⟨L', e, hs, hn⟩ := foldC_new (candsN nx al L) M
  have hc : ∀ c ∈ candsN nx al L, ∃ x ∈ L, ∃ d ∈ al x.1, c = (nx x.1 d, x.2 ++ [d]) := fun c hc => by
    obtain ⟨x, hx, h2⟩ := List.mem_flatMap.mp hc
    obtain ⟨d, hd, rfl⟩ := List.mem_map.mp h2
    exact ⟨x, hx, d, hd, rfl⟩
  have hl : ∀ c ∈ candsN nx al L, c.2.length = m + 1 := fun c hc' => by
    obtain ⟨x, hx, d, hd, rfl⟩ := hc c hc'
    simp [h.lev x hx]
  have hasc := cands_asc nx al hal m L h.lev h.asc
  have hall := foldC_all (candsN nx al L) M (fun x hx c hc' => .inl (by have := h.le x hx; have := hl c hc'; omega)) hasc
  refine ⟨L', e, hn h.nd, ?_, fun x hx => ?_, fun x hx => ?_, fun x hx => List.mem_append_right _ hx, fun x hx => hl x (hs.subset hx), hasc.sublist hs, fun x hx hnx d hd => ?_⟩
  · exact List.mem_append_left _ h.st
  · rcases List.mem_append.mp hx with hx | hx
    · exact h.ok x hx
    · obtain ⟨y, hy, d, hd, rfl⟩ := hc x (hs.subset hx)
      obtain ⟨o1, o2⟩ := h.ok y (h.sub y hy)
      exact ⟨(okN_snoc nx al b0 _ _).mpr ⟨o1, by rw [o2]; exact hd⟩, by rw [goN_snoc, o2]⟩
  · rcases List.mem_append.mp hx with hx | hx
    · have := h.le x hx; omega
    · exact Nat.le_of_eq (hl x (hs.subset hx))
  · rcases List.mem_append.mp hx with hx | hx
    · by_cases hxl : x ∈ L
      · obtain ⟨ds, h1, h2⟩ := hall (nx x.1 d, x.2 ++ [d]) (List.mem_flatMap.mpr ⟨x, hxl, List.mem_map.mpr ⟨d, hd, rfl⟩⟩)
        exact ⟨ds, by rw [e] at h1; exact h1, h2⟩
      · obtain ⟨ds, h1, h2⟩ := h.cl x hx hxl d hd
        exact ⟨ds, List.mem_append_left _ h1, h2⟩
    · exact (hnx hx).elim
/-- all is met, by the first demands -/
structure Met (M : List (Ent N)) : Prop where
  nd : (M.map (·.1)).Nodup
  ok : ∀ e ∈ M, OkN nx al b0 e.2 ∧ goN nx b0 e.2 = e.1
  all : ∀ ds, OkN nx al b0 ds → ∃ es, (goN nx b0 ds, es) ∈ M ∧ sle es ds
theorem bi_end {M : List (Ent N)} {m : Nat} (h : BI nx al b0 M [] m) : Met nx al b0 M := by
  refine ⟨h.nd, h.ok, snoc_ind (fun _ => ?_) fun ds d ih ho => ?_⟩
  · exact ⟨[], h.st, .inl rfl⟩
  · obtain ⟨h1, h2⟩ := (okN_snoc nx al b0 ds d).mp ho
    obtain ⟨es, h3, h4⟩ := ih h1
    obtain ⟨fs, h5, h6⟩ := h.cl _ h3 (by simp) d h2
    exact ⟨fs, by rw [goN_snoc]; exact h5, sle_trans h6 (sle_snoc d h4)⟩
end
end SR
/-! Plain facts: the nodes of the program: a situation and the demands of the last days. -/
namespace SR
structure Node where
  s : Sit
  r : List Int
  deriving DecidableEq
/-- the demands that matter for further ones -/
def recB (b : Bd) (ds : List Int) : List Int := ds.drop (ds.length - (b.days - 1).toNat)
def alB (b : Bd) (r : List Int) : List Int := (irange b.low b.high).filter fun d => fitB b (r ++ [d])
def stepN (st : Sto) (b : Bd) (n : Node) (d : Int) : Node := ⟨dayS st n.s d, recB b (n.r ++ [d])⟩
def alN (b : Bd) (n : Node) : List Int := alB b n.r
def begN (st : Sto) (x : Int) : Node := ⟨begunS st x, []⟩
def nodeB (st : Sto) (x : Int) (b : Bd) (ds : List Int) : Node := ⟨runS st (begunS st x) ds, recB b ds⟩
theorem irange_asc (lo hi : Int) : (irange lo hi).Pairwise (· < ·) := by
  unfold irange
  rw [List.pairwise_map]
  refine List.pairwise_lt_range.imp fun {a b} h => ?_
  omega
theorem alN_asc (b : Bd) (n : Node) : (alN b n).Pairwise (· < ·) := (irange_asc _ _).sublist List.filter_sublist
theorem recB_snoc (b : Bd) (ds : List Int) (d : Int) : recB b (recB b ds ++ [d]) = recB b (ds ++ [d]) := by
  unfold recB
  generalize (b.days - 1).toNat = n
  by_cases h : n ≤ ds.length
  · rw [show ds ++ [d] = ds.take (ds.length - n) ++ (ds.drop (ds.length - n) ++ [d]) by rw [← List.append_assoc, List.take_append_drop]]
    generalize hq : ds.drop (ds.length - n) ++ [d] = q
    have hl : q.length = n + 1 := by rw [← hq, List.length_append, List.length_drop, List.length_singleton]; omega
    have e1 : (ds.take (ds.length - n)).length = ds.length - n := by rw [List.length_take]; omega
    rw [List.drop_append, e1, List.length_append, e1, hl, List.drop_eq_nil_of_le (as := ds.take (ds.length - n)) (by omega), List.nil_append]
    congr 1
    omega
  · rw [show ds.length - n = 0 by omega, List.drop_zero]
theorem goN_eq (st : Sto) (x : Int) (b : Bd) : ∀ ds, goN (stepN st b) (begN st x) ds = nodeB st x b ds := by
  refine snoc_ind ?_ fun ds d ih => ?_
  · unfold goN nodeB recB begN runS; simp
  · rw [goN_snoc, ih]
    unfold stepN nodeB
    rw [runS_snoc, recB_snoc]
theorem winS_drop (b : Bd) (ds : List Int) (o k : Nat) : winS b (ds.drop o) k = winS b ds (o + k) := by
  unfold winS
  refine sumTo_congr fun j _ => ?_
  rw [List.getD_eq_getElem?_getD, List.getD_eq_getElem?_getD, List.getElem?_drop, Nat.add_assoc]
theorem fit_drop {b : Bd} (hb : b.ok) {ds : List Int} (h : fitB b ds = true) (o : Nat) : fitB b (ds.drop o) = true := by
  rw [fitB_iff hb.d1] at h ⊢
  refine ⟨fun m hm => h.1 m (List.mem_of_mem_drop hm), fun k hk => ?_⟩
  rw [winS_drop]
  rw [List.length_drop] at hk
  exact h.2 _ (by omega)
/-- only the last demands matter -/
theorem fit_rec {b : Bd} (hb : b.ok) {ds : List Int} (h : fitB b ds = true) (d : Int) : fitB b (recB b ds ++ [d]) = fitB b (ds ++ [d]) := by
  have hr := fit_drop hb h (ds.length - (b.days - 1).toNat)
  have e : fitB b (recB b ds ++ [d]) = true ↔ fitB b (ds ++ [d]) = true := by
    unfold recB
    rw [fit_snoc hb hr, fit_snoc hb h]
    have := hb.d1
    refine and_congr Iff.rfl ⟨fun q k hk hl => ?_, fun q k hk hl => ?_⟩
    · have := q (k - (ds.length - (b.days - 1).toNat)) (by rw [List.length_drop]; omega) (by rw [List.length_drop]; omega)
      rw [winS_drop, show ds.length - (b.days - 1).toNat + (k - (ds.length - (b.days - 1).toNat)) = k by omega] at this
      exact this
    · rw [winS_drop]
      rw [List.length_drop] at hk hl
      exact q _ (by omega) (by omega)
  cases h1 : fitB b (recB b ds ++ [d]) <;> cases h2 : fitB b (ds ++ [d]) <;> simp_all
theorem okN_iff {st : Sto} {x : Int} {b : Bd} (hb : b.ok) : ∀ ds, OkN (stepN st b) (alN b) (begN st x) ds ↔ fitB b ds = true := by
  refine snoc_ind ?_ fun ds d ih => ?_
  · exact ⟨fun _ => rfl, fun _ => okN_nil _ _ _⟩
  · rw [okN_snoc, ih, goN_eq]
    unfold alN alB nodeB
    rw [List.mem_filter, mem_irange]
    constructor
    · rintro ⟨h1, _, h2⟩
      rw [← fit_rec hb h1]; exact h2
    · intro h
      have h1 := fit_init hb h
      exact ⟨h1, fit_range hb h1 h, by rw [fit_rec hb h1]; exact h⟩
abbrev MetB (st : Sto) (x : Int) (b : Bd) (M : List (Ent Node)) : Prop := Met (stepN st b) (alN b) (begN st x) M
theorem metB_mem {st : Sto} {x : Int} {b : Bd} (hb : b.ok) {M : List (Ent Node)} (h : MetB st x b M) {n : Node} {ds : List Int} (hm : (n, ds) ∈ M) : fitB b ds = true ∧ n = nodeB st x b ds := by
  obtain ⟨h1, h2⟩ := h.ok _ hm
  exact ⟨(okN_iff hb ds).mp h1, by rw [← goN_eq]; exact h2.symm⟩
theorem metB_all {st : Sto} {x : Int} {b : Bd} (hb : b.ok) {M : List (Ent Node)} (h : MetB st x b M) {ds : List Int} (hf : fitB b ds = true) : ∃ es, (nodeB st x b ds, es) ∈ M ∧ sle es ds := by
  have := h.all ds ((okN_iff hb ds).mpr hf)
  rw [goN_eq] at this
  exact this
/-! ### how many there can be -/
theorem amount_le {s : Sto} (h : s.ok) (p : Int) (hp : 0 ≤ p) : amount s p ≤ 18 := by
  unfold amount
  have h1 := h.s1
  have h2 := h.sz
  have h3 := h.l12
  split
  · omega
  · split
    · rw [if_pos (by assumption)] at h2; omega
    · rw [if_neg (by assumption)] at h2
      have e : (s.level - p) / s.size * s.size ≤ s.level - p := Int.ediv_mul_le _ (by omega)
      rw [Int.add_mul]; omega
structure NodeOk (st : Sto) (b : Bd) (n : Node) : Prop where
  sit : SitOk st n.s
  c18 : ∀ c ∈ n.s.coming, c ≤ 18
  rl : n.r.length ≤ (b.days - 1).toNat
  rf : ∀ m ∈ n.r, b.low ≤ m ∧ m ≤ b.high
theorem begN_ok {st : Sto} (h : st.ok) {b : Bd} {x : Int} (h0 : 0 ≤ x) (h1 : x ≤ st.room) : NodeOk st b (begN st x) := by
  refine ⟨begunS_ok h h0 h1, fun c hc => ?_, by simp [begN], fun m hm => by simp [begN] at hm⟩
  unfold begN begunS withOrder at hc
  rcases List.mem_append.mp hc with e | e
  · rw [List.eq_of_mem_replicate e]; omega
  · simp at e; subst e
    exact amount_le h _ (by omega)
theorem stepN_ok {st : Sto} (h : st.ok) {b : Bd} (hb : b.ok) {n : Node} (k : NodeOk st b n) {d : Int} (h0 : b.low ≤ d) (h1 : d ≤ b.high) : NodeOk st b (stepN st b n d) := by
  have hd : 0 ≤ d := by have := hb.l0; omega
  have ks := dayS_ok h k.sit hd
  refine ⟨ks, fun c hc => ?_, ?_, fun m hm => ?_⟩
  · show c ≤ 18
    have hc' : c ∈ n.s.coming.tail ++ [(dayRow st n.s d).ordered] := hc
    rcases List.mem_append.mp hc' with e | e
    · exact k.c18 c (List.mem_of_mem_tail e)
    · simp at e; subst e
      refine amount_le h _ ?_
      have h2 : (dayS st n.s d).stock = (dayRow st n.s d).stock := rfl
      have h3 := ks.x0
      have h4 : 0 ≤ n.s.coming.tail.sum := sum_nn fun c hc => k.sit.c0 c (List.mem_of_mem_tail hc)
      rw [h2] at h3
      show 0 ≤ (dayRow st n.s d).stock + n.s.coming.tail.sum
      omega
  · show (recB b (n.r ++ [d])).length ≤ _
    unfold recB; rw [List.length_drop]; omega
  · have := List.mem_of_mem_drop hm
    rcases List.mem_append.mp this with e | e
    · exact k.rf m e
    · simp at e; subst e; exact ⟨h0, h1⟩
/-- lists of digits as a number -/
def codeL (B : Nat) : List Int → Nat
  | [] => 0
  | a :: r => (a.toNat + 1) + B * codeL B r
theorem codeL_inj {B : Nat} : ∀ {x y : List Int}, (∀ a ∈ x, 0 ≤ a ∧ a.toNat + 1 < B) → (∀ a ∈ y, 0 ≤ a ∧ a.toNat + 1 < B) → codeL B x = codeL B y → x = y
  | [], [], _, _, _ => rfl
  | [], b :: y, _, hy, h => by unfold codeL at h; omega
  | a :: x, [], hx, _, h => by unfold codeL at h; omega
  | a :: x, b :: y, hx, hy, h => by
    unfold codeL at h
    have ha := hx a List.mem_cons_self
    have hb := hy b List.mem_cons_self
    have e : a.toNat + 1 = b.toNat + 1 := by
      have := congrArg (· % B) h
      simp only [Nat.add_mul_mod_self_left, Nat.mod_eq_of_lt ha.2, Nat.mod_eq_of_lt hb.2] at this
      exact this
    have e2 : codeL B x = codeL B y := by
      rw [e] at h
      have := Nat.add_left_cancel h
      exact Nat.eq_of_mul_eq_mul_left (by omega) this
    rw [codeL_inj (fun c hc => hx c (List.mem_cons_of_mem _ hc)) (fun c hc => hy c (List.mem_cons_of_mem _ hc)) e2, show a = b by omega]
theorem codeL_lt {B : Nat} (hB : 2 ≤ B) : ∀ {x : List Int}, (∀ a ∈ x, 0 ≤ a ∧ a.toNat + 1 < B) → codeL B x < B ^ x.length
  | [], _ => by simp [codeL]
  | a :: x, hx => by
    unfold codeL
    have ha := hx a List.mem_cons_self
    have ih := codeL_lt hB fun c hc => hx c (List.mem_cons_of_mem _ hc)
    rw [List.length_cons, Nat.pow_succ, Nat.mul_comm (B ^ x.length) B]
    calc a.toNat + 1 + B * codeL B x < B + B * codeL B x := by omega
      _ = B * (codeL B x + 1) := by rw [Nat.mul_add]; omega
      _ ≤ B * B ^ x.length := Nat.mul_le_mul_left _ ih
/-- lists of one length -/
def codeF (B : Nat) : List Int → Nat
  | [] => 0
  | a :: r => a.toNat + B * codeF B r
theorem codeF_inj {B : Nat} : ∀ {x y : List Int}, x.length = y.length → (∀ a ∈ x, 0 ≤ a ∧ a.toNat < B) → (∀ a ∈ y, 0 ≤ a ∧ a.toNat < B) → codeF B x = codeF B y → x = y
  | [], [], _, _, _, _ => rfl
  | a :: x, b :: y, hl, hx, hy, h => by
    unfold codeF at h
    have ha := hx a List.mem_cons_self
    have hb := hy b List.mem_cons_self
    have e : a.toNat = b.toNat := by
      have := congrArg (· % B) h
      simp only [Nat.add_mul_mod_self_left, Nat.mod_eq_of_lt ha.2, Nat.mod_eq_of_lt hb.2] at this
      exact this
    have e2 : codeF B x = codeF B y := by
      rw [e] at h
      exact Nat.eq_of_mul_eq_mul_left (by omega) (Nat.add_left_cancel h)
    rw [codeF_inj (by simpa using hl) (fun c hc => hx c (List.mem_cons_of_mem _ hc)) (fun c hc => hy c (List.mem_cons_of_mem _ hc)) e2, show a = b by omega]
theorem codeF_lt {B : Nat} (hB : 1 ≤ B) : ∀ {x : List Int}, (∀ a ∈ x, 0 ≤ a ∧ a.toNat < B) → codeF B x < B ^ x.length
  | [], _ => by simp [codeF]
  | a :: x, hx => by
    unfold codeF
    have ha := hx a List.mem_cons_self
    have ih := codeF_lt hB fun c hc => hx c (List.mem_cons_of_mem _ hc)
    rw [List.length_cons, Nat.pow_succ, Nat.mul_comm (B ^ x.length) B]
    calc a.toNat + B * codeF B x < B + B * codeF B x := by omega
      _ = B * (codeF B x + 1) := by rw [Nat.mul_add]; omega
      _ ≤ B * B ^ x.length := Nat.mul_le_mul_left _ ih
def codeN (n : Node) : Nat := n.s.stock.toNat + 13 * (codeF 19 n.s.coming + 6859 * codeL 6 n.r)
theorem nd_lt : ∀ (B : Nat) {l : List Nat}, l.Nodup → (∀ x ∈ l, x < B) → l.length ≤ B
  | 0, l, _, h => by
    cases l with
    | nil => simp
    | cons a r => exact absurd (h a List.mem_cons_self) (Nat.not_lt_zero a)
  | B + 1, l, hn, h => by
    have h1 := nd_lt B (l := l.erase B) (hn.erase B) fun x hx => by
      have h2 := h x (List.mem_of_mem_erase hx)
      have h3 : x ≠ B := fun e => by subst e; exact (hn.not_mem_erase) hx
      omega
    have := List.length_erase_le (a := B) (l := l)
    by_cases hb : B ∈ l
    · rw [List.length_erase_of_mem hb] at h1; omega
    · rw [List.erase_of_not_mem hb] at h1; omega
def maxN : Nat := 3210012
theorem nodes_few {st : Sto} (h : st.ok) {b : Bd} (hb : b.ok) {l : List Node} (hn : l.Nodup) (hk : ∀ n ∈ l, NodeOk st b n) : l.length ≤ maxN := by
  have dc : ∀ n ∈ l, ∀ a ∈ n.s.coming, 0 ≤ a ∧ a.toNat < 19 := fun n hn a ha => by
    have := (hk n hn).sit.c0 a ha; have := (hk n hn).c18 a ha; omega
  have dr : ∀ n ∈ l, ∀ a ∈ n.r, 0 ≤ a ∧ a.toNat + 1 < 6 := fun n hn a ha => by
    have := (hk n hn).rf a ha; have := hb.l0; have := hb.h4; omega
  have ds : ∀ n ∈ l, 0 ≤ n.s.stock ∧ n.s.stock.toNat < 13 := fun n hn => by
    have := (hk n hn).sit.x0; have := (hk n hn).sit.xr; have := h.r12; omega
  have lc : ∀ n ∈ l, codeF 19 n.s.coming < 6859 := fun n hn => by
    refine Nat.lt_of_lt_of_le (codeF_lt (by omega) (dc n hn)) (Nat.le_trans (Nat.pow_le_pow_right (by omega) (j := 3) ?_) (by decide))
    have := (hk n hn).sit.len; have := h.w3; omega
  have lr : ∀ n ∈ l, codeL 6 n.r < 36 := fun n hn => by
    refine Nat.lt_of_lt_of_le (codeL_lt (by omega) (dr n hn)) (Nat.le_trans (Nat.pow_le_pow_right (by omega) (j := 2) ?_) (by decide))
    have := (hk n hn).rl; have := hb.d3; omega
  have inj : ∀ n ∈ l, ∀ m ∈ l, codeN n = codeN m → n = m := fun n hn m hm e => by
    unfold codeN at e
    have a1 := ds n hn; have a2 := ds m hm; have a3 := lc n hn; have a4 := lc m hm
    have e1 : n.s.stock.toNat = m.s.stock.toNat := by omega
    have e2 : codeF 19 n.s.coming = codeF 19 m.s.coming := by omega
    have e3 : codeL 6 n.r = codeL 6 m.r := by omega
    have f2 := codeF_inj (by rw [(hk n hn).sit.len, (hk m hm).sit.len]) (dc n hn) (dc m hm) e2
    have f3 := codeL_inj (dr n hn) (dr m hm) e3
    have f1 : n.s.stock = m.s.stock := by omega
    obtain ⟨⟨x, c⟩, r⟩ := n
    obtain ⟨⟨x2, c2⟩, r2⟩ := m
    simp only at f1 f2 f3
    rw [f1, f2, f3]
  have lt : ∀ n ∈ l, codeN n < maxN := fun n hn => by
    have a1 := ds n hn; have a3 := lc n hn; have a5 := lr n hn
    unfold codeN maxN; omega
  have hnd : (l.map codeN).Nodup := by
    clear hk dc dr ds lc lr lt
    induction l with
    | nil => simp
    | cons a r ih =>
      obtain ⟨n1, n2⟩ := List.nodup_cons.mp hn
      rw [List.map_cons, List.nodup_cons]
      refine ⟨fun hm => ?_, ih n2 fun n hn m hm => inj n (List.mem_cons_of_mem _ hn) m (List.mem_cons_of_mem _ hm)⟩
      obtain ⟨m, hm, e⟩ := List.mem_map.mp hm
      exact n1 (by rw [inj a List.mem_cons_self m (List.mem_cons_of_mem _ hm) e.symm]; exact hm)
  have := nd_lt maxN hnd fun x hx => by
    obtain ⟨n, hn, rfl⟩ := List.mem_map.mp hx
    exact lt n hn
  rw [List.length_map] at this
  exact this
end SR
namespace SR
open PySem PySem.Spec PyProof.Rows L2
/-! ### the order of plain data -/
def rLtD (K : PySem.W.Frag) : R2 := fun x y H Q => ∃ da db, Dp K H x da ∧ Dp K H y db ∧ PySem.W.alike da db = true ∧ da ≠ .none ∧ da.depth ≤ 60 ∧ Q (.bl (PySem.W.dataLt da db)) H
section
variable {X : Cx} {E : XK} {XC : XCt} {g : Ga} {W : Om} {a b c : Expr} {pos : Pos} {O : OD}
theorem op_ltD (hu : X.A.units + 64 < cLine) : OpR X (compareOp .Lt) (rLtD X.K) := by
  intro pins s σ H x y v u Q I rx ry h
  obtain ⟨d, e, hd, he, ha, hn, hz, q⟩ := h
  obtain ⟨as, r1⟩ := Dp.reads I d x v hd rx
  obtain ⟨bs, r2⟩ := Dp.reads I e y u he ry
  exact PySem.W.lt_data r1 r2 ha hn (by have := Nat.min_le_left d.depth e.depth; omega) ⟨.bl _, H, I, rfl, q⟩
def LtD : R2D := fun d e W O => ∃ y z, toP d = some y ∧ toP e = some z ∧ PySem.W.alike y z = true ∧ y ≠ .none ∧ y.depth ≤ 60 ∧ O (.bl (PySem.W.dataLt y z)) W
theorem op2_ltD (K : PySem.W.Frag) : Op2 K (rLtD K) LtD := fun x y d e H W O Q rx ry o q ⟨y1, z1, h1, h2, h3, h4, h5, h⟩ =>
  ⟨y1, z1, toP_dp h1 rx, toP_dp h2 ry, h3, h4, h5, q _ H _ W (Kp.refl H) o (.bl _) h⟩
theorem xt_ltD {O : Bool → Om → Prop} (hu : X.A.units + 64 < cLine) (h : XE X E XC a g W fun d W1 => XE X E XC b g W1 fun e W2 => LtD d e W2 (asB O)) : XT X E XC (.Compare a [.Lt] [b] pos) g W O :=
  xt_of (pt_cmpR (op_ltD hu) pe_W pe_W (nomark _ (by decide) (by decide))) (exT_test (ex_op (op2_ltD X.K) h))
/-- the least of a list of alike data -/
def rMinD (K : PySem.W.Frag) : List V → Hp → VK → Prop := fun vs H Q => ∃ (a : Addr) (xs : List V) (y : PyData) (ys : List PyData), vs = [V.ref a] ∧ SqL K H a xs ∧ DpAll K H xs (y :: ys) ∧ PySem.W.AlikeAll (y :: ys) ∧ PyData.depthAll (y :: ys) ≤ 60 ∧
  ∀ (i : Nat) v, xs[i]? = some v → (y :: ys)[i]? = some (PySem.W.minD y ys) → Q v H
theorem dpAll_get {K : PySem.W.Frag} {H : Hp} : ∀ {xs : List V} {ys : List PyData} {i : Nat} {v : V}, DpAll K H xs ys → xs[i]? = some v → ∃ y, ys[i]? = some y ∧ Dp K H v y
  | _, _, _, _, .nil, e => by simp at e
  | _, _, 0, _, .cons h _, e => by simp at e; subst e; exact ⟨_, by simp, h⟩
  | _, _, i + 1, v, .cons _ t, e => by
    obtain ⟨y, h1, h2⟩ := dpAll_get (i := i) t (by simpa using e)
    exact ⟨y, by simpa using h1, h2⟩
theorem minD_mem : ∀ (x : PyData) (xs : List PyData), PySem.W.minD x xs ∈ x :: xs
  | x, [] => by simp [PySem.W.minD]
  | x, y :: xs => by
    unfold PySem.W.minD
    rw [List.foldl_cons]
    have ih := minD_mem (if PySem.W.dataLt y x = true then y else x) xs
    unfold PySem.W.minD at ih
    rcases List.mem_cons.mp ih with e | e
    · rw [e]; split <;> simp
    · exact List.mem_cons_of_mem _ (List.mem_cons_of_mem _ e)
theorem cr_minD (hc : X.calm = true) (hu : X.A.units + 64 < cLine) : CallR X (.builtin "min") (rMinD X.K) := by
  intro pins s σ H vs us Q I r h
  obtain ⟨a, xs, y, ys, rfl, hs, hd, ha, hz, q⟩ := h
  obtain ⟨its, rv, hl, _⟩ := I.list hs
  rw [Vals.ref1 r]
  obtain ⟨as, hr⟩ := Dp.readsAll I (y :: ys) xs its hd rv
  refine PySem.W.min_list_data (I.ok.hd hc) hl.isList hr ha (by omega) fun i v h' tk bs hi hrd hk => ?_
  have hi' : its[i]? = some v := by simpa using hi
  obtain ⟨x, hx, rx⟩ : ∃ x, xs[i]? = some x ∧ RelV x v := by
    have hlen := Vals.length rv
    have hil := (List.getElem?_eq_some_iff.mp hi').1
    obtain ⟨u, e1, e2⟩ := Vals.get rv (List.getElem?_eq_getElem (l := xs) (i := i) (by omega))
    rw [hi'] at e1
    cases e1
    exact ⟨_, List.getElem?_eq_getElem (by omega), e2⟩
  obtain ⟨z, hz1, hz2⟩ := dpAll_get hd hx
  have I2 : Inv X pins σ H { s with heap := h', toks := tk } := I.kept hk
  obtain ⟨cs, r3⟩ := Dp.reads I2 z x v hz2 rx
  have e := PySem.W.alike_unique z (PySem.W.minD y ys) v _ _ (ha.1 z (List.mem_of_getElem? hz1) _ (minD_mem y ys)) r3 hrd
  exact ⟨x, H, I2, rx, q i x hx (by rw [hz1, e])⟩
theorem xe_minD {p : Pos} (hu : X.A.units + 64 < cLine) (hm : X.mg "min" = none) (h : XE X E XC a g W fun d W1 => ∃ l ds y ys, d = .p l ∧ W1 l = some (.lst ds) ∧ toPs ds = some (y :: ys) ∧ PySem.W.AlikeAll (y :: ys) ∧ PyData.depthAll (y :: ys) ≤ 60 ∧ ∀ (i : Nat) d, ds[i]? = some d → (y :: ys)[i]? = some (PySem.W.minD y ys) → O d W1)
    (hc : X.calm = true := by rfl) (hg : Gl X "min" := by rfl) (hs : starEach [a] X.env = (false, eval a X.env) :: starEach [] X.env := by rfl) (hp : (backTo pos (starEach [] X.env)).any (·.1) = false := by rfl) :
    XE X E XC (.Call (.Name "min" p) [a] [] pos) g W O := by
  refine xe_callB (cr_minD hc hu) hm (by decide +kernel) (xa1 (h.imp fun d W1 h1 => ?_) hs) hg (hs := hs) (hp := hp)
  intro vs H2 Q2 r2 o2 q2
  obtain ⟨l, ds, y, ys, rfl, hl, ht, ha, hz, h2⟩ := h1
  cases r2 with
  | cons rv rn =>
    cases rn
    cases rv
    obtain ⟨xs, hx, rx⟩ := o2 l _ hl
    refine ⟨l, xs, y, ys, rfl, .of hx, toPs_dp ht rx, ha, hz, fun i v hv hy => ?_⟩
    obtain ⟨d, hd, rd⟩ := rx.get' hv
    exact q2 _ H2 _ W1 (Kp.refl _) o2 rd (h2 i d hd hy)
end
/-! ### tuples of whole numbers -/
open PySem.W in
theorem lt_ints : ∀ x y : List Int, PyProof.Rows.lexLt itemOrd (keyToksAll (x.map .int)) (keyToksAll (y.map .int)) = decide (llt x y)
  | [], [] => by simp [llt]; rfl
  | [], b :: y => by
    simp only [List.map_nil, List.map_cons, llt, decide_true]
    rw [toks_all_cons]
    rfl
  | a :: x, [] => by
    simp only [List.map_nil, List.map_cons, llt, decide_false]
    rw [toks_all_cons]
    rfl
  | a :: x, b :: y => by
    simp only [List.map_cons]
    by_cases h : a = b
    · subst h
      rw [dataLt_all_yes (by simp [alike]) (by simp [PyData.eqv]), lt_ints x y]
      simp [llt]
    · rw [dataLt_all_no (by simp [alike]) (by simpa [PyData.eqv] using h), dataLt_int]
      simp [llt, h]
theorem eqv_ints : ∀ x y : List Int, PyData.eqvAll (x.map .int) (y.map .int) = decide (x = y)
  | [], [] => by simp [PyData.eqvAll]
  | [], b :: y => by simp [PyData.eqvAll]
  | a :: x, [] => by simp [PyData.eqvAll]
  | a :: x, b :: y => by
    rw [List.map_cons, List.map_cons, PyData.eqvAll, eqv_ints x y]
    by_cases h : a = b <;> simp [PyData.eqv, h]
open PySem.W in
theorem alike_ints : ∀ x y : List Int, alikeAll (x.map .int) (y.map .int) = true
  | [], _ => by simp [alikeAll]
  | a :: x, [] => by simp [alikeAll]
  | a :: x, b :: y => by
    rw [List.map_cons, List.map_cons, alikeAll, alike_ints x y]
    simp [alike]
open PySem.W in
/-- (a, xs) < (b, ys) -/
theorem lt_pair (a b : Int) (x y : List Int) : dataLt (.tuple [.int a, .tuple (x.map .int)]) (.tuple [.int b, .tuple (y.map .int)]) = decide (a < b ∨ a = b ∧ llt x y) := by
  rw [dataLt_tuple]
  by_cases h : a = b
  · subst h
    rw [dataLt_all_yes (by simp [alike]) (by simp [PyData.eqv])]
    by_cases h2 : x = y
    · subst h2
      rw [dataLt_all_yes (by simp [alike, alike_ints]) (by simp [PyData.eqv, eqv_ints])]
      have := llt_irrefl x
      simp [this]; rfl
    · rw [dataLt_all_no (by simp [alike, alike_ints]) (by simp [PyData.eqv, eqv_ints, h2]), dataLt_tuple, lt_ints]
      simp
  · rw [dataLt_all_no (by simp [alike]) (by simpa [PyData.eqv] using h), dataLt_int]
    simp [h]
open PySem.W in
/-- (a, c, xs) < (b, d, ys) -/
theorem lt_triple (a b c d : Int) (x y : List Int) : dataLt (.tuple [.int a, .int c, .tuple (x.map .int)]) (.tuple [.int b, .int d, .tuple (y.map .int)]) = decide (a < b ∨ a = b ∧ (c < d ∨ c = d ∧ llt x y)) := by
  rw [dataLt_tuple]
  by_cases h : a = b
  · subst h
    rw [dataLt_all_yes (by simp [alike]) (by simp [PyData.eqv]), ← dataLt_tuple, lt_pair]
    simp
  · rw [dataLt_all_no (by simp [alike]) (by simpa [PyData.eqv] using h), dataLt_int]
    simp [h]
end SR
/-! Plain facts: the first of the least; the greatest sums. -/
namespace SR
open PySem.W in
/-- the least by an order that is told of the data -/
theorem minD_of {α : Type} (f : α → PySem.PyData) (lt : α → α → Bool) (hlt : ∀ a b, dataLt (f a) (f b) = lt a b) (htr : ∀ a b c, lt a b = false → lt b c = false → lt a c = false) (hir : ∀ a, lt a a = false) (has : ∀ a b, lt a b = true → lt b a = false) :
    ∀ (x : α) (xs : List α), ∃ m, m ∈ x :: xs ∧ minD (f x) (xs.map f) = f m ∧ ∀ y ∈ x :: xs, lt y m = false
  | x, [] => ⟨x, by simp, rfl, fun y hy => by simp at hy; subst hy; exact hir y⟩
  | x, y :: xs => by
    obtain ⟨m, h1, h2, h3⟩ := minD_of f lt hlt htr hir has (if lt y x = true then y else x) xs
    refine ⟨m, ?_, ?_, fun z hz => ?_⟩
    · rcases List.mem_cons.mp h1 with e | e
      · rw [e]; split <;> simp
      · exact List.mem_cons_of_mem _ (List.mem_cons_of_mem _ e)
    · rw [← h2]
      unfold minD
      rw [List.map_cons, List.foldl_cons, hlt]
      split <;> rfl
    · have hb := h3 _ List.mem_cons_self
      rcases List.mem_cons.mp hz with rfl | hz
      · by_cases c : lt y z = true
        · rw [if_pos c] at hb
          exact htr z y m (has y z c) hb
        · rw [if_neg c] at hb; exact hb
      · rcases List.mem_cons.mp hz with rfl | hz
        · by_cases c : lt z x = true
          · rw [if_pos c] at hb; exact hb
          · rw [if_neg c] at hb
            exact htr z x m (by simpa using c) hb
        · exact h3 z (List.mem_cons_of_mem _ hz)
instance slt_dec (x y : List Int) : Decidable (slt x y) := by unfold slt; exact inferInstance
/-- a row of the extreme stock: a number, demands -/
structure XRow where
  v : Int
  ds : List Int
def XRow.lt (a b : XRow) : Bool := decide (a.v < b.v ∨ a.v = b.v ∧ slt a.ds b.ds)
theorem XRow.ir (a : XRow) : a.lt a = false := by
  unfold XRow.lt
  simp [slt_irrefl]
theorem XRow.as (a b : XRow) (h : a.lt b = true) : b.lt a = false := by
  unfold XRow.lt at *
  simp only [decide_eq_true_eq, decide_eq_false_iff_not] at *
  rintro (k | ⟨k1, k2⟩)
  · rcases h with h | h <;> omega
  · rcases h with h | h
    · omega
    · exact slt_irrefl _ (slt_trans h.2 k2)
theorem XRow.tr (a b c : XRow) (h : a.lt b = false) (k : b.lt c = false) : a.lt c = false := by
  unfold XRow.lt at *
  simp only [decide_eq_false_iff_not, not_or, not_and] at *
  refine ⟨by omega, fun e s => ?_⟩
  have e1 : a.v = b.v := by omega
  have e2 : b.v = c.v := by omega
  rcases slt_tri b.ds a.ds with q | q | q
  · exact k.2 e2 (slt_trans q s)
  · rw [← q] at s; exact k.2 e2 s
  · exact h.2 e1 q
/-! ### sums over some days -/
section
variable {N : Type} [DecidableEq N] (nx : N → Int → N) (al : N → List Int) (b0 : N) (val : N → Int → Int)
def sumN : N → List Int → Int
  | _, [] => 0
  | n, d :: r => val n d + sumN (nx n d) r
theorem sumN_snoc : ∀ (n : N) (ds : List Int) (d : Int), sumN nx val n (ds ++ [d]) = sumN nx val n ds + val (ds.foldl nx n) d
  | n, [], d => by simp [sumN]
  | n, a :: r, d => by
    show val n a + sumN nx val (nx n a) (r ++ [d]) = val n a + sumN nx val (nx n a) r + _
    rw [sumN_snoc (nx n a) r d, List.foldl_cons]
    omega
/-- the level after k days: each node with the greatest sum that leads there -/
structure Lev (k : Nat) (M : List (N × Int)) : Prop where
  ok : ∀ e ∈ M, ∃ ds, OkN nx al b0 ds ∧ ds.length = k ∧ goN nx b0 ds = e.1 ∧ sumN nx val b0 ds = e.2
  all : ∀ ds, OkN nx al b0 ds → ds.length = k → ∃ v, (goN nx b0 ds, v) ∈ M ∧ sumN nx val b0 ds ≤ v
theorem lev_start : Lev nx al b0 val 0 [(b0, 0)] := by
  refine ⟨fun e he => ?_, fun ds _ hl => ?_⟩
  · simp at he; subst he
    exact ⟨[], okN_nil _ _ _, rfl, rfl, rfl⟩
  · rw [List.eq_nil_of_length_eq_zero hl]
    exact ⟨0, by simp [goN], Int.le_refl _⟩
/-- the greater one is kept -/
def bump (M : List (N × Int)) (n : N) (v : Int) : List (N × Int) :=
  if M.any (fun e => decide (e.1 = n)) = true then M.map fun e => if e.1 = n then (n, max e.2 v) else e else M ++ [(n, v)]
theorem bump_old {M : List (N × Int)} {n : N} {v : Int} {m : N} {u : Int} (h : (m, u) ∈ M) : ∃ u', (m, u') ∈ bump M n v ∧ u ≤ u' := by
  unfold bump
  split
  · by_cases e : m = n
    · subst e
      exact ⟨max u v, List.mem_map.mpr ⟨_, h, by simp⟩, by omega⟩
    · exact ⟨u, List.mem_map.mpr ⟨_, h, by simp [e]⟩, Int.le_refl _⟩
  · exact ⟨u, List.mem_append_left _ h, Int.le_refl _⟩
theorem bump_new {M : List (N × Int)} {n : N} {v : Int} : ∃ u', (n, u') ∈ bump M n v ∧ v ≤ u' := by
  unfold bump
  split
  · rename_i h
    obtain ⟨⟨m, u⟩, h1, h2⟩ := List.any_eq_true.mp h
    simp at h2; subst h2
    exact ⟨max u v, List.mem_map.mpr ⟨_, h1, by simp⟩, by omega⟩
  · exact ⟨v, by simp, Int.le_refl _⟩
theorem bump_from {M : List (N × Int)} {n : N} {v : Int} {e : N × Int} (h : e ∈ bump M n v) : e ∈ M ∨ e = (n, v) := by
  unfold bump at h
  split at h
  · obtain ⟨x, hx, e1⟩ := List.mem_map.mp h
    split at e1
    · rename_i c
      by_cases q : x.2 ≤ v
      · right; rw [← e1, Int.max_eq_right q]
      · left; rw [← e1, Int.max_eq_left (by omega), ← c]; exact hx
    · left; rw [← e1]; exact hx
  · rcases List.mem_append.mp h with h | h
    · exact .inl h
    · simp at h; exact .inr h
theorem bump_keys {M : List (N × Int)} {n : N} {v : Int} (h : (M.map (·.1)).Nodup) : ((bump M n v).map (·.1)).Nodup := by
  unfold bump
  split
  · have : (M.map fun e => if e.1 = n then (n, max e.2 v) else e).map (·.1) = M.map (·.1) := by
      rw [List.map_map]
      refine List.map_congr_left fun e _ => ?_
      by_cases c : e.1 = n <;> simp [c]
    rw [this]; exact h
  · rename_i hn
    rw [List.map_append, List.nodup_append]
    refine ⟨h, by simp, fun a ha b hb => ?_⟩
    obtain ⟨e, he, rfl⟩ := List.mem_map.mp ha
    simp at hb; subst hb
    intro z
    exact hn (List.any_eq_true.mpr ⟨e, he, by simp [z]⟩)
abbrev Cnd (N : Type) := N × Int
def bumps (C M : List (Cnd N)) : List (Cnd N) := C.foldl (fun M c => bump M c.1 c.2) M
theorem bumps_old : ∀ (C : List (Cnd N)) {M : List (Cnd N)} {m : N} {u : Int}, (m, u) ∈ M → ∃ u', (m, u') ∈ bumps C M ∧ u ≤ u'
  | [], _, _, _, h => ⟨_, h, Int.le_refl _⟩
  | c :: C, M, m, u, h => by
    obtain ⟨u1, h1, h2⟩ := bump_old (n := c.1) (v := c.2) h
    obtain ⟨u2, h3, h4⟩ := bumps_old C h1
    exact ⟨u2, h3, by omega⟩
theorem bumps_new : ∀ (C : List (Cnd N)) {M : List (Cnd N)} {n : N} {v : Int}, (n, v) ∈ C → ∃ u', (n, u') ∈ bumps C M ∧ v ≤ u'
  | c :: C, M, n, v, h => by
    rcases List.mem_cons.mp h with rfl | h
    · obtain ⟨u1, h1, h2⟩ := bump_new (M := M) (n := n) (v := v)
      obtain ⟨u2, h3, h4⟩ := bumps_old C h1
      exact ⟨u2, h3, by omega⟩
    · exact bumps_new C h
theorem bumps_from : ∀ (C : List (Cnd N)) {M : List (Cnd N)} {e : Cnd N}, e ∈ bumps C M → e ∈ M ∨ e ∈ C
  | [], _, _, h => .inl h
  | c :: C, M, e, h => by
    rcases bumps_from C (M := bump M c.1 c.2) h with h | h
    · rcases bump_from h with h | h
      · exact .inl h
      · exact .inr (by rw [h]; exact List.mem_cons_self)
    · exact .inr (List.mem_cons_of_mem _ h)
theorem bumps_keys : ∀ (C : List (Cnd N)) {M : List (Cnd N)}, (M.map (·.1)).Nodup → ((bumps C M).map (·.1)).Nodup
  | [], _, h => h
  | _ :: C, _, h => bumps_keys C (bump_keys h)
/-- the candidates of a node with its sum -/
def cand2 (e : Cnd N) : List (Cnd N) := (al e.1).map fun d => (nx e.1 d, e.2 + val e.1 d)
theorem lev_step {k : Nat} {M : List (Cnd N)} (h : Lev nx al b0 val k M) : Lev nx al b0 val (k + 1) (bumps (M.flatMap (cand2 nx al val)) []) := by
  refine ⟨fun e he => ?_, fun ds ho hl => ?_⟩
  · rcases bumps_from _ he with q | q
    · cases q
    · obtain ⟨x, hx, q⟩ := List.mem_flatMap.mp q
      obtain ⟨d, hd, rfl⟩ := List.mem_map.mp q
      obtain ⟨ds, h1, h2, h3, h4⟩ := h.ok x hx
      refine ⟨ds ++ [d], (okN_snoc _ _ _ _ _).mpr ⟨h1, by rw [h3]; exact hd⟩, by simp [h2], by rw [goN_snoc, h3], ?_⟩
      rw [sumN_snoc, h4]
      show x.2 + val (goN nx b0 ds) d = _
      rw [h3]
  · have hne : ds ≠ [] := by intro e; subst e; simp at hl
    rw [← List.dropLast_concat_getLast hne] at ho hl ⊢
    generalize ds.dropLast = es at *
    generalize ds.getLast hne = d at *
    obtain ⟨h1, h2⟩ := (okN_snoc _ _ _ _ _).mp ho
    obtain ⟨v, h3, h4⟩ := h.all es h1 (by simpa using hl)
    obtain ⟨u, h5, h6⟩ := bumps_new (M.flatMap (cand2 nx al val)) (M := []) (n := nx (goN nx b0 es) d) (v := v + val (goN nx b0 es) d) (List.mem_flatMap.mpr ⟨_, h3, List.mem_map.mpr ⟨d, h2, rfl⟩⟩)
    refine ⟨u, by rw [goN_snoc]; exact h5, ?_⟩
    rw [sumN_snoc]
    show sumN nx val b0 es + val (goN nx b0 es) d ≤ u
    omega
end
end SR
namespace SR
/-! ### all nodes that can come -/
section
variable {N : Type} [DecidableEq N] (nx : N → Int → N) (al : N → List Int) (b0 : N)
/-- M: what was found, L: what is waiting -/
structure RI (M L : List N) : Prop where
  nd : M.Nodup
  ln : L.Nodup
  st : b0 ∈ M
  ok : ∀ n ∈ M, ∃ ds, OkN nx al b0 ds ∧ goN nx b0 ds = n
  sub : ∀ n ∈ L, n ∈ M
  cl : ∀ n ∈ M, n ∉ L → ∀ d ∈ al n, nx n d ∈ M
theorem ri_start : RI nx al b0 [b0] [b0] :=
  ⟨by simp, by simp, by simp, fun n hn => by simp at hn; subst hn; exact ⟨[], okN_nil nx al _, rfl⟩, fun n hn => hn, fun n hn hk => (hk hn).elim⟩
def addN (M : List N) (n : N) : List N := if n ∈ M then M else M ++ [n]
def addL (M L : List N) (n : N) : List N := if n ∈ M then L else L ++ [n]
/-- within a turn: the node n was taken, its first j demands are done -/
structure RT (M L : List N) (n : N) (C : List Int) : Prop where
  nd : M.Nodup
  ln : L.Nodup
  st : b0 ∈ M
  ok : ∀ n ∈ M, ∃ ds, OkN nx al b0 ds ∧ goN nx b0 ds = n
  sub : ∀ n ∈ L, n ∈ M
  nm : n ∈ M
  nl : n ∉ L
  cl : ∀ m ∈ M, m ∉ L → m ≠ n → ∀ d ∈ al m, nx m d ∈ M
  cn : ∀ d ∈ C, nx n d ∈ M
theorem rt_start {M L : List N} {n : N} (h : RI nx al b0 M (L ++ [n])) : RT nx al b0 M L n [] := by
  have hln := List.nodup_append.mp h.ln
  refine ⟨h.nd, hln.1, h.st, h.ok, fun m hm => h.sub m (List.mem_append_left _ hm), h.sub n (by simp), fun hn => hln.2.2 n hn n (by simp) rfl, fun m hm hl hne => h.cl m hm fun z => ?_, fun d hd => by simp at hd⟩
  rcases List.mem_append.mp z with z | z
  · exact hl z
  · simp at z; exact hne z
theorem rt_step {M L : List N} {n : N} {C : List Int} {d : Int} (h : RT nx al b0 M L n C) (hd : d ∈ al n) : RT nx al b0 (addN M (nx n d)) (addL M L (nx n d)) n (C ++ [d]) := by
  unfold addN addL
  by_cases hm : nx n d ∈ M
  · rw [if_pos hm, if_pos hm]
    refine ⟨h.nd, h.ln, h.st, h.ok, h.sub, h.nm, h.nl, h.cl, fun e he => ?_⟩
    rcases List.mem_append.mp he with he | he
    · exact h.cn e he
    · simp at he; subst he; exact hm
  · rw [if_neg hm, if_neg hm]
    have hin : nx n d ∉ L := fun z => hm (h.sub _ z)
    have mono : ∀ x, x ∈ M → x ∈ M ++ [nx n d] := fun x hx => List.mem_append_left _ hx
    refine ⟨?_, ?_, mono _ h.st, fun m hm2 => ?_, fun m hm2 => ?_, mono _ h.nm, fun z => ?_, fun m hm2 hl hne e he => ?_, fun e he => ?_⟩
    · exact List.nodup_append.mpr ⟨h.nd, by simp, fun a ha b hb => by simp at hb; subst hb; exact fun z => hm (z ▸ ha)⟩
    · exact List.nodup_append.mpr ⟨h.ln, by simp, fun a ha b hb => by simp at hb; subst hb; exact fun z => hin (z ▸ ha)⟩
    · rcases List.mem_append.mp hm2 with hm2 | hm2
      · exact h.ok m hm2
      · simp at hm2; subst hm2
        obtain ⟨ds, o, g⟩ := h.ok n h.nm
        refine ⟨ds ++ [d], (okN_snoc nx al b0 ds d).mpr ⟨o, ?_⟩, by rw [goN_snoc, g]⟩
        rw [g]; exact hd
    · rcases List.mem_append.mp hm2 with hm2 | hm2
      · exact mono _ (h.sub m hm2)
      · exact List.mem_append_right _ hm2
    · rcases List.mem_append.mp z with z | z
      · exact h.nl z
      · simp at z; rw [← z] at hm; exact hm h.nm
    · rcases List.mem_append.mp hm2 with hm2 | hm2
      · exact mono _ (h.cl m hm2 (fun z => hl (List.mem_append_left _ z)) hne e he)
      · exact (hl (List.mem_append_right _ hm2)).elim
    · rcases List.mem_append.mp he with he | he
      · exact mono _ (h.cn e he)
      · simp at he; subst he; simp
theorem rt_end {M L : List N} {n : N} {C : List Int} (h : RT nx al b0 M L n C) (hC : ∀ d ∈ al n, d ∈ C) : RI nx al b0 M L := by
  refine ⟨h.nd, h.ln, h.st, h.ok, h.sub, fun m hm hl => ?_⟩
  by_cases e : m = n
  · subst e
    intro d hd
    exact h.cn d (hC d hd)
  · exact h.cl m hm hl e
/-- all that can come, and nothing else -/
structure AllR (M : List N) : Prop where
  nd : M.Nodup
  ok : ∀ n ∈ M, ∃ ds, OkN nx al b0 ds ∧ goN nx b0 ds = n
  all : ∀ ds, OkN nx al b0 ds → goN nx b0 ds ∈ M
theorem ri_end {M : List N} (h : RI nx al b0 M []) : AllR nx al b0 M := by
  refine ⟨h.nd, h.ok, snoc_ind (fun _ => h.st) fun ds d ih ho => ?_⟩
  obtain ⟨o1, o2⟩ := (okN_snoc nx al b0 ds d).mp ho
  rw [goN_snoc]
  exact h.cl _ (ih o1) (by simp) d o2
theorem addN_len (M : List N) (n : N) : (addN M n).length = M.length + if n ∈ M then 0 else 1 := by
  unfold addN; split <;> simp
theorem addL_len (M L : List N) (n : N) : (addL M L n).length = L.length + if n ∈ M then 0 else 1 := by
  unfold addL; split <;> simp
end
theorem nd_sub {N : Type} [DecidableEq N] : ∀ {l m : List N}, l.Nodup → (∀ x ∈ l, x ∈ m) → l.length ≤ m.length
  | [], _, _, _ => Nat.zero_le _
  | x :: l, m, hn, h => by
    rw [List.nodup_cons] at hn
    have hx := h x List.mem_cons_self
    have ih := nd_sub (l := l) (m := m.erase x) hn.2 fun y hy => (List.mem_erase_of_ne (fun z => hn.1 (by rw [← z]; exact hy))).mpr (h y (List.mem_cons_of_mem _ hy))
    rw [List.length_erase_of_mem hx] at ih
    have := List.length_pos_of_mem hx
    rw [List.length_cons]
    omega
abbrev AllB (st : Sto) (x : Int) (b : Bd) (M : List Node) : Prop := AllR (stepN st b) (alN b) (begN st x) M
theorem allB_mem {st : Sto} {x : Int} {b : Bd} (hb : b.ok) {M : List Node} (h : AllB st x b M) {n : Node} : n ∈ M ↔ ∃ ds, fitB b ds = true ∧ n = nodeB st x b ds := by
  constructor
  · intro hn
    obtain ⟨ds, o, g⟩ := h.ok n hn
    exact ⟨ds, (okN_iff hb ds).mp o, by rw [← g, goN_eq]⟩
  · rintro ⟨ds, o, rfl⟩
    have := h.all ds ((okN_iff hb ds).mpr o)
    rwa [goN_eq] at this
/-! ### all demands of few days, in order -/
theorem ext_asc {b : Bd} (row : List Int) : (extB b row).Pairwise slt := by
  unfold extB
  refine List.Pairwise.sublist List.filter_sublist ?_
  refine List.Pairwise.map _ (fun a c h => ?_) (irange_asc b.low b.high)
  refine .inr ⟨by simp, llt_same row ?_⟩
  simp [llt]; exact h
theorem ext_mem {b : Bd} {row ms : List Int} (h : ms ∈ extB b row) : ∃ d, ms = row ++ [d] := by
  unfold extB at h
  obtain ⟨d, _, rfl⟩ := List.mem_map.mp (List.mem_filter.mp h).1
  exact ⟨d, rfl⟩
theorem lv_asc {b : Bd} : ∀ k, (lv b k).Pairwise slt
  | 0 => by simp [lv]
  | k + 1 => by
    show ((lv b k).flatMap (extB b)).Pairwise slt
    have ih := lv_asc (b := b) k
    have hl : ∀ ms ∈ lv b k, ms.length = k := fun ms hm => (lv_fit k ms hm).2
    generalize lv b k = L at ih hl
    induction L with
    | nil => simp
    | cons r L ih2 =>
      rw [List.pairwise_cons] at ih
      rw [List.flatMap_cons, List.pairwise_append]
      refine ⟨ext_asc r, ih2 ih.2 (fun ms hm => hl ms (List.mem_cons_of_mem _ hm)), fun x hx y hy => ?_⟩
      obtain ⟨r2, hr2, hy⟩ := List.mem_flatMap.mp hy
      obtain ⟨d, rfl⟩ := ext_mem hx
      obtain ⟨e, rfl⟩ := ext_mem hy
      have h1 := hl r List.mem_cons_self
      have h2 := hl r2 (List.mem_cons_of_mem _ hr2)
      rcases ih.1 r2 hr2 with h | h
      · omega
      · exact .inr ⟨by simp; omega, llt_app _ _ h.1 h.2⟩
theorem allB_asc {b : Bd} : ∀ k, (SR.allB b k).Pairwise slt
  | 0 => by simp [SR.allB]
  | k + 1 => by
    show (SR.allB b k ++ lv b (k + 1)).Pairwise slt
    rw [List.pairwise_append]
    refine ⟨allB_asc k, lv_asc (k + 1), fun x hx y hy => ?_⟩
    have h1 := (allB_fit k x hx).2
    have h2 := (lv_fit (k + 1) y hy).2
    exact .inl (by omega)
theorem mem_lv {b : Bd} (hb : b.ok) : ∀ ms : List Int, fitB b ms = true → ms ∈ lv b ms.length := by
  refine snoc_ind (fun _ => by simp [lv]) fun ms d ih hf => ?_
  have h1 := fit_init hb hf
  rw [List.length_append]
  show _ ∈ (lv b ms.length).flatMap (extB b)
  refine List.mem_flatMap.mpr ⟨ms, ih h1, ?_⟩
  unfold extB
  exact List.mem_filter.mpr ⟨List.mem_map.mpr ⟨d, mem_irange.mpr (fit_range hb h1 hf), rfl⟩, hf⟩
theorem mem_allB {b : Bd} (hb : b.ok) {ms : List Int} (h : fitB b ms = true) {k : Nat} (hk : ms.length ≤ k) : ms ∈ SR.allB b k := by
  obtain ⟨j, rfl⟩ := Nat.exists_eq_add_of_le hk
  clear hk
  induction j with
  | zero =>
    have := mem_lv hb ms h
    cases e : ms.length with
    | zero => rw [e] at this; exact this
    | succ n => rw [e] at this; exact List.mem_append_right _ this
  | succ j ih => exact List.mem_append_left _ ih
/-- the first of a sorted list for which p holds -/
theorem find_least {L : List (List Int)} (h : L.Pairwise slt) {p : List Int → Bool} {m : List Int} (hm : L.find? p = some m) : ∀ y ∈ L, p y = true → sle m y := by
  induction L with
  | nil => simp at hm
  | cons x L ih =>
    rw [List.pairwise_cons] at h
    rw [List.find?_cons] at hm
    cases e : p x with
    | true =>
      rw [e] at hm
      simp at hm; subst hm
      intro y hy _
      rcases List.mem_cons.mp hy with rfl | hy
      · exact sle_refl _
      · exact .inr (h.1 y hy)
    | false =>
      rw [e] at hm
      intro y hy hp
      rcases List.mem_cons.mp hy with rfl | hy
      · rw [e] at hp; cases hp
      · exact ih h.2 hm y hy hp
theorem find_atG {α : Type} {p : α → Bool} : ∀ {l : List α} {i : Nat} {m : α}, (∀ y ∈ l.take i, p y = false) → l[i]? = some m → p m = true → l.find? p = some m
  | [], _, _, _, h, _ => by simp at h
  | x :: l, 0, m, _, h, hp => by simp at h; subst h; simp [hp]
  | x :: l, i + 1, m, h0, h, hp => by
    have hx : p x = false := h0 x (by simp)
    rw [List.find?_cons, hx]
    exact find_atG (i := i) (fun y hy => h0 y (by simp [hy])) (by simpa using h) hp
end SR
namespace SR
open PySem PySem.Spec PyProof.Rows L2
section
variable {X : Cx} {E : XK} {XC : XCt} {g : Ga} {W : Om} {a b c : Expr} {pos : Pos} {O : OD}
/-- xs.pop() -/
theorem xe_pop {apos : Pos} (h : XE X E XC a g W fun d W1 => ∃ l xs y, d = .p l ∧ W1 l = some (.lst (xs ++ [y])) ∧ O y (updO W1 l (.lst xs)))
    (hbase : attributeBase a "pop" X.env (eval a X.env) = eval a X.env := by rfl) (hline : (apos.endLine == pos.line) = true := by rfl) : XE X E XC (.Call (.Attribute a "pop" apos) [] [] pos) g W O := by
  refine xe_of (pe_bm0 PySem.F.plainAttrs_list PySem.F.slot_list_pop PySem.F.type_list_pop mt_pop pe_W hbase hline) fun σ H r k el Q q => ?_
  refine h σ H r k el _ fun v H1 d W1 k1 o1 r1 ⟨l, xs, y, e1, hl, h1⟩ => ?_
  subst e1
  cases r1
  obtain ⟨us, hu, ru⟩ := o1 l _ hl
  have hlen := ru.length
  obtain ⟨v, hv, rv⟩ := ru.get (i := xs.length) (d := y) (by simp)
  have kk : Kp H1 (upd H1 l (.lst us.dropLast)) := Kp.at hu (fun _ z => by cases z) (fun _ _ z => by cases z)
  have rd : RpAll X.K H1 us.dropLast xs := by
    have := ru.dropLast
    rwa [List.dropLast_concat] at this
  refine ⟨.inl ⟨rfl, us, .of hu⟩, l, us, v, rfl, rfl, hu, ?_, ?_⟩
  · rw [hlen, List.length_append]
    exact hv
  · exact q _ _ _ _ (k1.trans kk) (o1.set kk (o := .lst xs) ⟨_, upd_same, rd.kp kk⟩) (rv.kp kk) h1
/-- the keys of a dict as a list -/
def rListK (X : Cx) : List V → Hp → VK → Prop := fun vs H Q => ∃ (a : Addr) (xs : List (NestedKey × Addr × Value)), vs = [V.ref a] ∧ Rd H a (.ext (DIs X.w a xs)) ∧ ∀ p, H p = none → Q (.ref p) (upd H p (.lst (xs.map fun x => V.ref x.2.1)))
theorem cr_listK (hc : X.calm = true) : CallR X (.type "list") (rListK X) := by
  intro pins s σ H vs us Q I r h
  obtain ⟨a, xs, rfl, hd, q⟩ := h
  rw [Vals.ref1 r]
  obtain ⟨⟨hz, hm, o, es, ep, ho, hx, hdt, he, hn⟩, _⟩ := (show ObjOk X.prog X.w H s.heap a (.ext (DIs X.w a xs)) from hd.ok I.hok)
  have l1 : es.size = xs.length := by
    have := congrArg List.length he
    simpa using this
  refine PySem.W.kdl_call (kdl_raw hm hx hdt) (I.ok.hd hc) ho (by omega) fun h' tk acc c' kp e it => ?_
  have ea : acc.toList = (xs.map fun x => x.2.1).map Value.ref := by
    apply List.ext_getElem?
    intro j
    have hes : es[j]? = (xs[j]?).map fun x => (⟨x.1.hash X.w, .ref x.2.1, x.2.2⟩ : DictEntry) := by
      rw [← Array.getElem?_toList, he, List.getElem?_map]
    have hal : acc.toList.length = xs.length := by rw [Array.length_toList, it.1]; exact l1
    rw [List.getElem?_map, List.getElem?_map]
    by_cases hj : j < xs.length
    · obtain ⟨en, hen, hv⟩ := it.2 j (acc.toList[j]'(by omega)) (by rw [← Array.getElem?_toList]; exact List.getElem?_eq_getElem (by omega))
      rw [hes, List.getElem?_eq_getElem hj] at hen
      rw [List.getElem?_eq_getElem (by omega), hv, List.getElem?_eq_getElem hj, ← Option.some.inj hen]
      rfl
    · rw [List.getElem?_eq_none (by omega), List.getElem?_eq_none (by omega)]
      rfl
  have rv : Vals ((xs.map fun x => x.2.1).map V.ref) acc.toList := by rw [ea]; exact vals_refs _
  have hz2 : ((xs.map fun x => x.2.1).map V.ref).length ≤ sizeLine := by rw [List.length_map, List.length_map]; exact hz
  have q2 := q s.heap.objs.size (I.hok.fresh (Nat.le_refl _))
  rw [show (xs.map fun x => V.ref x.2.1) = (xs.map fun x => x.2.1).map V.ref by rw [List.map_map]; rfl] at q2
  exact ⟨.ref s.heap.objs.size, _, I.laid (t' := tk) (o := .lst ((xs.map fun x => x.2.1).map V.ref)) kp (Nat.le_refl _) ⟨hz2, acc.toList, c', rv, by rw [Array.toArray_toList]; exact e⟩, rfl, q2⟩
theorem kt_keys {K : PySem.W.Frag} {H : Hp} {kvs : List (NestedKey × D)} {xs : List (NestedKey × Addr × Value)} (r : KTn K H kvs xs) : RpAll K H (xs.map fun x => V.ref x.2.1) (kvs.map fun e => kD e.1) := by
  induction r with
  | nil => exact .nil
  | cons h _ ih => exact .cons h.2.2.1 ih
theorem xe_listK {p : Pos} (hm : X.mg "list" = none) (h : XE X E XC a g W fun d W1 => ∃ q kvs, d = .p q ∧ DRd X.w W1 q kvs ∧ ∀ l, W1 l = none → O (.p l) (updO W1 l (.lst (kvs.map fun e => kD e.1)))) (hc : X.calm = true := by rfl) (hg : Gl X "list" := by rfl) (hs : starEach [a] X.env = (false, eval a X.env) :: starEach [] X.env := by rfl) (hp : (backTo pos (starEach [] X.env)).any (·.1) = false := by rfl) :
    XE X E XC (.Call (.Name "list" p) [a] [] pos) g W O := by
  refine xe_callTy (cr_listK hc) hm (by decide +kernel) (xa1 (h.imp fun d W1 h1 => ?_) hs) hg (hs := hs) (hp := hp)
  intro vs H2 Q2 r2 o2 q2
  obtain ⟨dd, kvs, rfl, hd, h2⟩ := h1
  cases r2 with
  | cons rv rn =>
    cases rn
    cases rv
    obtain ⟨xs, hr, kt⟩ := hd.rd o2
    exact ⟨dd, xs, rfl, hr, fun p hp => q2 _ _ _ _ (Kp.new hp) (o2.new (o := .lst (kvs.map fun e => kD e.1)) hp ⟨_, upd_same, (kt_keys kt).kp (Kp.new hp)⟩) (.p p) (h2 p (o2.free hp))⟩
/-- a check that is never met -/
theorem xb_ifno {C : EndD} {t rest : List Stmt} (h : XT X E XC c g W fun k W1 => k = false ∧ Sub W W1) (hr : XB X E XC rest g W C) : XB X E XC (.If c t [] pos :: rest) g W C :=
  xb_cons (xs_if (h.imp fun k W1 ⟨e, s⟩ => ⟨fun z => (by rw [e] at z; cases z), fun _ => xb_sub s (xb_nil hr)⟩))
theorem xb_ifno1 {C : EndD} {t : List Stmt} (h : XT X E XC c g W fun k W1 => k = false ∧ Sub W W1) (hr : C.nx g W) : XB X E XC [.If c t [] pos] g W C :=
  xb_one (xs_if (h.imp fun k W1 ⟨e, s⟩ => ⟨fun z => (by rw [e] at z; cases z), fun _ => xb_sub s (xb_nil hr)⟩))
theorem xt_and3 {O : Bool → Om → Prop} {b c : Expr} (h : XT X E XC a g W fun k W1 => (k = true → XT X E XC b g W1 fun k2 W2 => (k2 = true → XT X E XC c g W2 O) ∧ (k2 = false → O false W2)) ∧ (k = false → O false W1)) : XT X E XC (.BoolOp .And [a, b, c] pos) g W O :=
  xt_w (xw_and (h.imp fun k W1 ⟨h1, h2⟩ => ⟨fun e => xw_and ((h1 e).imp fun k2 W2 ⟨h3, h4⟩ => ⟨fun e2 => xw_and1 (h3 e2), h4⟩), h2⟩))
/-- list(range(n)) -/
theorem xe_listRg1 {e : Expr} {p p2 pos2 : Pos} (hm : X.mg "list" = none) (hr : X.mg "range" = none) (h : XE X E XC e g W fun d W1 => ∃ j : Int, d = .int j ∧ (0 ≤ j ∧ j ≤ 16777216) ∧ ∀ l, W1 l = none → O (.p l) (updO W1 l (.lst (rangeD 0 j.toNat))))
    (hc : X.calm = true := by rfl) (hg : Gl X "list" := by rfl) (hg2 : Gl X "range" := by rfl) (na : starEach [.Call (.Name "range" p2) [e] [] pos2] X.env = (false, eval (.Call (.Name "range" p2) [e] [] pos2) X.env) :: starEach [] X.env := by rfl)
    (ha : starEach [e] X.env = (false, eval e X.env) :: starEach [] X.env := by rfl) :
    XE X E XC (.Call (.Name "list" p) [.Call (.Name "range" p2) [e] [] pos2] [] pos) g W O := by
  refine xe_of (pe_listRg hc hg hm (prg_1 hg2 hr pe_W ha) na) fun σ H r k el Q q => ?_
  refine h σ H r k el _ fun x H1 d W1 k1 o1 r1 ⟨j, e1, hj, h1⟩ => ?_
  subst e1
  cases r1
  refine ⟨j, rfl, RgOk.of_le (by omega) (by omega) (by omega) (by omega), fun p hp => ?_⟩
  have hl := h1 p (o1.free hp)
  rw [show j.toNat = (j - 0).toNat by omega] at hl
  exact q _ _ _ _ (k1.trans (Kp.new hp)) (o1.new (o := .lst (rangeD 0 (j - 0).toNat)) hp ⟨_, upd_same, rgV_rp 0 j⟩) (.p p) hl
end
end SR
namespace SR
open PySem PySem.Spec PyProof.Rows L2
/-! ### a caught exception that is kept -/
/-- how the kept exception is tracked: it never changes any more -/
def excO (a : Addr) (oe : Obj) : HO := .frz oe (.ext fun h => ∃ o, h.get? a = some o)
section
variable {X : Cx} {pins : List (Addr × Obj)} {σ : St} {H : Hp} {s : Shared}
theorem adopt {a : Addr} {oe : Obj} (I : Inv X ((a, oe) :: pins) σ H s) (h0 : X.s_0.heap.get? a = none) (hp : ∀ p ∈ X.pn ++ pins, p.1 ≠ a) (hc : ∀ x c, X.env.cells.lookup x = some c → c ≠ a) : Inv X pins σ (upd H a (excO a oe)) s := by
  have hin : (a, oe) ∈ X.pn ++ ((a, oe) :: pins) := List.mem_append_right _ List.mem_cons_self
  obtain ⟨g1, g2, g3, _, _⟩ := I.pin _ hin
  have g1 : s.heap.get? a = some oe := g1
  have g2 : H a = none := g2
  have g3 : a ≠ X.env.locals := g3
  have at_ : ∀ b u, H b = some u → upd H a (excO a oe) b = some u := fun b u e => by rw [upd_ne (ne_of_none e g2)]; exact e
  refine ⟨I.ok, I.os, I.bare, ⟨I.base.keep, I.base.slot, fun b o e n x => ?_, I.base.there, fun b xs e => at_ _ _ (I.base.tups b xs e), fun b o u e => at_ _ _ (I.base.frzs b o u e), fun b ps e => ?_⟩, I.loc, I.cell, by rw [upd_ne (Ne.symm g3)]; exact I.free, fun x c e => by rw [upd_ne (hc x c e)]; exact I.freeC x c e, fun p q => ?_, fun b u e => ?_, I.len⟩
  · rw [upd_ne (fun z => by rw [z, h0] at e; cases e)]
    exact I.base.free b o e n x
  · obtain ⟨more, e2⟩ := I.base.tbls b ps e
    exact ⟨more, at_ _ _ e2⟩
  · have q2 : p ∈ X.pn ++ ((a, oe) :: pins) := by
      rcases List.mem_append.mp q with q | q
      · exact List.mem_append_left _ q
      · exact List.mem_append_right _ (List.mem_cons_of_mem _ q)
    obtain ⟨k1, k2, k3⟩ := I.pin p q2
    exact ⟨k1, by rw [upd_ne (hp p q)]; exact k2, k3⟩
  · by_cases hb : b = a
    · subst hb
      rw [upd_same] at e
      cases e
      exact ⟨g1, ⟨oe, g1⟩, ⟨oe, g1⟩, fun h1 h2 ⟨o, e1⟩ k => ⟨o, k o e1⟩⟩
    · rw [upd_ne hb] at e
      exact (I.hok b u e).stay (fun _ _ _ q => q) (fun c q => at_ _ _ q) fun c xs q => at_ _ _ q
end
/-- what is wished where the exception is kept by slot j -/
def wKeep (K : PySem.W.Frag) (c : Value) (i j : Nat) (D : Ends) : WX := fun cls d σ H => ∃ C0 : Addr, cls = .ref C0 ∧ d = none ∧ PySem.W.exmOne K cls c = some true ∧
  ∀ (a : Addr) (oe : Obj), H a = none → oe.cls = .ref C0 → oe.dict = none → (∃ vs, oe.data = .fields vs) → D.nx ((σ.set i none).set j (some (.ref a))) (upd H a (excO a oe))
section
variable {X : Cx} {x n y : Str} {c : Value} {i j : Nat} {body : List Stmt} {np py pn2 pa pos pos' : Pos} {tb : WX → TS}
theorem ps_try_keep (hs : X.stack = X.env :: X.outer) (hf : X.env.frame = some X.env.locals) (hex : X.ex = []) (hN : X.N.Nodup) (hi : X.N[i]? = some n) (hj : X.N[j]? = some y) (hij : i ≠ j) (hln : X.env.kindOf n = some .local) (hly : X.env.scope.names.lookup y = some .local) (hc : Names X x c)
    (hd1 : (n == ("__debug__" : Str)) = false) (hd2 : (n == ("__classdict__" : Str)) = false) (hsw : swapsWith (.Name n pn2) (some (.Name y py)) pa.line X.env = pure false)
    (hb : ∀ (W : WX) (pn : List (Addr × Obj)) (xe : Value → Shared → Prop), Takes (X.tr pn xe) W → PassesOwn (model X.prog X.w) X.A X.env xe → PSs (X.tr pn xe) body (tb W)) :
    PS X (.Try body [.ExceptHandler (some (.Name x np)) (some n) [.Assign [.Name y py] (.Name n pn2) pa] pos'] [] [] pos) (fun D σ H => tb (wKeep X.K c i j D) D σ H) := by
  refine ⟨fun pins s σ H D I h => ?_⟩
  have ok := I.ok
  have frames : X.A.frames = some (X.env :: X.outer) := by rw [ok.frames, hs]
  have hlk : X.env.scope.names.lookup n = some .local := hln
  refine wpAny_Try_except (wpAny_mono ((hb (wKeep X.K c i j D) (X.pn ++ pins) _ (fun u s' xx => ?_) PassesOwn.looking).run [] s σ H D (I.toTry _) h) (fun fl s1 q => ?_) (fun _ _ q => q))
  · obtain ⟨a, B, sI, pins', τ, G, cls, d, rfl, JT, nb, up, sky, na, os, ag, C0, rfl, rfl, hm, wish⟩ := xx
    have J : Inv X pins τ G sI := JT.ofTry ok
    rw [hs] at sky
    refine Sky.land Zc.steady frames hf sky fun h3 fl3 up3 => ?_
    have J3 : Inv X pins τ G { s' with heap := h3 } := J.landed nb fl3.1 (up.trans up3) os ag
    obtain ⟨o3, v3, g3, z3, d3⟩ := fl3.there
    -- the exception is no frame's
    have nofr : a ∉ frs (X.env :: X.outer) := fun hm => by
      obtain ⟨_, o', e', hnf⟩ := fl3.2.2.1.mem hm
      rw [g3] at e'; cases e'
      exact hnf _ d3
    have nloc : a ≠ X.env.locals := fun z => nofr (List.mem_filterMap.mpr ⟨X.env, List.mem_cons_self, by rw [hf, z]⟩)
    have nfs : a ∉ X.fs := fun hm => by
      obtain ⟨e, he, q⟩ := List.mem_filterMap.mp hm
      exact nofr (List.mem_filterMap.mpr ⟨e, List.mem_cons_of_mem _ he, q⟩)
    -- it is new
    have newI : sI.heap.get? a = none := by
      cases q : sI.heap.get? a with
      | none => rfl
      | some o =>
        have := nb a o q (by rw [hs]; exact nofr)
        rw [fl3.2.1] at this; cases this
    have new0 : X.s_0.heap.get? a = none := by
      cases q : X.s_0.heap.get? a with
      | none => rfl
      | some o =>
        obtain ⟨o', e⟩ := J.base.there a o q (by rw [hex]; simp)
        rw [newI] at e; cases e
    have pne : ∀ p ∈ X.pn ++ pins, p.1 ≠ a := fun p hp z => by
      have := (J.pin p hp).1
      rw [z, newI] at this; cases this
    have cne : ∀ z cc, X.env.cells.lookup z = some cc → cc ≠ a := fun z cc e q => by
      obtain ⟨_, o, e2, _⟩ := J.cell z cc e
      rw [q, newI] at e2; cases e2
    have S3 := J3.suite g3 d3 na nloc nfs
    refine wpAny_handleBy_cons (codeAny_handlers_test ?_) (by intro q; cases q)
    have looks : PySem.W.Looks (model X.prog X.w) h3 (typeOf (.ref a)) (.ref C0) := fun A Q E s k q => wpAny_typeOf_ref (k _ _ g3) (by rw [z3.1]; exact q)
    have same := PySem.W.exm_one (M := model X.prog X.w) J3.kIn looks hm
    have name : ∀ {Q : Value → Shared → Prop} {E : Value → Shared → Prop}, Q c { s' with heap := h3 } → wpAny (model X.prog X.w) (X.A.mark (some (.ref a))) (eval (.Name x np) X.env) Q E { s' with heap := h3 } := fun {Q E} q => by
      rcases hc with ⟨hg, hdb, hm | ⟨hm, hv, hnn⟩⟩
      · exact ld_glob (X := X.suite a ((a, o3) :: (X.pn ++ pins))) S3 hg hm q hdb
      · exact ld_blt (X := X.suite a ((a, o3) :: (X.pn ++ pins))) S3 hg hm hv q hnn hdb
    refine name (same.here (codeAny_handlers_suite_as ?_))
    refine HandSPX.lands_againZ fl3 fun h4 fl4 up4 => ?_
    have J4 : Inv X pins τ G { s' with heap := h4 } := J.landed nb fl4.1 ((up.trans up3).trans up4) os ag
    obtain ⟨o4, v4, g4, z4, d4⟩ := fl4.there
    have S4 := J4.suite g4 d4 na nloc nfs
    refine store_ok (X := X.suite a ((a, o4) :: (X.pn ++ pins))) (v := .ref a) S4 hN hi (.inl hlk) rfl (fun s5 S5 => ?_) (.inr hlk)
    have step := ps_set (X := X.suite a ((a, o4) :: (X.pn ++ pins))) (i := j) (pos := pa) (pos' := py) hN hj (.inl hly) (pe_var (X := X.suite a ((a, o4) :: (X.pn ++ pins))) (i := i) (pos := pn2) hi (.inl hlk) hd1 hd2) hsw (.inr hly)
    have hil : i < τ.length := by rw [J.len]; exact (List.getElem?_eq_some_iff.mp hi).1
    refine wpAny_mono ((pss_one step).run [] s5 _ G { nx := fun σ6 H6 => σ6 = (τ.set i (some (.ref a))).set j (some (.ref a)) ∧ H6 = G, rt := fun _ _ => False } S5 ⟨.ref a, List.getElem?_set_self hil, rfl, rfl⟩) (fun fl s6 q => ?_) (fun _ _ z => False.elim z)
    cases fl with
    | next =>
      obtain ⟨σ6, H6, S6, rfl, rfl⟩ := q
      have J6 : Inv X ((a, o4) :: pins) ((τ.set i (some (.ref a))).set j (some (.ref a))) H6 s6 := (S6.unsuite ok).pins_of fun p hp => S6.pin p (by
        show p ∈ ((a, o4) :: (X.pn ++ pins)) ++ []
        rw [List.append_nil]
        rcases List.mem_cons.mp hp with e | e
        · rw [e]; exact List.mem_cons_self
        · exact List.mem_cons_of_mem _ (List.mem_append_right _ e))
      refine gone_ok J6 hN hi hln fun s7 J7 => ?_
      have e7 : ((τ.set i (some (V.ref a))).set j (some (.ref a))).set i none = (τ.set i none).set j (some (.ref a)) := by
        rw [List.set_comm _ _ (Ne.symm hij), List.set_set]
      rw [e7] at J7
      exact ⟨_, _, adopt J7 new0 pne cne, wish a o4 na z4.1 z4.2 ⟨_, d4⟩⟩
    | brk => obtain ⟨_, _, _, z⟩ := q; exact z.elim
    | cont => obtain ⟨_, _, _, z⟩ := q; exact z.elim
    | ret u => obtain ⟨_, _, _, _, _, z⟩ := q; exact z.elim
  · cases fl with
    | next =>
      obtain ⟨σ', H', J', q⟩ := q
      exact wpAny_execs_nil ⟨σ', H', J'.ofTry ok, q⟩
    | brk =>
      obtain ⟨σ', H', J', q⟩ := q
      exact ⟨σ', H', J'.ofTry ok, q⟩
    | cont =>
      obtain ⟨σ', H', J', q⟩ := q
      exact ⟨σ', H', J'.ofTry ok, q⟩
    | ret u =>
      obtain ⟨v, σ', H', J', r, q⟩ := q
      exact ⟨v, σ', H', J'.ofTry ok, r, q⟩
end
end SR
namespace SR
open PySem PySem.Spec PyProof.Rows L2
/-- the wish within a try: at any slots that stand for g -/
def EW (K : PySem.W.Frag) (g : Ga) (Wx : WX) : XK := fun cls d H => ∀ σ, RpS K H σ g → Wx cls d σ H
section
variable {X : Cx} {E : XK} {XC : XCt} {g : Ga} {W : Om} {a b c : Expr} {pos : Pos} {O : OD}
/-- a call within a try -/
theorem xe_callT {Wx : WX} {k : Nat} {x : Str} {ps : List Str} {S : SpT} {e : Expr} {es : List Expr} {p : Pos} (c : Cal X.prog X.w X.K X.mg X.base k x ps S) (hr : Room k X.A) (tk : Takes X Wx) (h : XA X (EW X.K g Wx) XC (e :: es) g W fun ds W1 => S ds W1 O XC) (hg : Gl X x := by rfl)
    (hdb : (x == ("__debug__" : Str)) = false := by decide) (he : starEach (e :: es) X.env = (false, eval e X.env) :: starEach es X.env := by rfl) (hpl : (backTo pos (starEach es X.env)).any (·.1) = false := by rfl) :
    XE X (EW X.K g Wx) XC (.Call (.Name x p) (e :: es) [] pos) g W O := by
  obtain ⟨f, fd, F, hm, hk, hb⟩ := c.ex
  refine xe_of (pe_callS F hr hg hm hk hb (fun σ => passAt tk σ) pa_W hdb he hpl) fun σ H r k el Q q => ?_
  refine h σ H r k el _ fun vs H1 ds W1 k1 o1 r1 h1 => ?_
  exact ⟨ds, W1, O, XC, r1, o1, fun C0 H' W' k' o' hx => el C0 H' W' (k1.trans k') o' hx σ ((r.kp k1).kp k'), q.kp k1, h1⟩
/-- try: .. except x as n: y = n -/
theorem xs_tryK (i j : Nat) {x n y : Str} {c0 : Addr} {body : List Stmt} {np py pn2 pa pos' : Pos} {C : EndD} (XCb : XCt) (hN : X.N.Nodup) (hc : X.mg x = some (.ref c0))
    (hb : ∀ (pn : List (Addr × Obj)) (xe : Value → Shared → Prop) (Wx : WX), Takes (X.tr pn xe) Wx → XB (X.tr pn xe) (EW X.K g Wx) XCb body g W C)
    (hx : ∀ C0 W', XCb C0 W' → PySem.W.exmOne X.K (.ref C0) (.ref c0) = some true ∧ ∀ a, W' a = none → C.nx ((g.set i none).set j (some (.exc a C0))) W')
    (hg : Gl X x := by rfl) (hs : X.stack = X.env :: X.outer := by rfl) (hf : X.env.frame = some X.env.locals := by rfl) (hex : X.ex = [] := by rfl) (hi : X.N[i]? = some n := by rfl) (hj : X.N[j]? = some y := by rfl) (hij : i ≠ j := by decide)
    (hln : X.env.kindOf n = some .local := by rfl) (hly : X.env.scope.names.lookup y = some .local := by rfl) (hdx : (x == ("__debug__" : Str)) = false := by decide) (hd1 : (n == ("__debug__" : Str)) = false := by decide) (hd2 : (n == ("__classdict__" : Str)) = false := by decide)
    (hsw : swapsWith (.Name n pn2) (some (.Name y py)) pa.line X.env = pure false := by rfl) :
    XS X E XC (.Try body [.ExceptHandler (some (.Name x np)) (some n) [.Assign [.Name y py] (.Name n pn2) pa] pos'] [] [] pos) g W C := by
  refine xs_of (ps_try_keep (tb := fun Wx D σ H => ∀ (pn : List (Addr × Obj)) (xe : Value → Shared → Prop), Takes (X.tr pn xe) Wx → tssW (X.tr pn xe) body D σ H) hs hf hex hN hi hj hij hln hly ⟨hg, hdx, .inl hc⟩ hd1 hd2 hsw (fun Wx pn xe tk _ => ⟨fun pins s σ H D I h => h pn xe tk pins s I⟩)) fun D σ H r k el l => ?_
  intro pn xe tk
  refine hb pn xe _ tk D σ H r k (fun C0 H' W' k' o' hc0 σ' r' => ?_) l
  obtain ⟨h1, h2⟩ := hx C0 W' hc0
  refine ⟨C0, rfl, rfl, h1, fun ad oe na hcl hd hv => ?_⟩
  exact l.nx _ _ _ W' (k'.trans (Kp.new na)) (o'.more na) (((rpS_none r' i).kp (Kp.new na)).set j (.exc upd_same hcl hd hv)) (h2 ad (o'.free na))
/-! ### isinstance of a kept exception -/
def rIsX (K : PySem.W.Frag) : List V → Hp → VK → Prop := fun xs H Q => ∃ (ad C0 : Addr) (oe : Obj) (u : HO) (cl : V) (cv : Value) (r : Bool), xs = [.ref ad, cl] ∧ H ad = some (.frz oe u) ∧ oe.cls = .ref C0 ∧ oe.dict = none ∧ (∃ vs, oe.data = .fields vs) ∧ ExcC K C0 ∧ ClsV cl cv ∧ PySem.W.kitOne K (.ref C0) cv = some r ∧ Q (.bl r) H
theorem cr_isX : CallR X (.builtin "isinstance") (rIsX X.K) := by
  intro pins s σ H xs us Q I r h
  obtain ⟨ad, C0, oe, u, cl, cv, r0, rfl, hH, h1, h2, ⟨vs, h3⟩, EC, hcl, hk, q⟩ := h
  cases r with
  | cons rx rr =>
    cases rr with
    | cons rt rr =>
      cases rr
      cases rx
      have ec := hcl.eq rt
      subst ec
      obtain ⟨hget, _⟩ := (show ObjOk X.prog X.w H s.heap ad (.frz oe u) from I.hok ad _ hH)
      have J : PySem.W.InstAt s.heap ad oe C0 none := by
        obtain ⟨oc, od, oda, osl⟩ := oe
        dsimp only at h1 h2 h3
        subst h1 h2 h3
        exact ⟨hget, rfl, rfl, trivial⟩
      exact PySem.W.kia_one (PySem.W.handS_kitx_exc EC.hg EC.hk EC.hs EC.hd EC.ha EC.hn EC.ht EC.hm) I.kIn J hk (fun z => nomatch z) fun tk => ⟨.bl r0, H, I.kept (t' := tk) fun _ _ z => z, rfl, q⟩
/-- a class as a datum -/
inductive ClsD : D → Value → Prop where
  | ty (n : String) : ClsD (.ty n) (.type n)
  | own (C : Addr) : ClsD (.p C) (.ref C)
theorem xe_isX {p : Pos} (hm : X.mg "isinstance" = none) (h : XE X E XC a g W fun d W1 => XE X E XC b g W1 fun e W2 => ∃ ad C0 cv r, d = .exc ad C0 ∧ ExcC X.K C0 ∧ ClsD e cv ∧ PySem.W.kitOne X.K (.ref C0) cv = some r ∧ O (.bl r) W2) (hg : Gl X "isinstance" := by rfl)
    (hs : starEach [a, b] X.env = (false, eval a X.env) :: starEach [b] X.env := by rfl) (hs2 : starEach [b] X.env = (false, eval b X.env) :: starEach [] X.env := by rfl) (hp : (backTo pos (starEach [b] X.env)).any (·.1) = false := by rfl) : XE X E XC (.Call (.Name "isinstance" p) [a, b] [] pos) g W O := by
  refine xe_callB cr_isX hm (by decide +kernel) (xa2 (h.imp fun d W1 h1 => h1.imp fun e W2 h2 => ?_) hs hs2) hg (hs := hs) (hp := hp)
  intro vs H4 Q4 r4 o4 q4
  obtain ⟨ad, C0, cv, r, rfl, EC, hcl, hk, h5⟩ := h2
  cases r4 with
  | cons ra rb =>
    cases rb with
    | @cons v2 _ _ _ rb rc =>
      cases rc
      cases ra with
      | @exc _ _ oe u hH h1 h2 h3 =>
        have hcl2 : ClsV v2 cv := by
          cases hcl with
          | ty n => cases rb; exact .ty n
          | own C => cases rb; exact .own C
        exact ⟨ad, C0, oe, u, v2, cv, r, rfl, hH, h1, h2, h3, EC, hcl2, hk, q4 _ H4 _ W2 (Kp.refl _) o4 (.bl _) h5⟩
/-! ### index, count -/
theorem flat_bls : ∀ bs : List Bool, (bs.map V.bl).all flatV = true
  | [] => rfl
  | b :: r => by rw [List.map_cons, List.all_cons, flat_bls r]; rfl
theorem flat_strs : ∀ bs : List Str, (bs.map V.str).all flatV = true
  | [] => rfl
  | b :: r => by rw [List.map_cons, List.all_cons, flat_strs r]; rfl
/-- xs.index(True) of truth values -/
theorem xe_indexB {e : Expr} {apos : Pos} (h : XE X E XC a g W fun d W1 => ∃ l xs, d = .p l ∧ W1 l = some (.lst xs) ∧ XE X E XC e g W1 fun y W2 => ∃ bs : List Bool, ∃ j : Nat, y = .bl true ∧ W2 l = some (.lst (bs.map D.bl)) ∧ bs[j]? = some true ∧ (∀ m, m < j → bs[m]? = some false) ∧ O (.int (j : Int)) W2)
    (hbase : attributeBase a "index" X.env (eval a X.env) = eval a X.env := by rfl)
    (hfew : ((backTo pos (starEach [e] X.env)).all (fun x => !x.1) && (backToKw pos (keywordEach [] X.env)).all (fun x => x.1.isSome) && decide ([e].length + ([] : List Keyword).length + (if ([] : List Keyword).isEmpty then 0 else 1) < 30)) = true := by rfl)
    (hline : (apos.endLine == pos.line) = true := by rfl) (hs : starEach [e] X.env = (false, eval e X.env) :: starEach [] X.env := by rfl) (hplain : (backTo pos (starEach [] X.env)).any (·.1) = false := by rfl) :
    XE X E XC (.Call (.Attribute a "index" apos) [e] [] pos) g W O := by
  refine xe_of (pe_bm PySem.F.plainAttrs_list PySem.F.slot_list_index PySem.F.type_list_index mt_index pe_W (pa_cons pe_W pa_nil hs) hbase hfew hline hs hplain) fun σ H r k el Q q => ?_
  refine h σ H r k el _ fun v H1 d W1 k1 o1 r1 ⟨l, xs, e1, hl, h1⟩ => ?_
  subst e1
  cases r1
  obtain ⟨zs, hz, _⟩ := o1 l _ hl
  refine ⟨.inl ⟨rfl, zs, .of hz⟩, h1 σ H1 (r.kp k1) o1 (el.kp k1) _ fun y H2 d2 W2 k2 o2 r2 ⟨bs, j, e2, hy, hj, hno, h2⟩ => ?_⟩
  subst e2
  cases r2
  obtain ⟨us, hu, ru⟩ := o2 l _ hy
  rw [ru.bls] at hu
  refine ⟨l, _, .bl true, j, .bl true, rfl, rfl, .of hu, rfl, flat_bls bs, by rw [List.getElem?_map, hj]; rfl, rfl, fun m z' hm hz' => ?_, q _ H2 _ W2 (k1.trans k2) o2 (.int _) h2⟩
  rw [List.getElem?_map, hno m hm] at hz'
  rw [← Option.some.inj hz']; rfl
/-- xs.index(z) of texts -/
theorem xe_indexS {e : Expr} {apos : Pos} (h : XE X E XC a g W fun d W1 => ∃ l xs, d = .p l ∧ W1 l = some (.lst xs) ∧ XE X E XC e g W1 fun y W2 => ∃ (bs : List Str) (j : Nat) (z : Str), y = .str z ∧ W2 l = some (.lst (bs.map D.str)) ∧ bs[j]? = some z ∧ (∀ m z', m < j → bs[m]? = some z' → z' ≠ z) ∧ O (.int (j : Int)) W2)
    (hbase : attributeBase a "index" X.env (eval a X.env) = eval a X.env := by rfl)
    (hfew : ((backTo pos (starEach [e] X.env)).all (fun x => !x.1) && (backToKw pos (keywordEach [] X.env)).all (fun x => x.1.isSome) && decide ([e].length + ([] : List Keyword).length + (if ([] : List Keyword).isEmpty then 0 else 1) < 30)) = true := by rfl)
    (hline : (apos.endLine == pos.line) = true := by rfl) (hs : starEach [e] X.env = (false, eval e X.env) :: starEach [] X.env := by rfl) (hplain : (backTo pos (starEach [] X.env)).any (·.1) = false := by rfl) :
    XE X E XC (.Call (.Attribute a "index" apos) [e] [] pos) g W O := by
  refine xe_of (pe_bm PySem.F.plainAttrs_list PySem.F.slot_list_index PySem.F.type_list_index mt_index pe_W (pa_cons pe_W pa_nil hs) hbase hfew hline hs hplain) fun σ H r k el Q q => ?_
  refine h σ H r k el _ fun v H1 d W1 k1 o1 r1 ⟨l, xs, e1, hl, h1⟩ => ?_
  subst e1
  cases r1
  obtain ⟨zs, hz, _⟩ := o1 l _ hl
  refine ⟨.inl ⟨rfl, zs, .of hz⟩, h1 σ H1 (r.kp k1) o1 (el.kp k1) _ fun y H2 d2 W2 k2 o2 r2 ⟨bs, j, z, e2, hy, hj, hno, h2⟩ => ?_⟩
  subst e2
  cases r2
  obtain ⟨us, hu, ru⟩ := o2 l _ hy
  rw [ru.strs] at hu
  refine ⟨l, _, .str z, j, .str z, rfl, rfl, .of hu, rfl, flat_strs bs, by rw [List.getElem?_map, hj]; rfl, by simp [eqV], fun m z' hm hz' => ?_, q _ H2 _ W2 (k1.trans k2) o2 (.int _) h2⟩
  rw [List.getElem?_map] at hz'
  cases q2 : bs[m]? with
  | none => rw [q2] at hz'; cases hz'
  | some y =>
    rw [q2] at hz'
    rw [← Option.some.inj hz']
    have := hno m y hm q2
    simpa [eqV] using this
/-- how a truth value equals True -/
def isT : Value → Bool
  | .bool b => b
  | _ => false
def rCntB (K : PySem.W.Frag) : V → List V → Hp → VK → Prop := fun x xs H Q => ∃ (p : Addr) (bs : List Bool), x = .ref p ∧ xs = [.bl true] ∧ SqL K H p (bs.map V.bl) ∧ Q (.int (bs.count true : Nat)) H
theorem cnt_vals : ∀ {bs : List Bool} {its : List Value}, Vals (bs.map V.bl) its → its.countP isT = bs.count true
  | [], _, h => by cases h; rfl
  | b :: bs, _, h => by
    rw [List.map_cons] at h
    cases h with
    | cons r t =>
      cases (show _ = Value.bool b from r)
      rw [List.countP_cons, List.count_cons, cnt_vals t]
      cases b <;> rfl
theorem mem_bls : ∀ {bs : List Bool} {its : List Value}, Vals (bs.map V.bl) its → ∀ y ∈ its, ∃ b, y = Value.bool b
  | [], _, h, y, hy => by cases h; cases hy
  | b :: bs, _, h, y, hy => by
    rw [List.map_cons] at h
    cases h with
    | cons r t =>
      rcases List.mem_cons.mp hy with e | e
      · exact ⟨b, by rw [e]; exact r⟩
      · exact mem_bls t y e
theorem mt_countB : MtR X "list.count" (rCntB X.K) := by
  intro pins s σ H x xs v us Q I rx rxs h
  obtain ⟨p, bs, rfl, rfl, hs, q⟩ := h
  cases rx
  obtain ⟨u, rfl, ru⟩ := rxs.one
  cases (show u = Value.bool true from ru)
  obtain ⟨its, rv, ⟨⟨cls, dd, data, sl⟩, n, ho, hc, hdn, hd⟩, hlen⟩ := I.list hs
  simp only at hc hd
  subst hc hd
  refine call_meets PySem.F.slot_list_count ⟨_, ho, rfl⟩ PySem.F.entry_list_count (PySem.F.args_list_count_2 _ _) (SeqAt.list_countAt p its.toArray n dd sl (.bool true) isT) ⟨ho, fun y hy => ?_, ?_⟩
  · obtain ⟨b, rfl⟩ := mem_bls rv y (by simpa using hy)
    have := eqAt_V (A := X.A.in1) (s := s) (y := .bl b) (x := .bl true) (u := .bool b) (v := .bool true) rfl rfl rfl rfl
    have e : eqV (.bl b) (.bl true) = isT (.bool b) := by cases b <;> rfl
    rw [e] at this
    exact this
  · have ec : its.toArray.toList.countP isT = bs.count true := by
      rw [List.toList_toArray]
      exact cnt_vals rv
    rw [ec]
    exact ⟨.int (bs.count true : Nat), H, I.tok _, ⟨s.toks, rfl⟩, q⟩
theorem xe_countB {e : Expr} {apos : Pos} (h : XE X E XC a g W fun d W1 => ∃ l xs, d = .p l ∧ W1 l = some (.lst xs) ∧ XE X E XC e g W1 fun y W2 => ∃ bs : List Bool, y = .bl true ∧ W2 l = some (.lst (bs.map D.bl)) ∧ O (.int ((bs.count true : Nat) : Int)) W2)
    (hbase : attributeBase a "count" X.env (eval a X.env) = eval a X.env := by rfl)
    (hfew : ((backTo pos (starEach [e] X.env)).all (fun x => !x.1) && (backToKw pos (keywordEach [] X.env)).all (fun x => x.1.isSome) && decide ([e].length + ([] : List Keyword).length + (if ([] : List Keyword).isEmpty then 0 else 1) < 30)) = true := by rfl)
    (hline : (apos.endLine == pos.line) = true := by rfl) (hs : starEach [e] X.env = (false, eval e X.env) :: starEach [] X.env := by rfl) (hplain : (backTo pos (starEach [] X.env)).any (·.1) = false := by rfl) :
    XE X E XC (.Call (.Attribute a "count" apos) [e] [] pos) g W O := by
  refine xe_of (pe_bm PySem.F.plainAttrs_list PySem.F.slot_list_count PySem.F.type_list_count mt_countB pe_W (pa_cons pe_W pa_nil hs) hbase hfew hline hs hplain) fun σ H r k el Q q => ?_
  refine h σ H r k el _ fun v H1 d W1 k1 o1 r1 ⟨l, xs, e1, hl, h1⟩ => ?_
  subst e1
  cases r1
  obtain ⟨zs, hz, _⟩ := o1 l _ hl
  refine ⟨.inl ⟨rfl, zs, .of hz⟩, h1 σ H1 (r.kp k1) o1 (el.kp k1) _ fun y H2 d2 W2 k2 o2 r2 ⟨bs, e2, hy, h2⟩ => ?_⟩
  subst e2
  cases r2
  obtain ⟨us, hu, ru⟩ := o2 l _ hy
  rw [ru.bls] at hu
  exact ⟨l, bs, rfl, rfl, .of hu, q _ H2 _ W2 (k1.trans k2) o2 (.int _) h2⟩
end
end SR
namespace SR
open PySem PySem.Spec PyProof.Rows L2
/-! ### own classes -/
def putFD (f : Str) (v : D) : List (Str × D) → List (Str × D)
  | [] => [(f, v)]
  | (g, x) :: r => if g = f then (g, v) :: r else (g, x) :: putFD f v r
section
variable {K : PySem.W.Frag} {H : Hp}
theorem FsR.put {f : Str} {v : V} {d : D} (r : Rp K H v d) : ∀ {gs : List (Str × V)} {fs : List (Str × D)}, FsR K H gs fs → FsR K H (putF f v gs) (putFD f d fs)
  | _, _, .nil => .cons ⟨rfl, r⟩ .nil
  | (g, x) :: gs, (g2, y) :: fs, .cons h t => by
    obtain ⟨e, rx⟩ := h
    cases (show g = g2 from e)
    unfold putF putFD
    by_cases hg : g = f
    · rw [if_pos hg, if_pos hg]; exact .cons ⟨rfl, r⟩ t
    · rw [if_neg hg, if_neg hg]; exact .cons ⟨rfl, rx⟩ (FsR.put r t)
theorem FsR.look {f : Str} : ∀ {gs : List (Str × V)} {fs : List (Str × D)} {d : D}, FsR K H gs fs → fs.lookup f = some d → ∃ v, gs.lookup f = some v ∧ Rp K H v d
  | _, _, _, .nil, e => by cases e
  | (g, x) :: gs, (g2, y) :: fs, d, .cons h t, e => by
    obtain ⟨e1, rx⟩ := h
    cases (show g = g2 from e1)
    rw [List.lookup_cons] at e
    rw [List.lookup_cons]
    cases q : (f == g) with
    | true =>
      rw [q] at e
      have e' : some y = some d := e
      cases e'
      exact ⟨x, rfl, rx⟩
    | false =>
      rw [q] at e
      exact FsR.look t e
theorem FsR.no {f : Str} : ∀ {gs : List (Str × V)} {fs : List (Str × D)}, FsR K H gs fs → fs.lookup f = none → gs.lookup f = none
  | _, _, .nil, _ => rfl
  | (g, x) :: gs, (g2, y) :: fs, .cons h t, e => by
    obtain ⟨e1, rx⟩ := h
    cases (show g = g2 from e1)
    rw [List.lookup_cons] at e
    rw [List.lookup_cons]
    cases q : (f == g) with
    | true => rw [q] at e; cases e
    | false =>
      rw [q] at e
      exact FsR.no t e
theorem FsR.len {gs : List (Str × V)} {fs : List (Str × D)} (h : FsR K H gs fs) : gs.length = fs.length := Paired.length h
end
/-- what a caller wants of a method -/
structure CalM (P : Program) (w : World) (K : PySem.W.Frag) (mg : Str → Option Value) (base : Heap) (k : Nat) (C : Addr) (m : Str) (ps : List Str) (S : SpT) : Prop where
  ex : ∃ f fd, FnOk P w K mg base (L2.CX P w) k f fd ps (SpD K S) ∧ Meth K C m f ∧ Binds K fd ps []
theorem CalM.mono {P : Program} {w : World} {K : PySem.W.Frag} {mg : Str → Option Value} {base : Heap} {j k : Nat} {C : Addr} {m : Str} {ps : List Str} {S : SpT} (c : CalM P w K mg base j C m ps S) (h : j ≤ k) : CalM P w K mg base k C m ps S := by
  obtain ⟨f, fd, h1, h2⟩ := c.ex
  exact ⟨f, fd, h1.mono h, h2⟩
/-- THE RULE for a method -/
theorem calM_mk {P : Program} {w : World} {K : PySem.W.Frag} {mg : Str → Option Value} {base : Heap} {C : Addr} {x qual : Str} {st : Stmt} {f : Addr} {fd : FuncData} {N ps : List Str} {k : Nat} {S : SpT} (F : Fun K x qual st f fd) (hm : Meth K C x f) (hb : Binds K fd ps [])
    (Sc : FnScope N ps (defScope st)) (len : ∀ ds W O XC, S ds W O XC → ds.length = ps.length)
    (body : ∀ (cdv : Value) (A : Around) (outer : List Env) (s : Shared) (H : Hp) (E : XK) (ds : List D) (W : Om) (O : OD) (XC : XCt), Room k (A.deeper (envOfC qual (defScope st) s.heap.objs.size f cdv)) → S ds W O XC →
      XB (cxOf (L2.CX P w) P w K mg base N qual (defScope st) f cdv A outer s H E) E XC (defBody st) (startD N.length ds) W { nx := fun _ W' => O .non W', rt := O }) : CalM P w K mg base (k + 1) C x ps S :=
  ⟨f, fd, fnD F Sc len body, hm, hb⟩
/-- C(..) -/
structure CalC (P : Program) (w : World) (K : PySem.W.Frag) (mg : Str → Option Value) (base : Heap) (k : Nat) (x : Str) (C : Addr) (ps : List Str) (S : SpT) : Prop where
  ex : ∃ f fd, FnOk P w K mg base (L2.CX P w) k f fd ps (SpD K S) ∧ Mk K C f ∧ Binds K fd ps []
  mg : mg x = some (.ref C)
section
variable {X : Cx} {E : XK} {XC : XCt} {g : Ga} {W : Om} {a b c : Expr} {pos : Pos} {O : OD}
theorem xe_fld {f : Str} (h : XE X E XC a g W fun d W1 => ∃ l C dx fs v, d = .p l ∧ W1 l = some (.ins C dx fs) ∧ Cls X.K C ∧ NoAttr X.K C f ∧ fs.lookup f = some v ∧ O v W1) (hb : attributeBase a f X.env (eval a X.env) = eval a X.env := by rfl) : XE X E XC (.Attribute a f pos) g W O := by
  refine xe_of (pe_fld pe_W hb) fun σ H r k el Q q => ?_
  refine h σ H r k el _ fun v H1 d W1 k1 o1 r1 ⟨l, C, dx, fs, v2, e, hl, hc, hn, hf, h1⟩ => ?_
  subst e
  cases r1
  obtain ⟨gs, hg, fr⟩ := o1 l _ hl
  obtain ⟨u, hu, ru⟩ := fr.look hf
  exact ⟨l, C, dx, gs, u, rfl, hg, hc, hn, hu, q _ H1 _ W1 k1 o1 ru h1⟩
theorem xs_fld {f : Str} {C0 : EndD} {pos' : Pos} (h : XE X E XC b g W fun v W1 => XE X E XC a g W1 fun d W2 => ∃ l C dx fs, d = .p l ∧ W2 l = some (.ins C dx fs) ∧ Cls X.K C ∧ NoAttr X.K C f ∧ fs.length < 1000 ∧ C0.nx g (updO W2 l (.ins C dx (putFD f v fs))))
    (hs : swapsWith b (some (.Attribute a f pos')) pos.line X.env = pure false := by rfl) : XS X E XC (.Assign [.Attribute a f pos'] b pos) g W C0 := by
  refine xs_of (ps_fld pe_W pe_W hs) fun D σ H r k el l => ?_
  refine h σ H r k el _ fun v H1 dv W1 k1 o1 r1 h1 => ?_
  refine h1 σ H1 (r.kp k1) o1 (el.kp k1) _ fun u H2 d W2 k2 o2 r2 ⟨p, C, dx, fs, e, hl, hc, hn, hlen, h2⟩ => ?_
  subst e
  cases r2
  obtain ⟨gs, hg, fr⟩ := o2 p _ hl
  have kk : Kp H2 (upd H2 p (.ins C dx (putF f v gs))) := Kp.at hg (fun _ z => by cases z) (fun _ _ z => by cases z)
  refine ⟨p, C, dx, gs, rfl, hg, hc, hn, by rw [fr.len]; exact hlen, ?_⟩
  exact l.nx _ _ _ _ ((k1.trans k2).trans kk) (o2.set kk (o := .ins C dx (putFD f dv fs)) ⟨_, upd_same, (FsR.put (r1.kp k2) fr).kp kk⟩) (((r.kp k1).kp k2).kp kk) h2
theorem xe_meth0 {k : Nat} {C : Addr} {m : Str} {ps : List Str} {S : SpT} {apos : Pos} {pl : Sem Bool} (cl : Cls X.K C) (c : CalM X.prog X.w X.K X.mg X.base k C m ps S) (hr : Room k X.A) (hx : Passes (L2.CX X.prog X.w) X E) (h : XE X E XC a g W fun d W1 => ∃ l dx fs, d = .p l ∧ W1 l = some (.ins C dx fs) ∧ fs.lookup m = none ∧ S [.p l] W1 O XC)
    (ht : eval (.Call (.Attribute a m apos) [] [] pos) X.env = (do
      let ov ← eval a X.env
      standAt apos.atName
      let (f, first) ← holding [ov] (getMethod ov m pl)
      callWith pos f first (backTo pos (starEach [] X.env)) (backToKw pos (keywordEach [] X.env))) := by rfl) : XE X E XC (.Call (.Attribute a m apos) [] [] pos) g W O := by
  obtain ⟨f, fd, F, hm, hb⟩ := c.ex
  refine xe_of (pe_meth0 pe_W cl hm F hr hb .nil hx ht) fun σ H r k el Q q => ?_
  refine h σ H r k el _ fun v H1 d W1 k1 o1 r1 ⟨l, dx, fs, e, hl, hn, h1⟩ => ?_
  subst e
  cases r1
  obtain ⟨gs, hg, fr⟩ := o1 l _ hl
  exact ⟨l, dx, gs, rfl, hg, fr.no hn, [.p l], W1, O, XC, .cons (.p l) .nil, o1, el.kp k1, q.kp k1, h1⟩
theorem xe_meth {k : Nat} {C : Addr} {m : Str} {ps : List Str} {S : SpT} {e : Expr} {es : List Expr} {apos : Pos} {pl : Sem Bool} (cl : Cls X.K C) (c : CalM X.prog X.w X.K X.mg X.base k C m ps S) (hr : Room k X.A) (hx : Passes (L2.CX X.prog X.w) X E)
    (h : XE X E XC a g W fun d W1 => ∃ l dx fs, d = .p l ∧ W1 l = some (.ins C dx fs) ∧ fs.lookup m = none ∧ XA X E XC (e :: es) g W1 fun ds W2 => S (.p l :: ds) W2 O XC)
    (hst : starEach (e :: es) X.env = (false, eval e X.env) :: starEach es X.env := by rfl) (hpl : (backTo pos (starEach es X.env)).any (·.1) = false := by rfl)
    (ht : eval (.Call (.Attribute a m apos) (e :: es) [] pos) X.env = (do
      let ov ← eval a X.env
      standAt apos.atName
      let (f, first) ← holding [ov] (getMethod ov m pl)
      callWith pos f first (backTo pos (starEach (e :: es) X.env)) (backToKw pos (keywordEach [] X.env))) := by rfl) : XE X E XC (.Call (.Attribute a m apos) (e :: es) [] pos) g W O := by
  obtain ⟨f, fd, F, hm, hb⟩ := c.ex
  refine xe_of (pe_meth pe_W cl hm F hr hb .nil hx pa_W hst hpl ht) fun σ H r k el Q q => ?_
  refine h σ H r k el _ fun v H1 d W1 k1 o1 r1 ⟨l, dx, fs, e, hl, hn, h1⟩ => ?_
  subst e
  cases r1
  obtain ⟨gs, hg, fr⟩ := o1 l _ hl
  refine ⟨l, dx, gs, rfl, hg, fr.no hn, h1 σ H1 (r.kp k1) o1 (el.kp k1) _ fun vs H2 ds W2 k2 o2 r2 h2 => ?_⟩
  refine ⟨.p l :: ds, W2, O, XC, ?_, o2, (el.kp k1).kp k2, (q.kp k1).kp k2, h2⟩
  rw [List.append_nil]; exact .cons (.p l) r2
theorem xe_make {k : Nat} {x : Str} {C : Addr} {ps : List Str} {S : SpT} {e : Expr} {es : List Expr} {p : Pos} (c : CalC X.prog X.w X.K X.mg X.base k x C ps S) (hr : Room (k + 1) X.A) (hx : Passes (L2.CX X.prog X.w) X E)
    (h : XA X E XC (e :: es) g W fun ds W1 => ∀ l dx, W1 l = none → W1 dx = none → dx ≠ l → S (.p l :: ds) (updO (updO W1 dx (.own l)) l (.ins C dx [])) (fun d W2 => d = .non ∧ O (.p l) W2) XC) (hg : Gl X x := by rfl)
    (hdb : (x == ("__debug__" : Str)) = false := by decide) (he : starEach (e :: es) X.env = (false, eval e X.env) :: starEach es X.env := by rfl) (hpl : (backTo pos (starEach es X.env)).any (·.1) = false := by rfl) :
    XE X E XC (.Call (.Name x p) (e :: es) [] pos) g W O := by
  obtain ⟨f, fd, F, M, hb⟩ := c.ex
  refine xe_of (pe_make M F hr hg c.mg hb .nil hx pa_W hdb he hpl) fun σ H r k el Q q => ?_
  refine h σ H r k el _ fun vs H1 ds W1 k1 o1 r1 h1 => ?_
  intro l dx hl hdx hne
  have n1 : Kp H1 (upd H1 dx (.own l)) := Kp.new hdx
  have hl2 : upd H1 dx (.own l) l = none := by rw [upd_ne (Ne.symm hne)]; exact hl
  have n2 : Kp (upd H1 dx (.own l)) (upd (upd H1 dx (.own l)) l (.ins C dx [])) := Kp.new hl2
  have oo := (o1.new (o := .own l) hdx upd_same).new (o := .ins C dx []) (u := .ins C dx []) hl2 ⟨[], upd_same, .nil⟩
  refine ⟨.p l :: ds, _, _, XC, ?_, oo, (el.kp k1).kp (n1.trans n2), fun v H' d W' k' o' r' ⟨e1, h2⟩ => ?_, h1 l dx (o1.free hl) (o1.free hdx) hne⟩
  · rw [List.append_nil]; exact .cons (.p l) (r1.kp (n1.trans n2))
  · subst e1
    cases r'
    exact ⟨rfl, q _ _ _ _ ((k1.trans (n1.trans n2)).trans k') o' (.p l) h2⟩
end
/-! ### len, ==, !=, str by own methods -/
section
variable {X : Cx} {E : XK}
theorem run_at {pins : List (Addr × Obj)} {σ : St} {H : Hp} {s : Shared} {Q : VK} {us : List Value} {vs : List V} {A : Around} {CX : CXT} {k : Nat} {f : Addr} {fd : FuncData} {ps : List Str} {sp : Sp} (F : FnOk X.prog X.w X.K X.mg X.base CX k f fd ps sp) (hr : Room k A) (hfr : A.frames = X.A.frames) (hb : Binds X.K fd ps []) (hx : Passes CX X E)
    (I : Inv X pins σ H s) (r : Vals vs us) (h : sp vs H Q E) : wpAny (model X.prog X.w) A (call (.ref f) us) (EP X pins σ Q) X.xe s := by
  have e := I.env0
  have e0 : Env0 X.prog X.w X.K X.mg X.base A X.stack s H := ⟨by rw [hfr]; exact e.frames, e.mod, e.bs, e.bsz, e.funs, e.frf, e.hok, e.bare⟩
  have hl : (us ++ []).length = ps.length := by rw [List.append_nil, ← r.length]; exact F.len _ _ _ _ h
  have bt := hb s us I.kIn hl
  rw [List.append_nil] at bt
  refine wpAny_call (codeAny_mono (F.run A X.stack s H ⟨us, []⟩ us vs Q E hr e0 bt r h) fun res s' hq => ?_)
  cases res with
  | error e => exact hx pins σ H s e s' I hq
  | ok fl =>
    cases fl with
    | ret u => exact I.after hq
    | next => exact False.elim hq
    | brk => exact False.elim hq
    | cont => exact False.elim hq
def rLenO (X : Cx) (C : Addr) (E : XK) (sp : Sp) : List V → Hp → VK → Prop := fun vs H Q => ∃ a dx gs, vs = [V.ref a] ∧ H a = some (.ins C dx gs) ∧ sp [.ref a] H (fun y H' => ∃ n : Int, y = .int n ∧ 0 ≤ n ∧ n < 2 ^ 63 ∧ Q (.int n) H') E
theorem cr_lenO {C f : Addr} {fd : FuncData} {CX : CXT} {k : Nat} {ps : List Str} {sp : Sp} (F : FnOk X.prog X.w X.K X.mg X.base CX k f fd ps sp) (hm : Meth X.K C "__len__" f) (hb : Binds X.K fd ps []) (hx : Passes CX X E) (hr : Room (k + 1) X.A) : CallR X (.builtin "len") (rLenO X C E sp) := by
  intro pins s σ H vs us Q I r h
  obtain ⟨a, dx, gs, rfl, ha, hsp⟩ := h
  rw [Vals.ref1 r]
  obtain ⟨mA, J, _⟩ := ins_get I.hok ha
  obtain ⟨od, J, _⟩ := J.look
  obtain ⟨m, hF⟩ := I.fr
  refine PySem.W.len_K hF I.ok.mod.kin J hm.at_ hm.fn ?_
  refine wpAny_mono (run_at (vs := [V.ref a]) F hr.in1 rfl hb hx I (.cons rfl .nil) hsp) (fun v s' q => ?_) fun _ _ z => z
  obtain ⟨y, H', I', rv, n, rfl, h0, h1, q⟩ := q
  obtain ⟨t, rfl⟩ := rv
  exact ⟨⟨h0, h1⟩, .int n, H', I'.tok _, ⟨_, rfl⟩, q⟩
def rEqO (X : Cx) (C : Addr) (E : XK) (sp : Sp) : R2 := fun x y H Q => ∃ a dx gs t, x = .ref a ∧ H a = some (.ins C dx gs) ∧ TyX X.K H y t ∧ PySem.W.notFirst X.K C t = true ∧ sp [x, y] H (fun z H' => ∃ r, z = .bl r ∧ Q (.bl r) H') E
theorem op_eqO {C f : Addr} {fd : FuncData} {CX : CXT} {k : Nat} {ps : List Str} {sp : Sp} (F : FnOk X.prog X.w X.K X.mg X.base CX k f fd ps sp) (hm : Meth X.K C "__eq__" f) (hb : Binds X.K fd ps []) (hx : Passes CX X E) (hr : Room k X.A) : OpR X (compareOp .Eq) (rEqO X C E sp) := by
  intro pins s σ H x y u v Q I rx ry h
  obtain ⟨a, dx, gs, t, rfl, ha, ty, hn, hsp⟩ := h
  cases rx
  obtain ⟨mA, J, _⟩ := ins_get I.hok ha
  obtain ⟨od, J, _⟩ := J.look
  obtain ⟨m, hF⟩ := I.fr
  obtain ⟨P, kx, hP, _⟩ := kit_of I ry ty
  show wpAny (model X.prog X.w) X.A (richCompare .Eq (.ref a) v) (EP X pins σ Q) X.xe s
  refine PySem.W.cmp_K (op := .Eq) (tb := t) hr.units0 hF I.ok.mod.kin J (kx.ty _ _ I.kIn hP) hn hm.at_ hm.fn ?_
  refine wpAny_mono (run_at (vs := [V.ref a, y]) F hr rfl hb hx I (.cons rfl (.cons ry .nil)) hsp) (fun z s' q => ?_) fun _ _ z => z
  obtain ⟨y, H', I', rv, b, rfl, q⟩ := q
  cases (show z = Value.bool b from rv)
  exact ⟨.bl b, H', I', rfl, q⟩
end
end SR
namespace SR
open PySem PySem.Spec PyProof.Rows L2
/-! ### x != y of an own class without an own __ne__ -/
section
variable {prog : Program} {w : World} {A : Around} {E : Value → Shared → Prop} {s : Shared} {K : PySem.W.Frag} {x C f : Addr} {ox : Obj} {od : Option Obj} {b tb : Value}
theorem ifBound_B {M : Model} {name : Str} {id : String} {args : List Value} {Q : Option Value → Shared → Prop} (X : K.In s.heap) (I : PySem.W.InstAt s.heap x ox C od) (hs : PySem.W.findIn K (.ref C) name = some (some (.builtin id))) (hb : ∀ self, bindSpecial (.builtin id) self = pure (.builtin id, [self]))
    (h : wpAny M A (call (.builtin id) (.ref x :: args)) (fun v => Q (some v)) E s) : wpAny M A (callSpecialIfBound? (.ref x) name args) Q E s := by
  unfold callSpecialIfBound? bindSpecialIfBound?
  refine wpAny_holding (wpAny_bind (wpAny_bind (wpAny_bind (I.type.here ((PySem.W.looks_findIn X hs).here ?_)))))
  simp only [hb]
  refine wpAny_bind (wpAny_askSetting (wpAny_ite ?_))
  have go : wpAny M A (call (.builtin id) ([.ref x] ++ args) >>= fun v => pure (some v)) Q E s := wpAny_bind (wpAny_mono h (fun v s' k => wpAny_pure k) fun _ _ k => k)
  split
  · exact wpAny_bind (wpAny_pure (wpAny_pure go))
  · exact wpAny_tryCatch (wpAny_bind (wpAny_pure (wpAny_pure go)))
theorem ne_call {Q : Value → Shared → Prop} (hu : A.in1.units < cLine) (X : K.In s.heap) (I : PySem.W.InstAt s.heap x ox C od) (ho : PySem.W.subIn K (.ref C) (.type "object") = some true) (hs : PySem.W.findIn K (.ref C) "__eq__" = some (some (.ref f))) (hf : PySem.W.isFn K (.ref f) = true)
    (h : wpAny (model prog w) A.in1 (call (.ref f) [.ref x, b]) (fun v s' => ∃ r, v = .bool r ∧ Q (.bool (!r)) s') E s) : wpAny (model prog w) A (call (.builtin "object.__ne__") [.ref x, b]) Q E s := by
  have hi : PySem.W.Looks (model prog w) s.heap (isInstance (.ref x) (.type "object")) true := I.type.andThen (PySem.W.looks_subIn X ho)
  refine wpAny_call (codeAny_call_builtin F.cmp_object.ne.plain F.cmpEntry_ne ?_)
  refine PySem.W.check_slot F.cmpKind_ne F.cmpSplit_ne hi (F.cmpArgs_ne _ _) ?_
  unfold Builtin.«object.__ne__»
  refine wpAny_bind (wpAny_of_eq (a := ((Value.ref x : Value), [b])) (by first | rfl | (simp only [slotArgs]; rfl)) ?_)
  refine wpAny_bind (wpAny_cRoomFor hu ?_)
  refine wpAny_bind (PySem.W.ifBound_K X I hs hf (wpAny_mono h (fun v s' k => ?_) fun _ _ k => k))
  obtain ⟨r, rfl, q⟩ := k
  exact wpAny_bind (wpAny_truthy_bool (wpAny_pure q))
theorem ne_own {Q : Value → Shared → Prop} (hu0 : A.units < cLine) (hu : A.in1.units < cLine) (X : K.In s.heap) (I : PySem.W.InstAt s.heap x ox C od) (hb : PySem.W.Looks (model prog w) s.heap (typeOf b) tb) (hn : PySem.W.notFirst K C tb = true)
    (hne : PySem.W.findIn K (.ref C) "__ne__" = some (some (.builtin "object.__ne__"))) (ho : PySem.W.subIn K (.ref C) (.type "object") = some true) (hs : PySem.W.findIn K (.ref C) "__eq__" = some (some (.ref f))) (hf : PySem.W.isFn K (.ref f) = true)
    (h : wpAny (model prog w) A.in1 (call (.ref f) [.ref x, b]) (fun v s' => ∃ r, v = .bool r ∧ Q (.bool (!r)) s') E s) : wpAny (model prog w) A (richCompare .NotEq (.ref x) b) Q E s := by
  have one : wpAny (model prog w) A (tryCompare (.ref x) (cmpInfo .NotEq).2.1 b) (fun r s' => ∃ v, r = some v ∧ Q v s') E s := by
    unfold tryCompare
    have back := ne_call (Q := fun v s' => ∃ r, v = .bool r ∧ Q v s') hu X I ho hs hf (wpAny_mono h (fun v s' ⟨r, e, q⟩ => ⟨r, e, _, rfl, q⟩) fun _ _ k => k)
    refine wpAny_bind (ifBound_B X I hne F.cmp_object.ne.bind (wpAny_mono back (fun v s' k => ?_) fun _ _ k => k))
    obtain ⟨r, rfl, q⟩ := k
    exact wpAny_pure ⟨_, rfl, q⟩
  unfold richCompare
  simp only [oneThing_ref]
  refine wpAny_holding (wpAny_bind (wpAny_cRoomFor hu0 (wpAny_bind (I.type.here (wpAny_bind (hb.here ?_))))))
  split
  · rename_i q
    have e : PySem.W.subIn K tb (.ref C) = some false := by
      rcases Bool.or_eq_true_iff.mp hn with e | e
      · rw [beq_iff_eq.mp e] at q; simp at q
      · exact beq_iff_eq.mp e
    refine wpAny_bind ((PySem.W.looks_subIn X e).here ?_)
    simp only [Bool.false_eq_true, if_false]
    refine wpAny_bind (wpAny_mono one (fun r s' z => ?_) fun _ _ k => k)
    obtain ⟨v, rfl, q⟩ := z
    exact wpAny_pure q
  · refine wpAny_bind (wpAny_pure ?_)
    simp only [Bool.false_eq_true, if_false]
    refine wpAny_bind (wpAny_mono one (fun r s' z => ?_) fun _ _ k => k)
    obtain ⟨v, rfl, q⟩ := z
    exact wpAny_pure q
end
/-- an own class, for isinstance and comparisons -/
structure OwnC (K : PySem.W.Frag) (C : Addr) : Prop where
  cl : Cls K C
  ha : PySem.W.findIn K (.ref C) "__class__" = some (some (.builtin "object.__class__"))
  hn : PySem.W.specialIn K (.builtin "object.__class__") "__get__" = some (some (.builtin "getset_descriptor.__get__"))
  ht : PySem.W.takesIn K (.builtin "object.__class__") = some true
  hm : PySem.W.mroIn K C (.type "object") = some true
/-- the type of a datum: a built-in's, or an own class -/
inductive TyE (K : PySem.W.Frag) (W : Om) : D → Value → Prop where
  | d {d : D} {t : String} (h : tyD W d = some t) : TyE K W d (.type t)
  | ins {l C dx : Addr} {fs : List (Str × D)} (h : W l = some (.ins C dx fs)) (c : OwnC K C) : TyE K W (.p l) (.ref C)
theorem TyE.ok {K : PySem.W.Frag} {H : Hp} {W : Om} {v : V} {d : D} {t : Value} (o : HpOk K H W) (r : Rp K H v d) (h : TyE K W d t) : TyX K H v t := by
  cases h with
  | d h => exact tyD_ok o r h
  | ins h c =>
    cases r
    obtain ⟨gs, hg, _⟩ := o _ _ h
    exact .base (.ins hg c.cl c.ha c.hn c.ht c.hm)
section
variable {X : Cx} {E : XK}
def rNeO (X : Cx) (C : Addr) (E : XK) (sp : Sp) : R2 := fun x y H Q => ∃ a dx gs t, x = .ref a ∧ H a = some (.ins C dx gs) ∧ TyX X.K H y t ∧ PySem.W.notFirst X.K C t = true ∧ sp [x, y] H (fun z H' => ∃ r, z = .bl r ∧ Q (.bl (!r)) H') E
theorem op_neO {C f : Addr} {fd : FuncData} {CX : CXT} {k : Nat} {ps : List Str} {sp : Sp} (F : FnOk X.prog X.w X.K X.mg X.base CX k f fd ps sp) (hm : Meth X.K C "__eq__" f) (hne : PySem.W.findIn X.K (.ref C) "__ne__" = some (some (.builtin "object.__ne__"))) (ho : PySem.W.subIn X.K (.ref C) (.type "object") = some true)
    (hb : Binds X.K fd ps []) (hx : Passes CX X E) (hr : Room (k + 1) X.A) : OpR X (compareOp .NotEq) (rNeO X C E sp) := by
  intro pins s σ H x y u v Q I rx ry h
  obtain ⟨a, dx, gs, t, rfl, ha, ty, hn, hsp⟩ := h
  cases rx
  obtain ⟨mA, J, _⟩ := ins_get I.hok ha
  obtain ⟨od, J, _⟩ := J.look
  obtain ⟨P, kx, hP, _⟩ := kit_of I ry ty
  show wpAny (model X.prog X.w) X.A (richCompare .NotEq (.ref a) v) (EP X pins σ Q) X.xe s
  refine ne_own hr.units0 hr.in1.units0 I.kIn J (kx.ty _ _ I.kIn hP) hn hne ho hm.at_ hm.fn ?_
  refine wpAny_mono (run_at (vs := [V.ref a, y]) F hr.in1 rfl hb hx I (.cons rfl (.cons ry .nil)) hsp) (fun z s' q => ?_) fun _ _ z => z
  obtain ⟨y, H', I', rv, b, rfl, q⟩ := q
  cases (show z = Value.bool b from rv)
  exact ⟨b, rfl, .bl (!b), H', I', rfl, q⟩
def rStrO (X : Cx) (C : Addr) (E : XK) (sp : Sp) : List V → Hp → VK → Prop := fun vs H Q => ∃ a dx gs, vs = [V.ref a] ∧ H a = some (.ins C dx gs) ∧ sp [.ref a] H (fun y H' => ∃ z, y = .str z ∧ Q (.str z) H') E
theorem cr_strO {C f : Addr} {fd : FuncData} {CX : CXT} {k : Nat} {ps : List Str} {sp : Sp} (F : FnOk X.prog X.w X.K X.mg X.base CX k f fd ps sp) (hm : Meth X.K C "__str__" f) (hb : Binds X.K fd ps []) (hx : Passes CX X E) (hr : Room (k + 2) X.A) : CallR X (.type "str") (rStrO X C E sp) := by
  intro pins s σ H vs us Q I r h
  obtain ⟨a, dx, gs, rfl, ha, hsp⟩ := h
  rw [Vals.ref1 r]
  obtain ⟨mA, J, _⟩ := ins_get I.hok ha
  obtain ⟨od, J, _⟩ := J.look
  refine PySem.W.kso_call hr.in1.in1.units0 I.kIn J hm.at_ hm.fn ?_
  refine wpAny_mono (run_at (vs := [V.ref a]) F hr.in1.in1 rfl hb hx I (.cons rfl .nil) hsp) (fun v s' q => ?_) fun _ _ z => z
  obtain ⟨y, H', I', rv, z, rfl, q⟩ := q
  obtain ⟨t, rfl⟩ := rv
  exact ⟨.str z, H', I', ⟨t, rfl⟩, q⟩
end
section
variable {X : Cx} {E : XK} {XC : XCt} {g : Ga} {W : Om} {a b c : Expr} {pos : Pos} {O : OD}
theorem xe_lenO {k : Nat} {C : Addr} {ps : List Str} {S : SpT} {p : Pos} (hm : X.mg "len" = none) (c : CalM X.prog X.w X.K X.mg X.base k C "__len__" ps S) (hr : Room (k + 1) X.A) (h : XE X E XC a g W fun d W1 => ∃ l dx fs, d = .p l ∧ W1 l = some (.ins C dx fs) ∧ S [.p l] W1 (fun y W2 => ∃ n : Int, y = .int n ∧ 0 ≤ n ∧ n < 2 ^ 63 ∧ O (.int n) W2) XC0)
    (hg : Gl X "len" := by rfl) (hs : starEach [a] X.env = (false, eval a X.env) :: starEach [] X.env := by rfl) (hp : (backTo pos (starEach [] X.env)).any (·.1) = false := by rfl) : XE X E XC (.Call (.Name "len" p) [a] [] pos) g W O := by
  obtain ⟨f, fd, F, hmt, hb⟩ := c.ex
  refine xe_callB (cr_lenO F hmt hb pass0X hr) hm PySem.boot_len (xa1 (h.imp fun d W1 h1 => ?_) hs) hg (hs := hs) (hp := hp)
  intro vs H2 Q2 r2 o2 q2
  obtain ⟨l, dx, fs, rfl, hl, h2⟩ := h1
  cases r2 with
  | cons rv rn =>
    cases rn
    cases rv
    obtain ⟨gs, hgs, fr⟩ := o2 l _ hl
    refine ⟨l, dx, gs, rfl, hgs, [.p l], W1, _, XC0, .cons (.p l) .nil, o2, el0, fun v H' d W' k' o' r' ⟨n, e, h0, h1, hq⟩ => ?_, h2⟩
    subst e
    cases r'
    exact ⟨n, rfl, h0, h1, q2 _ H' _ W' k' o' (.int n) hq⟩
/-- what == by an own __eq__ asks -/
def EqO (X : Cx) (C : Addr) (S : SpT) (f : Bool → Bool) : R2D := fun d e W O => ∃ l dx fs t, d = .p l ∧ W l = some (.ins C dx fs) ∧ TyE X.K W e t ∧ PySem.W.notFirst X.K C t = true ∧ S [.p l, e] W (fun z W2 => ∃ r, z = .bl r ∧ O (.bl (f r)) W2) XC0
theorem op2_eqO {C : Addr} {S : SpT} : Op2 X.K (rEqO X C E0 (SpD X.K S)) (EqO X C S id) := by
  intro x y d e H W O Q rx ry o q ⟨l, dx, fs, t, e1, hl, ty, hn, h⟩
  subst e1
  cases rx
  obtain ⟨gs, hgs, fr⟩ := o l _ hl
  refine ⟨l, dx, gs, t, rfl, hgs, ty.ok o ry, hn, [.p l, e], W, _, XC0, .cons (.p l) (.cons ry .nil), o, el0, fun v H' d W' k' o' r' ⟨r, e, hq⟩ => ?_, h⟩
  subst e
  cases r'
  exact ⟨r, rfl, q _ H' _ W' k' o' (.bl _) hq⟩
theorem op2_neO {C : Addr} {S : SpT} : Op2 X.K (rNeO X C E0 (SpD X.K S)) (EqO X C S not) := by
  intro x y d e H W O Q rx ry o q ⟨l, dx, fs, t, e1, hl, ty, hn, h⟩
  subst e1
  cases rx
  obtain ⟨gs, hgs, fr⟩ := o l _ hl
  refine ⟨l, dx, gs, t, rfl, hgs, ty.ok o ry, hn, [.p l, e], W, _, XC0, .cons (.p l) (.cons ry .nil), o, el0, fun v H' d W' k' o' r' ⟨r, e, hq⟩ => ?_, h⟩
  subst e
  cases r'
  exact ⟨r, rfl, q _ H' _ W' k' o' (.bl _) hq⟩
theorem xe_eqO {k : Nat} {C : Addr} {ps : List Str} {S : SpT} (c : CalM X.prog X.w X.K X.mg X.base k C "__eq__" ps S) (hr : Room k X.A) (h : XE X E XC a g W fun d W1 => XE X E XC b g W1 fun e W2 => EqO X C S id d e W2 O) : XE X E XC (.Compare a [.Eq] [b] pos) g W O := by
  obtain ⟨f, fd, F, hmt, hb⟩ := c.ex
  exact xe_of (pe_cmpR (op_eqO F hmt hb pass0X hr) pe_W pe_W (nomark _)) (ex_op op2_eqO h)
theorem xt_eqO {O : Bool → Om → Prop} {k : Nat} {C : Addr} {ps : List Str} {S : SpT} (c : CalM X.prog X.w X.K X.mg X.base k C "__eq__" ps S) (hr : Room k X.A) (h : XE X E XC a g W fun d W1 => XE X E XC b g W1 fun e W2 => EqO X C S id d e W2 (asB O)) : XT X E XC (.Compare a [.Eq] [b] pos) g W O := by
  obtain ⟨f, fd, F, hmt, hb⟩ := c.ex
  exact xt_of (pt_cmpR (op_eqO F hmt hb pass0X hr) pe_W pe_W (nomark _)) (exT_test (ex_op op2_eqO h))
theorem xe_neO {k : Nat} {C : Addr} {ps : List Str} {S : SpT} (c : CalM X.prog X.w X.K X.mg X.base k C "__eq__" ps S) (hne : PySem.W.findIn X.K (.ref C) "__ne__" = some (some (.builtin "object.__ne__"))) (ho : PySem.W.subIn X.K (.ref C) (.type "object") = some true) (hr : Room (k + 1) X.A)
    (h : XE X E XC a g W fun d W1 => XE X E XC b g W1 fun e W2 => EqO X C S not d e W2 O) : XE X E XC (.Compare a [.NotEq] [b] pos) g W O := by
  obtain ⟨f, fd, F, hmt, hb⟩ := c.ex
  exact xe_of (pe_cmpR (op_neO F hmt hne ho hb pass0X hr) pe_W pe_W (nomark _)) (ex_op op2_neO h)
theorem xt_neO {O : Bool → Om → Prop} {k : Nat} {C : Addr} {ps : List Str} {S : SpT} (c : CalM X.prog X.w X.K X.mg X.base k C "__eq__" ps S) (hne : PySem.W.findIn X.K (.ref C) "__ne__" = some (some (.builtin "object.__ne__"))) (ho : PySem.W.subIn X.K (.ref C) (.type "object") = some true) (hr : Room (k + 1) X.A)
    (h : XE X E XC a g W fun d W1 => XE X E XC b g W1 fun e W2 => EqO X C S not d e W2 (asB O)) : XT X E XC (.Compare a [.NotEq] [b] pos) g W O := by
  obtain ⟨f, fd, F, hmt, hb⟩ := c.ex
  exact xt_of (pt_cmpR (op_neO F hmt hne ho hb pass0X hr) pe_W pe_W (nomark _)) (exT_test (ex_op op2_neO h))
/-- isinstance(x, c) of any datum with a type -/
theorem xe_isiO {p : Pos} (hm : X.mg "isinstance" = none) (h : XE X E XC a g W fun d W1 => XE X E XC b g W1 fun e W2 => ∃ t cv r, TyE X.K W2 d t ∧ ClsD e cv ∧ PySem.W.kitOne X.K t cv = some r ∧ O (.bl r) W2) (hg : Gl X "isinstance" := by rfl)
    (hs : starEach [a, b] X.env = (false, eval a X.env) :: starEach [b] X.env := by rfl) (hs2 : starEach [b] X.env = (false, eval b X.env) :: starEach [] X.env := by rfl) (hp : (backTo pos (starEach [b] X.env)).any (·.1) = false := by rfl) : XE X E XC (.Call (.Name "isinstance" p) [a, b] [] pos) g W O := by
  refine xe_callB call_isi hm (by decide +kernel) (xa2 (h.imp fun d W1 h1 => h1.imp fun e W2 h2 => ?_) hs hs2) hg (hs := hs) (hp := hp)
  intro vs H4 Q4 r4 o4 q4
  obtain ⟨t, cv, r, ty, hcl, hk, h5⟩ := h2
  cases r4 with
  | @cons v5 _ _ _ ra rb =>
    cases rb with
    | @cons v2 _ _ _ rb rc =>
      cases rc
      have hcl2 : ClsV v2 cv := by
        cases hcl with
        | ty n => cases rb; exact .ty n
        | own C => cases rb; exact .own C
      exact ⟨v5, v2, t, cv, r, rfl, hcl2, ty.ok o4 ra, hk, q4 _ H4 _ W2 (Kp.refl _) o4 (.bl _) h5⟩
theorem xe_strO {k : Nat} {C : Addr} {ps : List Str} {S : SpT} {p : Pos} (hm : X.mg "str" = none) (c : CalM X.prog X.w X.K X.mg X.base k C "__str__" ps S) (hr : Room (k + 2) X.A) (h : XE X E XC a g W fun d W1 => ∃ l dx fs, d = .p l ∧ W1 l = some (.ins C dx fs) ∧ S [.p l] W1 (fun y W2 => ∃ z, y = .str z ∧ O (.str z) W2) XC0)
    (hg : Gl X "str" := by rfl) (hs : starEach [a] X.env = (false, eval a X.env) :: starEach [] X.env := by rfl) (hp : (backTo pos (starEach [] X.env)).any (·.1) = false := by rfl) : XE X E XC (.Call (.Name "str" p) [a] [] pos) g W O := by
  obtain ⟨f, fd, F, hmt, hb⟩ := c.ex
  refine xe_callTy (cr_strO F hmt hb pass0X hr) hm (by decide +kernel) (xa1 (h.imp fun d W1 h1 => ?_) hs) hg (hs := hs) (hp := hp)
  intro vs H2 Q2 r2 o2 q2
  obtain ⟨l, dx, fs, rfl, hl, h2⟩ := h1
  cases r2 with
  | cons rv rn =>
    cases rn
    cases rv
    obtain ⟨gs, hgs, fr⟩ := o2 l _ hl
    refine ⟨l, dx, gs, rfl, hgs, [.p l], W1, _, XC0, .cons (.p l) .nil, o2, el0, fun v H' d W' k' o' r' ⟨z, e, hq⟩ => ?_, h2⟩
    subst e
    cases r'
    exact ⟨z, rfl, q2 _ H' _ W' k' o' (.str z) hq⟩
/-! ### f-strings -/
theorem xe_fmt (h : XE X E XC a g W fun d W1 => (∃ y : Str, d = .str y ∧ y.length ≤ sizeLine ∧ O (.str y) W1) ∨ ∃ i : Int, d = .int i ∧ i.natAbs.log2 < 1920 ∧ O (.str (toString i)) W1) : XE X E XC (.FormattedValue a (-1) none pos) g W O := by
  refine xe_of (pe_fmt pe_W) fun σ H r k el Q q => ?_
  refine h σ H r k el _ fun v H1 d W1 k1 o1 r1 h1 => ?_
  rcases h1 with ⟨y, e, hz, h1⟩ | ⟨i, e, hz, h1⟩
  · subst e; cases r1
    exact .inl ⟨y, rfl, hz, q _ H1 _ W1 k1 o1 (.str y) h1⟩
  · subst e; cases r1
    exact .inr ⟨i, rfl, hz, q _ H1 _ W1 k1 o1 (.str _) h1⟩
/-- the parts of an f-string, one behind the other -/
def XJ (X : Cx) (E : XK) (XC : XCt) : List Expr → Ga → Om → Str → OD → Prop
  | [], _, W, acc, O => O (.str acc) W
  | e :: es, g, W, acc, O => XE X E XC e g W fun d W1 => ∃ y : Str, d = .str y ∧ (acc ++ y).length ≤ sizeLine ∧ XJ X E XC es g W1 (acc ++ y) O
theorem pj_W : ∀ es : List Expr, PJ X es (es.map (tW X))
  | [] => .nil
  | _ :: es => .cons pe_W (pj_W es)
theorem xj_run : ∀ (es : List Expr) (W : Om) (acc : Str), XJ X E XC es g W acc O → ∀ (σ : St) (H : Hp), RpS X.K H σ g → HpOk X.K H W → EL X.K H E XC → ∀ Q : VK, QL X.K H O Q → tJs (es.map (tW X)) acc σ H fun out H1 => Q (.str out) H1
  | [], W, acc, h, σ, H, r, k, el, Q, q => q _ H _ W (Kp.refl H) k (.str acc) h
  | e :: es, W, acc, h, σ, H, r, k, el, Q, q => by
    refine h σ H r k el _ fun v H1 d W1 k1 o1 r1 ⟨y, e1, hz, h1⟩ => ?_
    subst e1
    cases r1
    exact ⟨y, rfl, hz, xj_run es W1 (acc ++ y) h1 σ H1 (r.kp k1) o1 (el.kp k1) Q (q.kp k1)⟩
theorem xe_joined {v1 v2 : Expr} {rest : List Expr} (h : XJ X E XC (v1 :: v2 :: rest) g W Str.empty O) : XE X E XC (.JoinedStr (v1 :: v2 :: rest) pos) g W O :=
  xe_of (pe_joined (pj_W _)) fun σ H r k el Q q => xj_run _ W Str.empty h σ H r k el Q q
end
end SR
namespace SR
open PySem PySem.Spec PyProof.Rows L2
theorem op2_rep {K : PySem.W.Frag} : Op2 K rRep (fun d e W O => ∃ l k ds, d = .p l ∧ e = .int k ∧ W l = some (.lst ds) ∧ -(2 ^ 63) ≤ k ∧ k < 2 ^ 63 ∧ ds.length * k.toNat ≤ sizeLine ∧ ∀ p, W p = none → O (.p p) (updO W p (.lst (List.replicate k.toNat ds).flatten))) := by
  intro x y d e H W O Q rx ry o q ⟨l, k, ds, e1, e2, hl, h1, h2, hz, h⟩
  subst e1 e2
  cases rx
  cases ry
  obtain ⟨xs, g1, r1⟩ := o l _ hl
  refine ⟨l, k, xs, rfl, rfl, g1, h1, h2, by rw [r1.length]; exact hz, fun p hp => ?_⟩
  exact q _ _ _ _ (Kp.new hp) (o.new (o := .lst (List.replicate k.toNat ds).flatten) hp ⟨_, upd_same, (r1.rep k.toNat).kp (Kp.new hp)⟩) (.p p) (h p (o.free hp))
section
variable {X : Cx} {E : XK} {XC : XCt} {g : Ga} {W : Om} {a b c : Expr} {pos : Pos} {O : OD}
/-- a list times an int -/
theorem xe_rep (h : XE X E XC a g W fun d W1 => XE X E XC b g W1 fun e W2 => ∃ l k ds, d = .p l ∧ e = .int k ∧ W2 l = some (.lst ds) ∧ -(2 ^ 63) ≤ k ∧ k < 2 ^ 63 ∧ ds.length * k.toNat ≤ sizeLine ∧ ∀ p, W2 p = none → O (.p p) (updO W2 p (.lst (List.replicate k.toNat ds).flatten))) : XE X E XC (.BinOp a .Mult b pos) g W O :=
  xe_of (pe_op op_rep pe_W pe_W) (ex_op op2_rep h)
end
theorem updO_free {W : Om} {a b : Addr} {o : Ob} (h : updO W a o b = none) : W b = none := by
  unfold updO at h
  split at h
  · cases h
  · exact h
end SR
namespace SR
open PySem PySem.Spec PyProof.Rows L2
section
variable {X : Cx} {E : XK} {XC : XCt} {g : Ga} {W : Om} {a b c : Expr} {pos : Pos} {O : OD}
/-- how a made function is tracked -/
def seenO (f : Addr) (o : Obj) : HO := .frz o (.ext fun h => ∃ o, h.get? f = some o)
theorem seenO_ok {P : Program} {w : World} {H : Hp} {h : Heap} {f : Addr} {o : Obj} (e : h.get? f = some o) : ObjOk P w H h f (seenO f o) :=
  ⟨e, ⟨o, e⟩, ⟨o, e⟩, fun _ _ ⟨o, e1⟩ k => ⟨o, k o e1⟩⟩
/-- a lambda that captures nothing is made -/
theorem xe_lam {pr : Arguments} {bd : Expr} {sc : Scope} {cc T : Addr} (TB : LamX.TabB X.base X.mg cc T) (hcode : X.env.code = .ref cc) (hT : W T = some (.tab (X.env.qual ++ "<lambda>")))
    (hno : ∀ y ∈ sc.names, y.2 ≠ .free) (hcl : cloFrom X.env.cells sc.names [] = []) (hdef : defaultsOf pr X.env = ([], []))
    (h : ∀ f, W f = none → O (.p f) (updO W f (.fn (X.env.qual ++ "<lambda>") pr bd sc))) : XE X E XC (.Lambda pr bd sc pos) g W O := by
  intro σ H r ok el Q q pins s I
  obtain ⟨ps, hP, ht, ha⟩ := ok T _ hT
  have hcf : closureFor sc X.env = pure [] := by
    rw [closure_ok fun y hy e => absurd e (hno y hy), hcl]
  have bT : s.heap.BuiltinsAt X.mg T := TB.bm.keeps I.bk
  have hP1 : s.heap.get? T = some { cls := .none, data := .fields ps } := I.hok T _ hP
  refine PySem.W.kla_eval hdef ?_
  cases hc : codeAmong pos ps.toList with
  | some cv =>
    obtain ⟨c1, oc, u, vs, t, rfl, g1, g2, g3⟩ := ha pos cv hc
    refine PySem.W.kla_makeFunctionHit (P := T) hcf I.ok.glob (I.mod.glob.keeps I.bk) hcode (TB.code.keeps I.bk) hP1 ht hc bT fun ctv h1 tk up hsz => ?_
    have hfree : H h1.objs.size = none := I.hok.fresh hsz
    have I2 := I.laid (t' := tk) (a := h1.objs.size) (o := seenO h1.objs.size (PySem.W.kla_obj "<lambda>" (X.env.qual ++ "<lambda>") pr bd sc [] ((X.mg "__name__").getD .none) c1 ctv)) (fun b o e => Heap.get?_push_of_some _ (up b o e)) hsz (seenO_ok (Heap.get?_push_size _ rfl))
    have kn := Kp.new (o := seenO h1.objs.size (PySem.W.kla_obj "<lambda>" (X.env.qual ++ "<lambda>") pr bd sc [] ((X.mg "__name__").getD .none) c1 ctv)) hfree
    refine ⟨.ref _, _, I2, rfl, q _ _ _ _ kn (ok.new (o := .fn (X.env.qual ++ "<lambda>") pr bd sc) hfree ?_) (.p _) (h _ (ok.free hfree))⟩
    exact ⟨_, _, c1, _, oc, u, vs, t, upd_same, kn.f _ _ _ g1, g2, g3⟩
  | none =>
    refine PySem.W.kla_makeFunction (P := T) hcf I.ok.glob (I.mod.glob.keeps I.bk) hcode (TB.code.keeps I.bk) hP1 ht hc TB.gP bT fun c1 ctv h1 tk up hge hlt hrec htb => ?_
    obtain ⟨c2, oc, vs, t, e2, hoc, hd, hv⟩ := hrec
    cases e2
    have nC : H c1 = none := I.hok.fresh hge
    have nTc : T ≠ c1 := ne_of_none hP nC
    have hsz : s.heap.objs.size ≤ h1.objs.size := Nat.le_trans hge (Nat.le_of_lt hlt)
    have nF : H h1.objs.size = none := I.hok.fresh hsz
    have nFc : h1.objs.size ≠ c1 := Nat.ne_of_gt hlt
    have nFT : h1.objs.size ≠ T := fun z => by rw [z, hP] at nF; cases nF
    have I1 := LamX.inv_table (t' := tk) (more := #[rawInt pos.line, rawInt pos.col, .ref c1]) I hP up htb hge ⟨oc, vs, t, hoc, hd, hv⟩
    have hC1 : upd (upd H T (.tbl (ps ++ #[rawInt pos.line, rawInt pos.col, .ref c1]))) c1 (LamX.CodeO c1 (X.env.qual ++ "<lambda>")) c1 = some (LamX.CodeO c1 (X.env.qual ++ "<lambda>")) := upd_same
    obtain ⟨od, I2⟩ := I1.lock hC1 True.intro
    obtain ⟨e1, ⟨od', vs', t', e3, e4, e5⟩, _⟩ := I2.hok c1 _ upd_same
    rw [e1] at e3
    cases e3
    have nF2 : upd (upd (upd H T (.tbl (ps ++ #[rawInt pos.line, rawInt pos.col, .ref c1]))) c1 (LamX.CodeO c1 (X.env.qual ++ "<lambda>"))) c1 (.frz od (LamX.CodeO c1 (X.env.qual ++ "<lambda>"))) h1.objs.size = none := by
      rw [upd_ne nFc, upd_ne nFc, upd_ne nFT]; exact nF
    have I3 := I2.laid (t' := tk) (h' := h1.push (PySem.W.kla_obj "<lambda>" (X.env.qual ++ "<lambda>") pr bd sc [] ((X.mg "__name__").getD .none) c1 ctv)) (a := h1.objs.size) (o := seenO h1.objs.size (PySem.W.kla_obj "<lambda>" (X.env.qual ++ "<lambda>") pr bd sc [] ((X.mg "__name__").getD .none) c1 ctv)) (fun b o e => Heap.get?_push_of_some _ e) (Nat.le_refl _) (seenO_ok (Heap.get?_push_size _ rfl))
    have k1 : Kp H (upd H T (.tbl (ps ++ #[rawInt pos.line, rawInt pos.col, .ref c1]))) := Kp.at hP (fun _ z => by cases z) (fun _ _ z => by cases z)
    have k2 : Kp (upd H T (.tbl (ps ++ #[rawInt pos.line, rawInt pos.col, .ref c1]))) (upd (upd H T (.tbl (ps ++ #[rawInt pos.line, rawInt pos.col, .ref c1]))) c1 (LamX.CodeO c1 (X.env.qual ++ "<lambda>"))) := Kp.new (by rw [upd_ne (Ne.symm nTc)]; exact nC)
    have k3 : Kp (upd (upd H T (.tbl (ps ++ #[rawInt pos.line, rawInt pos.col, .ref c1]))) c1 (LamX.CodeO c1 (X.env.qual ++ "<lambda>"))) (upd (upd (upd H T (.tbl (ps ++ #[rawInt pos.line, rawInt pos.col, .ref c1]))) c1 (LamX.CodeO c1 (X.env.qual ++ "<lambda>"))) c1 (.frz od (LamX.CodeO c1 (X.env.qual ++ "<lambda>")))) :=
      Kp.at upd_same (fun _ z => by unfold LamX.CodeO at z; cases z) (fun _ _ z => by unfold LamX.CodeO at z; cases z)
    have k4 := Kp.new (o := seenO h1.objs.size (PySem.W.kla_obj "<lambda>" (X.env.qual ++ "<lambda>") pr bd sc [] ((X.mg "__name__").getD .none) c1 ctv)) nF2
    have kk := ((k1.trans k2).trans k3).trans k4
    refine ⟨.ref _, _, I3, rfl, q _ _ _ _ kk (fun b o e => ?_) (.p _) (h _ (ok.free nF))⟩
    have hcF : upd (upd (upd (upd H T (.tbl (ps ++ #[rawInt pos.line, rawInt pos.col, .ref c1]))) c1 (LamX.CodeO c1 (X.env.qual ++ "<lambda>"))) c1 (.frz od (LamX.CodeO c1 (X.env.qual ++ "<lambda>")))) h1.objs.size (seenO h1.objs.size (PySem.W.kla_obj "<lambda>" (X.env.qual ++ "<lambda>") pr bd sc [] ((X.mg "__name__").getD .none) c1 ctv)) c1 = some (.frz od (LamX.CodeO c1 (X.env.qual ++ "<lambda>"))) := by
      rw [upd_ne (Ne.symm nFc), upd_same]
    by_cases hb : b = h1.objs.size
    · subst hb
      rw [updO_same] at e
      cases e
      exact ⟨_, _, c1, _, od, _, vs', t', upd_same, hcF, e4, e5⟩
    · rw [updO_ne hb] at e
      by_cases hbT : b = T
      · subst hbT
        rw [hT] at e
        cases e
        have eL : (ps ++ #[rawInt pos.line, rawInt pos.col, .ref c1]).toList = ps.toList ++ [rawInt pos.line, rawInt pos.col, .ref c1] := by simp
        refine ⟨ps ++ #[rawInt pos.line, rawInt pos.col, .ref c1], by rw [upd_ne hb, upd_ne nTc, upd_ne nTc, upd_same], by rw [eL]; exact PySem.TriplesOk_snoc _ _ _ _ ht, fun p2 cv hcv => ?_⟩
        rw [eL] at hcv
        rcases LamX.among_app _ ht hcv with z | z
        · obtain ⟨c3, oc3, u3, vs3, t3, e6, e7, e8⟩ := ha p2 cv z
          exact ⟨c3, oc3, u3, vs3, t3, e6, kk.f _ _ _ e7, e8⟩
        · exact ⟨c1, od, _, vs', t', z, hcF, e4, e5⟩
      · have x := ok b o e
        obtain ⟨u, hu⟩ := x.some
        have nbc : b ≠ c1 := ne_of_none hu nC
        exact x.stay kk (by rw [upd_ne hb, upd_ne nbc, upd_ne nbc, upd_ne hbT])
/-- x(e, ..), x a parameter that holds a lambda -/
theorem xe_callF (i : Nat) {x q : Str} {pr : Arguments} {bd : Expr} {sc : Scope} {N ps : List Str} {e : Expr} {es : List Expr} {f : Addr} {k : Nat} {p1 : Pos} (S : FnScope N ps sc) (hr : Room (k + 1) X.A) (hx : Passes (L2.CX X.prog X.w) X E) (hg : g[i]? = some (some (.p f))) (hf : W f = some (.fn q pr bd sc))
    (hbind : ∀ (pm cv ctv : Value) (us : List Value), us.length = ps.length → bindArgs (PySem.W.kla_fn "<lambda>" q pr bd sc [] pm cv ctv) ⟨us, []⟩ = pure (ps.zip us))
    (h : XA X E XC (e :: es) g W fun ds W1 => W1 f = some (.fn q pr bd sc) ∧ ds.length = ps.length ∧ ∀ (A : Around) (outer : List Env) (s : Shared) (H : Hp) (c1 : Addr), Room k (A.deeper (envOfC q sc s.heap.objs.size f (.ref c1))) →
      XE (cxOf (L2.CX X.prog X.w) X.prog X.w X.K X.mg X.base N q sc f (.ref c1) A outer s H E) E XC bd (startD N.length ds) W1 O)
    (hN : X.N[i]? = some x := by rfl) (hv : Vis X.env.scope x := by first | exact Or.inl rfl | exact Or.inr (Or.inl rfl) | exact Or.inr (Or.inr rfl)) (hd : (x == ("__debug__" : Str)) = false := by decide) (hcd : (x == ("__classdict__" : Str)) = false := by decide)
    (he : starEach (e :: es) X.env = (false, eval e X.env) :: starEach es X.env := by rfl) (hpl : (backTo pos (starEach es X.env)).any (·.1) = false := by rfl) : XE X E XC (.Call (.Name x p1) (e :: es) [] pos) g W O := by
  intro σ H r ok el Q qq pins s I
  obtain ⟨v, hs, rv⟩ := r.get i _ hg
  cases rv
  refine wpAny_Call_Name_kw (thn ((pe_var (pos := p1) (i := i) hN hv hd hcd).run pins s σ H (fun v H1 => v = .ref f ∧ H1 = H) I ⟨.ref f, hs, rfl, rfl⟩) fun u s1 ⟨v, H1, I1, r1, q1⟩ => ?_)
  obtain ⟨rfl, rfl⟩ := q1
  obtain rfl : u = Value.ref f := r1
  have at_ : ∀ {H2 : Hp} {W2 : Om} {s2 : Shared}, Inv X pins σ H2 s2 → HpOk X.K H2 W2 → W2 f = some (.fn q pr bd sc) → ∃ pm ctv c1, s2.heap.get? f = some (PySem.W.kla_obj "<lambda>" q pr bd sc [] pm c1 ctv) ∧ s2.heap.CodeRec (.ref c1) q := fun {H2 W2 s2} I2 o2 hf2 => by
    obtain ⟨pm, ctv, c1, u, oc, u2, vs, t, g1, g2, g3, g4⟩ := o2 f _ hf2
    exact ⟨pm, ctv, c1, (I2.hok f _ g1).1, c1, oc, vs, t, rfl, (I2.hok c1 _ g2).1, g3, g4⟩
  obtain ⟨_, _, _, a1, _⟩ := at_ I1 ok hf
  refine PySem.W.callWith_F ⟨_, _, _, _, a1⟩ (thn (h σ H1 r ok el (fun vs H2 => ∃ ds W2, HpOk X.K H2 W2 ∧ Kp H1 H2 ∧ RpAll X.K H2 vs ds ∧ W2 f = some (.fn q pr bd sc) ∧ ds.length = ps.length ∧ ∀ (A : Around) (outer : List Env) (s : Shared) (H : Hp) (c1 : Addr), Room k (A.deeper (envOfC q sc s.heap.objs.size f (.ref c1))) →
      XE (cxOf (L2.CX X.prog X.w) X.prog X.w X.K X.mg X.base N q sc f (.ref c1) A outer s H E) E XC bd (startD N.length ds) W2 O) (fun vs H2 ds W2 k2 o2 r2 ⟨b1, b2, b3⟩ => ⟨ds, W2, o2, k2, r2, b1, b2, b3⟩) pos pins s1 I1) fun us s2 ⟨vs, H2, I2, rv, ds, W2, o2, k2, r2, b1, b2, b3⟩ => ?_) he hpl
  obtain ⟨pm, ctv, c1, a2, a3⟩ := at_ I2 o2 b1
  refine ⟨⟨_, _, _, _, a2⟩, ?_⟩
  have hul : us.length = ps.length := by rw [← rv.length, r2.length]; exact b2
  have e0 := I2.env0
  have rc : codeAny (model X.prog X.w) X.A (.call (.ref f) ⟨us, []⟩) (CR (L2.CX X.prog X.w) X.stack X.prog X.w H2 s2 Q E) s2 := by
    have hkind : ∀ y ∈ ps.zip us, sc.names.lookup y.1 = some .local ∨ (sc.names.lookup y.1 = some .cell ∧ ((cellsFrom (s2.heap.objs.size + 1) sc.names []).lookup y.1).isSome = true) := fun ⟨n, v⟩ hy => by
      rcases S.par n (List.of_mem_zip hy).1 with z | z
      · exact .inl z
      · exact .inr ⟨z, PySem.W.cellsFrom_some _ _ _ (.inl z)⟩
    refine PySem.W.kla_callFunE hr.depth a2 rfl S.co S.gen rfl a3 ?_
    rw [hbind pm (.ref c1) ctv us hul]
    refine wpAny_pure (wpAny_newFunctionEnv_cells S.kind hkind fun env he s3 x => ?_)
    subst he
    refine ⟨I2.nolimit.keeps x.toInCall.keep, PySem.W.kla_codeExpr ?_⟩
    have J : Inv (cxOf (L2.CX X.prog X.w) X.prog X.w X.K X.mg X.base N q sc f (.ref c1) X.A X.stack s2 H2 E) [] (L2.start N vs) H2 s3 := inv_start S hr.hd e0 (by rw [r2.length]; exact b2) rv x
    refine wpAny_mono (b3 X.A X.stack s2 H2 c1 (hr.deeper _) (L2.start N vs) H2 (rpS_start r2) o2 (el.kp k2) Q (qq.kp k2) [] s3 J) (fun v s' hq => ?_) fun e s' hq => hq
    obtain ⟨w', H', J', rw', q'⟩ := hq
    exact ⟨w', H', J'.os, J'.bare, J'.base, J'.hok, rw', q'⟩
  refine wpAny_call (codeAny_mono rc fun r s' hq => ?_)
  cases r with
  | error e => exact hx pins σ H2 s2 e s' I2 hq
  | ok fl =>
    cases fl with
    | ret u => exact I2.after hq
    | next => exact False.elim hq
    | brk => exact False.elim hq
    | cont => exact False.elim hq
end
/-- a def whose code object is told -/
theorem cal_mkC {P : Program} {w : World} {K : PySem.W.Frag} {mg : Str → Option Value} {base : Heap} {x : Str} {st : Stmt} {f : Addr} {fd : FuncData} {N ps : List Str} {k : Nat} {S : SpT} (F : Fun K x x st f fd) (hm : mg x = some (.ref f)) (hb : Binds K fd ps [])
    (Sc : FnScope N ps (defScope st)) (len : ∀ ds W O XC, S ds W O XC → ds.length = ps.length)
    (body : ∀ (A : Around) (outer : List Env) (s : Shared) (H : Hp) (E : XK) (ds : List D) (W : Om) (O : OD) (XC : XCt), Room k (A.deeper (envOfC x (defScope st) s.heap.objs.size f fd.code)) → S ds W O XC →
      XB (cxOf (L2.CX P w) P w K mg base N x (defScope st) f fd.code A outer s H E) E XC (defBody st) (startD N.length ds) W { nx := fun _ W' => O .non W', rt := O }) : Cal P w K mg base (k + 1) x ps S := by
  refine ⟨f, fd, ?_, hm, F.kp, hb⟩
  obtain ⟨oc, od, kV, doc, pm, an, cdv, ct, osl, rfl, lk, hcd⟩ := F.ex
  refine fn_of lk hcd Sc (fun vs H Q E h => ?_) fun A outer s H vs Q E hr h => ?_
  · obtain ⟨ds, W, O, XC, r, _, _, _, h⟩ := h
    rw [r.length]
    exact len _ _ _ _ h
  · obtain ⟨ds, W, O, XC, r, o, el, q, h⟩ := h
    refine ⟨_, pss_W, ?_⟩
    exact body A outer s H E ds W O XC hr h { nx := fun _ H' => Q .non H', rt := Q } (L2.start N vs) H (rpS_start r) o el
      ⟨fun σ H1 g W1 k1 o1 r1 h1 => q _ H1 _ W1 k1 o1 .non h1, q, fun _ _ _ _ _ _ _ h => h.elim, fun _ _ _ _ _ _ _ h => h.elim⟩
end SR
/-! a call of one of several defs of a tuple. -/
namespace SR
open PySem PySem.Spec PyProof.Rows L2
/-- a def at an address, its promise -/
structure CalAt (P : Program) (w : World) (K : PySem.W.Frag) (mg : Str → Option Value) (base : Heap) (k : Nat) (f : Addr) (S : SpT) : Prop where
  ex : ∃ fd ps, FnOk P w K mg base (L2.CX P w) k f fd ps (SpD K S) ∧ PySem.W.keepIn K (.ref f) = true ∧ Binds K fd ps []
theorem Cal.at {P : Program} {w : World} {K : PySem.W.Frag} {mg : Str → Option Value} {base : Heap} {k : Nat} {x : Str} {ps : List Str} {S : SpT} (c : Cal P w K mg base k x ps S) : ∃ f, mg x = some (.ref f) ∧ CalAt P w K mg base k f S := by
  obtain ⟨f, fd, F, hm, hk, hb⟩ := c.ex
  exact ⟨f, hm, ⟨fd, ps, F, hk, hb⟩⟩
section
variable {X : Cx} {E : XK} {XC : XCt} {g : Ga} {W : Om} {a b c : Expr} {pos p0 : Pos} {O : OD}
theorem xe_callS {e : Expr} {es : List Expr} (hx : Passes (L2.CX X.prog X.w) X E)
    (h : XE X E XC (.Subscript a b p0) g W fun d W1 => ∃ f k S, d = .p f ∧ CalAt X.prog X.w X.K X.mg X.base k f S ∧ Room k X.A ∧ XA X E XC (e :: es) g W1 fun ds W2 => S ds W2 O XC)
    (hst : starEach (e :: es) X.env = (false, eval e X.env) :: starEach es X.env := by rfl) (hpl : (backTo pos (starEach es X.env)).any (·.1) = false := by rfl)
    (ht : eval (.Call (.Subscript a b p0) (e :: es) [] pos) X.env = (do callWith pos (← eval (.Subscript a b p0) X.env) [] (backTo pos (starEach (e :: es) X.env)) (backToKw pos (keywordEach [] X.env))) := by rfl) :
    XE X E XC (.Call (.Subscript a b p0) (e :: es) [] pos) g W O := by
  intro σ H r kk el Q q pins s I
  rw [ht]
  refine wpAny_bind (thn (h σ H r kk el (fun v H1 => ∃ f k S, v = .ref f ∧ CalAt X.prog X.w X.K X.mg X.base k f S ∧ Room k X.A ∧ taW X (e :: es) σ H1 fun vs H2 => SpD X.K S vs H2 Q E) (fun v H1 d W1 k1 o1 r1 h8 => ?_) pins s I) fun u s1 hu => ?_)
  · obtain ⟨f, k, S, e1, ca, hr, h1⟩ := h8
    subst e1
    cases r1
    refine ⟨f, k, S, rfl, ca, hr, h1 σ H1 (r.kp k1) o1 (el.kp k1) _ fun vs H2 ds W2 k2 o2 r2 h2 => ?_⟩
    exact ⟨ds, W2, O, XC, r2, o2, (el.kp k1).kp k2, (q.kp k1).kp k2, h2⟩
  · obtain ⟨v, H1, I1, rv, f, k, S, ev, ca, hr, q1⟩ := hu
    subst ev
    obtain rfl : u = Value.ref f := rv
    obtain ⟨fd, ps, F, hk, hb⟩ := ca.ex
    refine PySem.W.callWith_K (h₀ := X.base) I.ok.mod.kin hk (thn (q1 pos pins s1 I1) fun us s2 hz => ?_) hst hpl
    obtain ⟨vs, H2, I2, rz, q2⟩ := hz
    exact ⟨I2.kIn, run_fn F hr hb .nil hx I2 rz (by rw [List.append_nil]; exact q2)⟩
end
end SR
/-! Plain facts: two stores under the same demands; a search that ends early. -/
namespace SR
structure PNode where
  a : Sit
  b : Sit
  r : List Int
  deriving DecidableEq
def stepP (s t : Sto) (b : Bd) (n : PNode) (d : Int) : PNode := ⟨dayS s n.a d, dayS t n.b d, recB b (n.r ++ [d])⟩
def alP (b : Bd) (n : PNode) : List Int := alB b n.r
def begP (s t : Sto) (x : Int) : PNode := ⟨begunS s x, begunS t x, []⟩
def nodeP (s t : Sto) (x : Int) (b : Bd) (ds : List Int) : PNode := ⟨runS s (begunS s x) ds, runS t (begunS t x) ds, recB b ds⟩
theorem alP_asc (b : Bd) (n : PNode) : (alP b n).Pairwise (· < ·) := (irange_asc _ _).sublist List.filter_sublist
theorem goP_eq (s t : Sto) (x : Int) (b : Bd) : ∀ ds, goN (stepP s t b) (begP s t x) ds = nodeP s t x b ds := by
  refine snoc_ind ?_ fun ds d ih => ?_
  · unfold goN nodeP recB begP runS; simp
  · rw [goN_snoc, ih]
    unfold stepP nodeP
    rw [runS_snoc, runS_snoc, recB_snoc]
theorem okP_iff {s t : Sto} {x : Int} {b : Bd} (hb : b.ok) : ∀ ds, OkN (stepP s t b) (alP b) (begP s t x) ds ↔ fitB b ds = true := by
  refine snoc_ind ?_ fun ds d ih => ?_
  · exact ⟨fun _ => rfl, fun _ => okN_nil _ _ _⟩
  · rw [okN_snoc, ih, goP_eq]
    unfold alP alB nodeP
    rw [List.mem_filter, mem_irange]
    constructor
    · rintro ⟨h1, _, h2⟩
      rw [← fit_rec hb h1]; exact h2
    · intro h
      have h1 := fit_init hb h
      exact ⟨h1, fit_range hb h1 h, by rw [fit_rec hb h1]; exact h⟩
section
variable {N : Type} [DecidableEq N] (nx : N → Int → N) (al : N → List Int) (b0 : N) (wn : N → Bool)
/-- the first demands to a wanted node, or none -/
def FirstP (r : Option (List Int)) : Prop := (∀ ds, r = some ds → OkN nx al b0 ds ∧ wn (goN nx b0 ds) = true ∧ ∀ es, OkN nx al b0 es → wn (goN nx b0 es) = true → sle ds es) ∧ (r = none → ∀ es, OkN nx al b0 es → wn (goN nx b0 es) = false)
theorem bi_near {M L : List (Ent N)} {m : Nat} (h : BI nx al b0 M L m) : ∀ ds, OkN nx al b0 ds → ds.length ≤ m → ∃ es, (goN nx b0 ds, es) ∈ M ∧ sle es ds := by
  refine snoc_ind (fun _ _ => ⟨[], h.st, .inl rfl⟩) fun ds d ih ho hl => ?_
  obtain ⟨h1, h2⟩ := (okN_snoc nx al b0 ds d).mp ho
  have hl' : ds.length < m := by simp at hl; omega
  obtain ⟨es, h3, h4⟩ := ih h1 (by omega)
  have h5 := sle_len h4
  obtain ⟨fs, h5, h6⟩ := h.cl _ h3 (fun z => by have h7 : es.length = m := h.lev _ z; omega) d h2
  exact ⟨fs, by rw [goN_snoc]; exact h5, sle_trans h6 (sle_snoc d h4)⟩
theorem first_hit (hal : ∀ n, (al n).Pairwise (· < ·)) {M L : List (Ent N)} {m : Nat} (h : BI nx al b0 M L m) (hw : ∀ e ∈ M, wn e.1 = false) {C1 C2 : List (Ent N)} {c : Ent N} (hC : candsN nx al L = C1 ++ c :: C2) (h1 : ∀ e ∈ C1, wn e.1 = false) (hc : wn c.1 = true) : FirstP nx al b0 wn (some c.2) := by
  refine ⟨fun ds e => ?_, fun e => by cases e⟩
  cases e
  have hcm : c ∈ candsN nx al L := by rw [hC]; simp
  obtain ⟨x, hx, h2⟩ := List.mem_flatMap.mp hcm
  obtain ⟨d, hd, rfl⟩ := List.mem_map.mp h2
  obtain ⟨o1, o2⟩ := h.ok x (h.sub x hx)
  have goc : goN nx b0 (x.2 ++ [d]) = nx x.1 d := by rw [goN_snoc, o2]
  refine ⟨(okN_snoc nx al b0 _ _).mpr ⟨o1, by rw [o2]; exact hd⟩, by rw [goc]; exact hc, fun es he hwe => ?_⟩
  have hlen : m < es.length := by
    by_cases hl : es.length ≤ m
    · obtain ⟨fs, h3, _⟩ := bi_near nx al b0 h es he hl
      have := hw _ h3
      rw [hwe] at this; cases this
    · omega
  have hxl := h.lev x hx
  by_cases h3 : es.length = m + 1
  · have hne : es ≠ [] := by intro z; subst z; simp at h3
    obtain ⟨es0, d2, rfl⟩ : ∃ es0 d2, es = es0 ++ [d2] := ⟨_, _, (List.dropLast_concat_getLast hne).symm⟩
    obtain ⟨q1, q2⟩ := (okN_snoc nx al b0 es0 d2).mp he
    obtain ⟨fs, h4, h5⟩ := bi_near nx al b0 h es0 q1 (by simp at h3; omega)
    rw [goN_snoc] at hwe
    have hin : (goN nx b0 es0, fs) ∈ L := by
      by_cases hn : (goN nx b0 es0, fs) ∈ L
      · exact hn
      · obtain ⟨gs, h6, _⟩ := h.cl _ h4 hn d2 q2
        have := hw _ h6
        rw [hwe] at this; cases this
    have hcand : (nx (goN nx b0 es0) d2, fs ++ [d2]) ∈ candsN nx al L := List.mem_flatMap.mpr ⟨_, hin, List.mem_map.mpr ⟨d2, q2, rfl⟩⟩
    have hasc := cands_asc nx al hal m L h.lev h.asc
    rw [hC] at hcand hasc
    rcases List.mem_append.mp hcand with z | z
    · have := h1 _ z
      rw [hwe] at this; cases this
    · rcases List.mem_cons.mp z with z | z
      · have e2 : x.2 ++ [d] = fs ++ [d2] := (congrArg Prod.snd z).symm
        show sle (x.2 ++ [d]) _
        rw [e2]
        exact sle_snoc d2 h5
      · have := (List.pairwise_cons.mp (List.pairwise_append.mp hasc).2.1).1 _ z
        exact sle_trans (.inr this) (sle_snoc d2 h5)
  · exact .inr (.inl (by simp [hxl]; omega))
theorem first_none {M : List (Ent N)} {m : Nat} (h : BI nx al b0 M [] m) (hw : ∀ e ∈ M, wn e.1 = false) : FirstP nx al b0 wn none := by
  refine ⟨fun ds e => (by cases e), fun _ es he => ?_⟩
  obtain ⟨fs, h3, _⟩ := (bi_end nx al b0 h).all es he
  exact hw _ h3
theorem FirstP.unique {r q : Option (List Int)} (h : FirstP nx al b0 wn r) (k : FirstP nx al b0 wn q) : r = q := by
  cases r with
  | none =>
    cases q with
    | none => rfl
    | some b =>
      obtain ⟨k1, k2, _⟩ := k.1 b rfl
      have := h.2 rfl b k1
      rw [k2] at this; cases this
  | some a =>
    obtain ⟨h1, h2, h3⟩ := h.1 a rfl
    cases q with
    | none =>
      have := k.2 rfl a h1
      rw [h2] at this; cases this
    | some b =>
      obtain ⟨k1, k2, k3⟩ := k.1 b rfl
      rw [sle_anti (h3 b k1 k2) (k3 a h1 h2)]
end
/-! ### how many situations a store has -/
def jS (s : Sto) : Int := if s.fill = true then s.size - s.level else s.size
theorem jS_pos {s : Sto} (h : s.ok) : 1 ≤ jS s := by
  have h1 := h.sz; have h2 := h.l0
  unfold jS
  by_cases hf : s.fill = true
  · rw [if_pos hf] at h1 ⊢; omega
  · rw [if_neg hf] at h1 ⊢; omega
theorem amount_pos {s : Sto} (h : s.ok) {p : Int} (hp : p ≤ s.level) : jS s ≤ amount s p ∧ s.level < p + amount s p ∧ p + amount s p ≤ s.level + jS s := by
  have h1 := h.sz; have h2 := h.s1
  unfold amount jS
  rw [if_neg (show ¬ p > s.level by omega)]
  by_cases hf : s.fill = true
  · rw [if_pos hf] at h1
    rw [if_pos hf, if_pos hf]; omega
  · rw [if_neg hf, if_neg hf]
    have e1 : (s.level - p) / s.size * s.size ≤ s.level - p := Int.ediv_mul_le _ (by omega)
    have e2 : s.level - p < ((s.level - p) / s.size + 1) * s.size := Int.lt_ediv_add_one_mul_self _ (by omega)
    have e3 : 0 ≤ (s.level - p) / s.size := Int.ediv_nonneg (by omega) (by omega)
    have e4 : 0 ≤ (s.level - p) / s.size * s.size := Int.mul_nonneg e3 (by omega)
    rw [Int.add_mul] at e2 ⊢
    omega
structure SitG (s : Sto) (x : Sit) : Prop where
  ok : SitOk s x
  z : ((∀ c ∈ x.coming, c = 0) ∧ x.stock ≤ 12) ∨ (s.level < x.stock + x.coming.sum ∧ x.stock + x.coming.sum ≤ s.level + jS s ∧ ∀ c ∈ x.coming, c = 0 ∨ jS s ≤ c)
theorem sum_zero : ∀ {l : List Int}, (∀ c ∈ l, c = 0) → l.sum = 0
  | [], _ => rfl
  | a :: r, h => by rw [List.sum_cons, h a List.mem_cons_self, sum_zero fun c hc => h c (List.mem_cons_of_mem _ hc)]; rfl
theorem withOrder_G {s : Sto} (h : s.ok) {x : Int} {c : List Int} (hc : c.length + 1 = s.wait.toNat) (h0 : 0 ≤ x) (h1 : x ≤ s.room) (hn : ∀ y ∈ c, 0 ≤ y) (hz : (∀ y ∈ c, y = 0) ∨ (x + c.sum ≤ s.level + jS s ∧ ∀ y ∈ c, y = 0 ∨ jS s ≤ y)) : SitG s (withOrder s x c) := by
  refine ⟨withOrder_ok h hc h0 h1 hn, ?_⟩
  have hr := h.r12
  show ((∀ y ∈ c ++ [amount s (x + c.sum)], y = 0) ∧ x ≤ 12) ∨ (s.level < x + (c ++ [amount s (x + c.sum)]).sum ∧ x + (c ++ [amount s (x + c.sum)]).sum ≤ s.level + jS s ∧ ∀ y ∈ c ++ [amount s (x + c.sum)], y = 0 ∨ jS s ≤ y)
  rw [List.sum_append]
  have hj := jS_pos h
  by_cases hp : x + c.sum > s.level
  · have e : amount s (x + c.sum) = 0 := by unfold amount; rw [if_pos hp]
    rw [e]
    rcases hz with hz | ⟨z1, z2⟩
    · refine .inl ⟨fun y hy => ?_, by omega⟩
      rcases List.mem_append.mp hy with q | q
      · exact hz y q
      · simpa using q
    · refine .inr ⟨by simp; omega, by simp; omega, fun y hy => ?_⟩
      rcases List.mem_append.mp hy with q | q
      · exact z2 y q
      · exact .inl (by simpa using q)
  · obtain ⟨a1, a2, a3⟩ := amount_pos h (p := x + c.sum) (by omega)
    refine .inr ⟨by simp; omega, by simp; omega, fun y hy => ?_⟩
    rcases List.mem_append.mp hy with q | q
    · rcases hz with hz | ⟨_, z2⟩
      · exact .inl (hz y q)
      · exact z2 y q
    · simp at q; subst q; exact .inr a1
theorem begunS_G {s : Sto} (h : s.ok) {x : Int} (h0 : 0 ≤ x) (h1 : x ≤ s.room) : SitG s (begunS s x) := by
  refine withOrder_G h ?_ h0 h1 (fun y hy => ?_) (.inl fun y hy => List.eq_of_mem_replicate hy)
  · have := h.w1
    rw [List.length_replicate]; omega
  · rw [List.eq_of_mem_replicate hy]; omega
theorem dayS_G {s : Sto} (h : s.ok) {x : Sit} (k : SitG s x) {d : Int} (hd : 0 ≤ d) : SitG s (dayS s x d) := by
  obtain ⟨c, r, e, hc, hl, hr⟩ := k.ok.head h
  have k0 := k.ok.x0; have kr := k.ok.xr; have hr1 := h.r1
  have hst : (dayRow s x d).stock ≤ x.stock + c ∧ 0 ≤ (dayRow s x d).stock ∧ (dayRow s x d).stock ≤ s.room := by
    have e1 : (dayRow s x d).stock = min s.room (x.stock + c) - d + max 0 (d - min s.room (x.stock + c)) := by
      show min s.room (x.stock + x.coming.headD 0) - d + max 0 (d - min s.room (x.stock + x.coming.headD 0)) = _
      rw [e]; rfl
    omega
  rw [dayS_eq, e]
  have hz := k.z
  rw [e] at hz
  refine withOrder_G h hl hst.2.1 hst.2.2 hr ?_
  rcases hz with ⟨z1, _⟩ | ⟨z1, z2, z3⟩
  · exact .inl fun y hy => z1 y (List.mem_cons_of_mem _ hy)
  · rw [List.sum_cons] at z2
    exact .inr ⟨by show (dayRow s x d).stock + r.sum ≤ _; omega, fun y hy => z3 y (List.mem_cons_of_mem _ hy)⟩
/-- all rows of so many entries -/
def tupsL (A : List Int) : Nat → List (List Int)
  | 0 => [[]]
  | n + 1 => A.flatMap fun c => (tupsL A n).map (c :: ·)
theorem mem_tupsL {A : List Int} : ∀ {l : List Int}, (∀ c ∈ l, c ∈ A) → l ∈ tupsL A l.length
  | [], _ => by simp [tupsL]
  | a :: r, h => List.mem_flatMap.mpr ⟨a, h a List.mem_cons_self, List.mem_map.mpr ⟨r, mem_tupsL fun c hc => h c (List.mem_cons_of_mem _ hc), rfl⟩⟩
def rowsC (l j : Int) (w : Nat) : List (List Int) := (tupsL (0 :: irange j (l + j)) w).filter fun c => decide (c.sum ≤ l + j)
def enumS (s : Sto) : List Sit := (irange 0 12).map (fun x => ⟨x, List.replicate s.wait.toNat 0⟩) ++ (rowsC s.level (jS s) s.wait.toNat).flatMap fun c => (irange (s.level + 1) (s.level + jS s)).map fun p => ⟨p - c.sum, c⟩
theorem le_sum : ∀ {l : List Int} {y : Int}, (∀ c ∈ l, 0 ≤ c) → y ∈ l → y ≤ l.sum
  | a :: r, y, h, hy => by
    have h1 := sum_nn fun c hc => h c (List.mem_cons_of_mem _ hc)
    have h2 := h a List.mem_cons_self
    rw [List.sum_cons]
    rcases List.mem_cons.mp hy with rfl | hy
    · omega
    · have := le_sum (fun c hc => h c (List.mem_cons_of_mem _ hc)) hy
      omega
theorem all_rep : ∀ {l : List Int}, (∀ c ∈ l, c = 0) → l = List.replicate l.length 0
  | [], _ => rfl
  | a :: r, h => by
    rw [List.length_cons, List.replicate_succ, ← all_rep fun c hc => h c (List.mem_cons_of_mem _ hc), h a List.mem_cons_self]
theorem SitG.mem {s : Sto} {x : Sit} (k : SitG s x) : x ∈ enumS s := by
  have k0 := k.ok.x0
  rcases k.z with ⟨z1, z2⟩ | ⟨z1, z2, z3⟩
  · refine List.mem_append_left _ (List.mem_map.mpr ⟨x.stock, mem_irange.mpr ⟨k0, z2⟩, ?_⟩)
    have e := all_rep z1
    rw [k.ok.len] at e
    obtain ⟨st, cm⟩ := x
    simp only at e ⊢
    rw [← e]
  · refine List.mem_append_right _ (List.mem_flatMap.mpr ⟨x.coming, ?_, List.mem_map.mpr ⟨x.stock + x.coming.sum, mem_irange.mpr ⟨by omega, z2⟩, ?_⟩⟩)
    · unfold rowsC
      rw [List.mem_filter]
      refine ⟨?_, decide_eq_true (by omega)⟩
      rw [← k.ok.len]
      refine mem_tupsL fun c hc => ?_
      rcases z3 c hc with e | e
      · rw [e]; exact List.mem_cons_self
      · exact List.mem_cons_of_mem _ (mem_irange.mpr ⟨e, by have := le_sum k.ok.c0 hc; omega⟩)
    · obtain ⟨st, cm⟩ := x
      simp only
      rw [Int.add_sub_cancel]
def cntC (l j w : Nat) : Nat := (rowsC l j w).length * j
theorem cnt_few : ∀ (w : Fin 4) (l : Fin 9) (j : Fin 13), cntC l.val j.val w.val ≤ 387 := by decide +kernel
theorem cnt_few1 : ∀ (l : Fin 13) (j : Fin 19), cntC l.val j.val 1 ≤ 387 := by decide +kernel
/-- a store with few situations -/
def Few (s : Sto) : Prop := s.wait = 1 ∨ (s.level ≤ 8 ∧ jS s ≤ 12)
theorem jS_le {s : Sto} (h : s.ok) : jS s ≤ 18 := by
  have h1 := h.sz; have h2 := h.l0
  unfold jS
  by_cases hf : s.fill = true
  · rw [if_pos hf] at h1 ⊢; omega
  · rw [if_neg hf] at h1 ⊢; omega
theorem flat_len {α β : Type} {n : Nat} {f : α → List β} : ∀ {l : List α}, (∀ a ∈ l, (f a).length = n) → (l.flatMap f).length = l.length * n
  | [], _ => by simp
  | a :: r, h => by
    rw [List.flatMap_cons, List.length_append, h a List.mem_cons_self, flat_len fun b hb => h b (List.mem_cons_of_mem _ hb), List.length_cons, Nat.add_mul]
    omega
theorem enumS_few {s : Sto} (h : s.ok) (f : Few s) : (enumS s).length ≤ 400 := by
  have hj := jS_pos h; have hj2 := jS_le h; have hl := h.l0; have hl2 := h.l12; have hw1 := h.w1; have hw3 := h.w3
  unfold enumS
  rw [List.length_append, List.length_map, flat_len (n := (jS s).toNat) fun c _ => by rw [List.length_map]; unfold irange; rw [List.length_map, List.length_range]; omega]
  have e0 : (irange 0 12).length = 13 := by decide +kernel
  rw [e0]
  have key : cntC s.level.toNat (jS s).toNat s.wait.toNat ≤ 387 := by
    rcases f with f | ⟨f1, f2⟩
    · have := cnt_few1 ⟨s.level.toNat, by omega⟩ ⟨(jS s).toNat, by omega⟩
      rw [show s.wait.toNat = 1 by omega]
      exact this
    · exact cnt_few ⟨s.wait.toNat, by omega⟩ ⟨s.level.toNat, by omega⟩ ⟨(jS s).toNat, by omega⟩
  unfold cntC at key
  rw [show ((s.level.toNat : Nat) : Int) = s.level by omega, show (((jS s).toNat : Nat) : Int) = jS s by omega] at key
  omega
theorem nodup_map_on {α β : Type} {f : α → β} : ∀ {l : List α}, (∀ a ∈ l, ∀ b ∈ l, f a = f b → a = b) → l.Nodup → (l.map f).Nodup
  | [], _, _ => by simp
  | a :: r, inj, hn => by
    obtain ⟨n1, n2⟩ := List.nodup_cons.mp hn
    rw [List.map_cons, List.nodup_cons]
    refine ⟨fun hm => ?_, nodup_map_on (fun n hn m hm => inj n (List.mem_cons_of_mem _ hn) m (List.mem_cons_of_mem _ hm)) n2⟩
    obtain ⟨m, hm, e⟩ := List.mem_map.mp hm
    exact n1 (by rw [inj a List.mem_cons_self m (List.mem_cons_of_mem _ hm) e.symm]; exact hm)
/-- the place in a list -/
def plc {α : Type} [DecidableEq α] (l : List α) (a : α) : Nat := l.findIdx fun b => decide (b = a)
theorem plc_lt {α : Type} [DecidableEq α] {l : List α} {a : α} (h : a ∈ l) : plc l a < l.length := List.findIdx_lt_length_of_exists ⟨a, h, by simp⟩
theorem plc_inj {α : Type} [DecidableEq α] {l : List α} {a b : α} (h : a ∈ l) (h2 : b ∈ l) (e : plc l a = plc l b) : a = b := by
  have h1 := List.findIdx_getElem (w := plc_lt h)
  have h3 := List.findIdx_getElem (w := plc_lt h2)
  have e1 : l[plc l a]'(plc_lt h) = a := of_decide_eq_true h1
  have e2 : l[plc l b]'(plc_lt h2) = b := of_decide_eq_true h3
  rw [← e1, ← e2]
  congr 1
structure PNodeOk (s t : Sto) (b : Bd) (n : PNode) : Prop where
  pa : SitG s n.a
  pb : SitG t n.b
  rl : n.r.length ≤ (b.days - 1).toNat
  rf : ∀ m ∈ n.r, b.low ≤ m ∧ m ≤ b.high
theorem begP_ok {s t : Sto} (hs : s.ok) (ht : t.ok) {b : Bd} {x : Int} (h0 : 0 ≤ x) (h1 : x ≤ s.room) (h2 : x ≤ t.room) : PNodeOk s t b (begP s t x) :=
  ⟨begunS_G hs h0 h1, begunS_G ht h0 h2, by simp [begP], fun m hm => by simp [begP] at hm⟩
theorem stepP_ok {s t : Sto} (hs : s.ok) (ht : t.ok) {b : Bd} (hb : b.ok) {n : PNode} (k : PNodeOk s t b n) {d : Int} (h0 : b.low ≤ d) (h1 : d ≤ b.high) : PNodeOk s t b (stepP s t b n d) := by
  have hd : 0 ≤ d := by have := hb.l0; omega
  refine ⟨dayS_G hs k.pa hd, dayS_G ht k.pb hd, ?_, fun m hm => ?_⟩
  · show (recB b (n.r ++ [d])).length ≤ _
    unfold recB; rw [List.length_drop]; omega
  · have := List.mem_of_mem_drop hm
    rcases List.mem_append.mp this with e | e
    · exact k.rf m e
    · simp at e; subst e; exact ⟨h0, h1⟩
theorem okP_node {s t : Sto} (hs : s.ok) (ht : t.ok) {b : Bd} (hb : b.ok) {x : Int} (h0 : 0 ≤ x) (h1 : x ≤ s.room) (h2 : x ≤ t.room) : ∀ ds, OkN (stepP s t b) (alP b) (begP s t x) ds → PNodeOk s t b (goN (stepP s t b) (begP s t x) ds) := by
  refine snoc_ind (fun _ => begP_ok hs ht h0 h1 h2) fun ds d ih ho => ?_
  obtain ⟨o1, o2⟩ := (okN_snoc _ _ _ ds d).mp ho
  rw [goN_snoc]
  have := mem_irange.mp (List.mem_filter.mp o2).1
  exact stepP_ok hs ht hb (ih o1) this.1 this.2
def maxP : Nat := 5760000
theorem pairs_few {s t : Sto} (hs : s.ok) (ht : t.ok) (fs : Few s) (ft : Few t) {b : Bd} (hb : b.ok) {l : List PNode} (hn : l.Nodup) (hk : ∀ n ∈ l, PNodeOk s t b n) : l.length ≤ maxP := by
  have la := enumS_few hs fs; have lb := enumS_few ht ft
  have dr : ∀ n ∈ l, ∀ a ∈ n.r, 0 ≤ a ∧ a.toNat + 1 < 6 := fun n hn a ha => by
    have := (hk n hn).rf a ha; have := hb.l0; have := hb.h4; omega
  have lr : ∀ n ∈ l, codeL 6 n.r < 36 := fun n hn => by
    refine Nat.lt_of_lt_of_le (codeL_lt (by omega) (dr n hn)) (Nat.le_trans (Nat.pow_le_pow_right (by omega) (j := 2) ?_) (by decide))
    have := (hk n hn).rl; have := hb.d3; omega
  have pa : ∀ n ∈ l, plc (enumS s) n.a < 400 := fun n hn => Nat.lt_of_lt_of_le (plc_lt (hk n hn).pa.mem) la
  have pb : ∀ n ∈ l, plc (enumS t) n.b < 400 := fun n hn => Nat.lt_of_lt_of_le (plc_lt (hk n hn).pb.mem) lb
  have hnd := nodup_map_on (f := fun n : PNode => plc (enumS s) n.a + 400 * (plc (enumS t) n.b + 400 * codeL 6 n.r)) (l := l) (fun n hn m hm e => by
    have e : plc (enumS s) n.a + 400 * (plc (enumS t) n.b + 400 * codeL 6 n.r) = plc (enumS s) m.a + 400 * (plc (enumS t) m.b + 400 * codeL 6 m.r) := e
    have a1 := pa n hn; have a2 := pa m hm; have a3 := pb n hn; have a4 := pb m hm
    have e1 : plc (enumS s) n.a = plc (enumS s) m.a := by omega
    have e2 : plc (enumS t) n.b = plc (enumS t) m.b := by omega
    have e3 : codeL 6 n.r = codeL 6 m.r := by omega
    have f1 := plc_inj (hk n hn).pa.mem (hk m hm).pa.mem e1
    have f2 := plc_inj (hk n hn).pb.mem (hk m hm).pb.mem e2
    have f3 := codeL_inj (dr n hn) (dr m hm) e3
    obtain ⟨a, b, r⟩ := n
    obtain ⟨a2, b2, r2⟩ := m
    simp only at f1 f2 f3
    rw [f1, f2, f3]) hn
  have := nd_lt maxP hnd fun x hx => by
    obtain ⟨n, hn, rfl⟩ := List.mem_map.mp hx
    have a1 := pa n hn; have a3 := pb n hn; have a5 := lr n hn
    show plc (enumS s) n.a + 400 * (plc (enumS t) n.b + 400 * codeL 6 n.r) < maxP
    unfold maxP; omega
  rwa [List.length_map] at this
end SR
namespace Law
open PySem PySem.Spec PyProof.Rows L2 SR
def topS (i : Nat) : Stmt := PySem.Challenge.pw_stockrules_k01_argument_ends.main.body.getD i (.Pass ⟨0, 0, 0, 0⟩)
abbrev s_is_between : Stmt := topS 13
abbrev n_is_between : List Str := ["value", "low", "high"]
theorem sc_is_between : FnScope n_is_between ["value", "low", "high"] (defScope s_is_between) := ⟨rfl, rfl, rfl, by decide +kernel, rfl, by decide +kernel, by decide +kernel⟩
abbrev s_is_store : Stmt := topS 14
abbrev n_is_store : List Str := ["value", "room", "wait", "kind", "level", "size"]
theorem sc_is_store : FnScope n_is_store ["value"] (defScope s_is_store) := ⟨rfl, rfl, rfl, by decide +kernel, rfl, by decide +kernel, by decide +kernel⟩
abbrev s_is_bounds : Stmt := topS 15
abbrev n_is_bounds : List Str := ["value", "low", "high", "days", "most"]
theorem sc_is_bounds : FnScope n_is_bounds ["value"] (defScope s_is_bounds) := ⟨rfl, rfl, rfl, by decide +kernel, rfl, by decide +kernel, by decide +kernel⟩
abbrev s_check_store : Stmt := topS 16
abbrev n_check_store : List Str := ["value"]
theorem sc_check_store : FnScope n_check_store ["value"] (defScope s_check_store) := ⟨rfl, rfl, rfl, by decide +kernel, rfl, by decide +kernel, by decide +kernel⟩
abbrev s_check_start : Stmt := topS 17
abbrev n_check_start : List Str := ["store", "start"]
theorem sc_check_start : FnScope n_check_start ["store", "start"] (defScope s_check_start) := ⟨rfl, rfl, rfl, by decide +kernel, rfl, by decide +kernel, by decide +kernel⟩
abbrev s_check_bounds : Stmt := topS 18
abbrev n_check_bounds : List Str := ["value"]
theorem sc_check_bounds : FnScope n_check_bounds ["value"] (defScope s_check_bounds) := ⟨rfl, rfl, rfl, by decide +kernel, rfl, by decide +kernel, by decide +kernel⟩
abbrev s_amount_for : Stmt := topS 19
abbrev n_amount_for : List Str := ["store", "position", "room", "wait", "kind", "level", "size"]
theorem sc_amount_for : FnScope n_amount_for ["store", "position"] (defScope s_amount_for) := ⟨rfl, rfl, rfl, by decide +kernel, rfl, by decide +kernel, by decide +kernel⟩
abbrev s_order_for : Stmt := topS 20
abbrev n_order_for : List Str := ["store", "position"]
theorem sc_order_for : FnScope n_order_for ["store", "position"] (defScope s_order_for) := ⟨rfl, rfl, rfl, by decide +kernel, rfl, by decide +kernel, by decide +kernel⟩
abbrev s_with_order : Stmt := topS 21
abbrev n_with_order : List Str := ["store", "stock", "coming"]
theorem sc_with_order : FnScope n_with_order ["store", "stock", "coming"] (defScope s_with_order) := ⟨rfl, rfl, rfl, by decide +kernel, rfl, by decide +kernel, by decide +kernel⟩
abbrev s_begun : Stmt := topS 22
abbrev n_begun : List Str := ["store", "start"]
theorem sc_begun : FnScope n_begun ["store", "start"] (defScope s_begun) := ⟨rfl, rfl, rfl, by decide +kernel, rfl, by decide +kernel, by decide +kernel⟩
abbrev s_first_situation : Stmt := topS 23
abbrev n_first_situation : List Str := ["store", "start"]
theorem sc_first_situation : FnScope n_first_situation ["store", "start"] (defScope s_first_situation) := ⟨rfl, rfl, rfl, by decide +kernel, rfl, by decide +kernel, by decide +kernel⟩
abbrev s_next_day : Stmt := topS 24
abbrev n_next_day : List Str := ["store", "situation", "demand", "stock", "coming", "there", "spilled", "missed", "later"]
theorem sc_next_day : FnScope n_next_day ["store", "situation", "demand"] (defScope s_next_day) := ⟨rfl, rfl, rfl, by decide +kernel, rfl, by decide +kernel, by decide +kernel⟩
abbrev s_check_demands : Stmt := topS 26
abbrev n_check_demands : List Str := ["demands", "one"]
theorem sc_check_demands : FnScope n_check_demands ["demands"] (defScope s_check_demands) := ⟨rfl, rfl, rfl, by decide +kernel, rfl, by decide +kernel, by decide +kernel⟩
abbrev s_check_run : Stmt := topS 27
abbrev n_check_run : List Str := ["store", "start", "demands"]
theorem sc_check_run : FnScope n_check_run ["store", "start", "demands"] (defScope s_check_run) := ⟨rfl, rfl, rfl, by decide +kernel, rfl, by decide +kernel, by decide +kernel⟩
abbrev s_days_of : Stmt := topS 28
abbrev n_days_of : List Str := ["store", "start", "demands", "situation", "rows", "demand", "came", "spilled", "missed", "ordered"]
theorem sc_days_of : FnScope n_days_of ["store", "start", "demands"] (defScope s_days_of) := ⟨rfl, rfl, rfl, by decide +kernel, rfl, by decide +kernel, by decide +kernel⟩
abbrev s_run : Stmt := topS 29
abbrev n_run : List Str := ["store", "start", "demands"]
theorem sc_run : FnScope n_run ["store", "start", "demands"] (defScope s_run) := ⟨rfl, rfl, rfl, by decide +kernel, rfl, by decide +kernel, by decide +kernel⟩
abbrev s_situation_after : Stmt := topS 30
abbrev n_situation_after : List Str := ["store", "start", "demands"]
theorem sc_situation_after : FnScope n_situation_after ["store", "start", "demands"] (defScope s_situation_after) := ⟨rfl, rfl, rfl, by decide +kernel, rfl, by decide +kernel, by decide +kernel⟩
abbrev s_sums_of : Stmt := topS 31
abbrev n_sums_of : List Str := ["store", "start", "demands", "rows", "row", "place"]
theorem sc_sums_of : FnScope n_sums_of ["store", "start", "demands"] (defScope s_sums_of) := ⟨rfl, rfl, rfl, by decide +kernel, rfl, by decide +kernel, by decide +kernel⟩
abbrev s_totals : Stmt := topS 32
abbrev n_totals : List Str := ["store", "start", "demands"]
theorem sc_totals : FnScope n_totals ["store", "start", "demands"] (defScope s_totals) := ⟨rfl, rfl, rfl, by decide +kernel, rfl, by decide +kernel, by decide +kernel⟩
abbrev s_check_three : Stmt := topS 34
abbrev n_check_three : List Str := ["store", "start", "bounds"]
theorem sc_check_three : FnScope n_check_three ["store", "start", "bounds"] (defScope s_check_three) := ⟨rfl, rfl, rfl, by decide +kernel, rfl, by decide +kernel, by decide +kernel⟩
abbrev s_allowed : Stmt := topS 35
abbrev n_allowed : List Str := ["bounds", "recent", "low", "high", "days", "most", "found", "demand", "row", "place"]
theorem sc_allowed : FnScope n_allowed ["bounds", "recent"] (defScope s_allowed) := ⟨rfl, rfl, rfl, by decide +kernel, rfl, by decide +kernel, by decide +kernel⟩
abbrev s_after : Stmt := topS 36
abbrev n_after : List Str := ["bounds", "recent", "demand", "days"]
theorem sc_after : FnScope n_after ["bounds", "recent", "demand"] (defScope s_after) := ⟨rfl, rfl, rfl, by decide +kernel, rfl, by decide +kernel, by decide +kernel⟩
abbrev s_first_node : Stmt := topS 37
abbrev n_first_node : List Str := ["store", "start"]
theorem sc_first_node : FnScope n_first_node ["store", "start"] (defScope s_first_node) := ⟨rfl, rfl, rfl, by decide +kernel, rfl, by decide +kernel, by decide +kernel⟩
abbrev s_steps_from : Stmt := topS 38
abbrev n_steps_from : List Str := ["store", "bounds", "node", "situation", "recent", "found", "demand", "later", "row"]
theorem sc_steps_from : FnScope n_steps_from ["store", "bounds", "node"] (defScope s_steps_from) := ⟨rfl, rfl, rfl, by decide +kernel, rfl, by decide +kernel, by decide +kernel⟩
abbrev s_all_nodes : Stmt := topS 39
abbrev n_all_nodes : List Str := ["store", "start", "bounds", "begin", "met", "level", "later", "node", "demand", "other", "row"]
theorem sc_all_nodes : FnScope n_all_nodes ["store", "start", "bounds"] (defScope s_all_nodes) := ⟨rfl, rfl, rfl, by decide +kernel, rfl, by decide +kernel, by decide +kernel⟩
abbrev s_first_with : Stmt := topS 40
abbrev n_first_with : List Str := ["store", "start", "bounds", "place", "met", "best", "node", "demand", "other", "row", "demands"]
theorem sc_first_with : FnScope n_first_with ["store", "start", "bounds", "place"] (defScope s_first_with) := ⟨rfl, rfl, rfl, by decide +kernel, rfl, by decide +kernel, by decide +kernel⟩
abbrev s_first_short : Stmt := topS 41
abbrev n_first_short : List Str := ["store", "start", "bounds"]
theorem sc_first_short : FnScope n_first_short ["store", "start", "bounds"] (defScope s_first_short) := ⟨rfl, rfl, rfl, by decide +kernel, rfl, by decide +kernel, by decide +kernel⟩
abbrev s_first_spill : Stmt := topS 42
abbrev n_first_spill : List Str := ["store", "start", "bounds"]
theorem sc_first_spill : FnScope n_first_spill ["store", "start", "bounds"] (defScope s_first_spill) := ⟨rfl, rfl, rfl, by decide +kernel, rfl, by decide +kernel, by decide +kernel⟩
abbrev s_does_last : Stmt := topS 43
abbrev n_does_last : List Str := ["store", "start", "bounds"]
theorem sc_does_last : FnScope n_does_last ["store", "start", "bounds"] (defScope s_does_last) := ⟨rfl, rfl, rfl, by decide +kernel, rfl, by decide +kernel, by decide +kernel⟩
abbrev s_is_safe : Stmt := topS 44
abbrev n_is_safe : List Str := ["store", "start", "bounds"]
theorem sc_is_safe : FnScope n_is_safe ["store", "start", "bounds"] (defScope s_is_safe) := ⟨rfl, rfl, rfl, by decide +kernel, rfl, by decide +kernel, by decide +kernel⟩
abbrev s_extreme : Stmt := topS 45
abbrev n_extreme : List Str := ["store", "start", "bounds", "sign", "met", "rows", "node"]
theorem sc_extreme : FnScope n_extreme ["store", "start", "bounds", "sign"] (defScope s_extreme) := ⟨rfl, rfl, rfl, by decide +kernel, rfl, by decide +kernel, by decide +kernel⟩
abbrev s_highest : Stmt := topS 46
abbrev n_highest : List Str := ["store", "start", "bounds"]
theorem sc_highest : FnScope n_highest ["store", "start", "bounds"] (defScope s_highest) := ⟨rfl, rfl, rfl, by decide +kernel, rfl, by decide +kernel, by decide +kernel⟩
abbrev s_lowest : Stmt := topS 47
abbrev n_lowest : List Str := ["store", "start", "bounds"]
theorem sc_lowest : FnScope n_lowest ["store", "start", "bounds"] (defScope s_lowest) := ⟨rfl, rfl, rfl, by decide +kernel, rfl, by decide +kernel, by decide +kernel⟩
abbrev s_count_situations : Stmt := topS 48
abbrev n_count_situations : List Str := ["store", "start", "bounds", "node"]
theorem sc_count_situations : FnScope n_count_situations ["store", "start", "bounds"] (defScope s_count_situations) := ⟨rfl, rfl, rfl, by decide +kernel, rfl, by decide +kernel, by decide +kernel⟩
abbrev s_least_level : Stmt := topS 50
abbrev n_least_level : List Str := ["store", "start", "bounds", "level", "other"]
theorem sc_least_level : FnScope n_least_level ["store", "start", "bounds"] (defScope s_least_level) := ⟨rfl, rfl, rfl, by decide +kernel, rfl, by decide +kernel, by decide +kernel⟩
abbrev s_found_starts : Stmt := topS 51
abbrev n_found_starts : List Str := ["store", "bounds", "start"]
theorem sc_found_starts : FnScope n_found_starts ["store", "bounds"] (defScope s_found_starts) := ⟨rfl, rfl, rfl, by decide +kernel, rfl, by decide +kernel, by decide +kernel⟩
abbrev s_least_start : Stmt := topS 52
abbrev n_least_start : List Str := ["store", "bounds", "some"]
theorem sc_least_start : FnScope n_least_start ["store", "bounds"] (defScope s_least_start) := ⟨rfl, rfl, rfl, by decide +kernel, rfl, by decide +kernel, by decide +kernel⟩
abbrev s_safe_starts : Stmt := topS 53
abbrev n_safe_starts : List Str := ["store", "bounds"]
theorem sc_safe_starts : FnScope n_safe_starts ["store", "bounds"] (defScope s_safe_starts) := ⟨rfl, rfl, rfl, by decide +kernel, rfl, by decide +kernel, by decide +kernel⟩
abbrev s_greatest_sum : Stmt := topS 55
abbrev n_greatest_sum : List Str := ["store", "start", "bounds", "days", "place", "sign", "level", "day", "later", "node", "total", "demand", "other", "row", "value"]
theorem sc_greatest_sum : FnScope n_greatest_sum ["store", "start", "bounds", "days", "place", "sign"] (defScope s_greatest_sum) := ⟨rfl, rfl, rfl, by decide +kernel, rfl, by decide +kernel, by decide +kernel⟩
abbrev s_most_missed : Stmt := topS 56
abbrev n_most_missed : List Str := ["store", "start", "bounds", "days"]
theorem sc_most_missed : FnScope n_most_missed ["store", "start", "bounds", "days"] (defScope s_most_missed) := ⟨rfl, rfl, rfl, by decide +kernel, rfl, by decide +kernel, by decide +kernel⟩
abbrev s_most_ordered : Stmt := topS 57
abbrev n_most_ordered : List Str := ["store", "start", "bounds", "days"]
theorem sc_most_ordered : FnScope n_most_ordered ["store", "start", "bounds", "days"] (defScope s_most_ordered) := ⟨rfl, rfl, rfl, by decide +kernel, rfl, by decide +kernel, by decide +kernel⟩
abbrev s_fewest_ordered : Stmt := topS 58
abbrev n_fewest_ordered : List Str := ["store", "start", "bounds", "days"]
theorem sc_fewest_ordered : FnScope n_fewest_ordered ["store", "start", "bounds", "days"] (defScope s_fewest_ordered) := ⟨rfl, rfl, rfl, by decide +kernel, rfl, by decide +kernel, by decide +kernel⟩
abbrev s_most_spilled : Stmt := topS 59
abbrev n_most_spilled : List Str := ["store", "start", "bounds", "days"]
theorem sc_most_spilled : FnScope n_most_spilled ["store", "start", "bounds", "days"] (defScope s_most_spilled) := ⟨rfl, rfl, rfl, by decide +kernel, rfl, by decide +kernel, by decide +kernel⟩
abbrev s_first_apart : Stmt := topS 61
abbrev n_first_apart : List Str := ["one", "other", "start", "bounds", "is_wanted", "begin", "met", "level", "later", "node", "demands", "demand", "first", "second", "new"]
theorem sc_first_apart : FnScope n_first_apart ["one", "other", "start", "bounds", "is_wanted"] (defScope s_first_apart) := ⟨rfl, rfl, rfl, by decide +kernel, rfl, by decide +kernel, by decide +kernel⟩
abbrev s_parting : Stmt := topS 62
abbrev n_parting : List Str := ["one", "other", "start", "bounds"]
theorem sc_parting : FnScope n_parting ["one", "other", "start", "bounds"] (defScope s_parting) := ⟨rfl, rfl, rfl, by decide +kernel, rfl, by decide +kernel, by decide +kernel⟩
abbrev s_are_alike : Stmt := topS 63
abbrev n_are_alike : List Str := ["one", "other", "start", "bounds"]
theorem sc_are_alike : FnScope n_are_alike ["one", "other", "start", "bounds"] (defScope s_are_alike) := ⟨rfl, rfl, rfl, by decide +kernel, rfl, by decide +kernel, by decide +kernel⟩
abbrev s_first_more : Stmt := topS 64
abbrev n_first_more : List Str := ["one", "other", "start", "bounds"]
theorem sc_first_more : FnScope n_first_more ["one", "other", "start", "bounds"] (defScope s_first_more) := ⟨rfl, rfl, rfl, by decide +kernel, rfl, by decide +kernel, by decide +kernel⟩
abbrev s__law_town : Stmt := topS 66
abbrev n__law_town : List Str := ["script"]
theorem sc__law_town : FnScope n__law_town ["script"] (defScope s__law_town) := ⟨rfl, rfl, rfl, by decide +kernel, rfl, by decide +kernel, by decide +kernel⟩
abbrev s__law_draw : Stmt := topS 67
abbrev n__law_draw : List Str := ["script", "town", "limit", "at", "left", "number"]
theorem sc__law_draw : FnScope n__law_draw ["script", "town", "limit"] (defScope s__law_draw) := ⟨rfl, rfl, rfl, by decide +kernel, rfl, by decide +kernel, by decide +kernel⟩
abbrev s__law_pick : Stmt := topS 68
abbrev n__law_pick : List Str := ["script", "town", "choices"]
theorem sc__law_pick : FnScope n__law_pick ["script", "town", "choices"] (defScope s__law_pick) := ⟨rfl, rfl, rfl, by decide +kernel, rfl, by decide +kernel, by decide +kernel⟩
abbrev s__law_outcome : Stmt := topS 69
abbrev n__law_outcome : List Str := ["way", "arguments", "caught", "result", "error"]
theorem sc__law_outcome : FnScope n__law_outcome ["way", "arguments"] (defScope s__law_outcome) := ⟨rfl, rfl, rfl, by decide +kernel, rfl, by decide +kernel, by decide +kernel⟩
abbrev s__law_name : Stmt := topS 70
abbrev n__law_name : List Str := ["caught", "found"]
theorem sc__law_name : FnScope n__law_name ["caught"] (defScope s__law_name) := ⟨rfl, rfl, rfl, by decide +kernel, rfl, by decide +kernel, by decide +kernel⟩
abbrev s__law_raises : Stmt := topS 71
abbrev n__law_raises : List Str := ["name", "names"]
theorem sc__law_raises : FnScope n__law_raises ["name"] (defScope s__law_raises) := ⟨rfl, rfl, rfl, by decide +kernel, rfl, by decide +kernel, by decide +kernel⟩
abbrev s__law_store : Stmt := topS 72
abbrev n__law_store : List Str := ["script", "town", "room", "wide", "wait", "level"]
theorem sc__law_store : FnScope n__law_store ["script", "town", "room"] (defScope s__law_store) := ⟨rfl, rfl, rfl, by decide +kernel, rfl, by decide +kernel, by decide +kernel⟩
abbrev s__law_bounds : Stmt := topS 73
abbrev n__law_bounds : List Str := ["script", "town", "most", "high", "low", "days"]
theorem sc__law_bounds : FnScope n__law_bounds ["script", "town", "most"] (defScope s__law_bounds) := ⟨rfl, rfl, rfl, by decide +kernel, rfl, by decide +kernel, by decide +kernel⟩
abbrev s__law_call : Stmt := topS 74
abbrev n__law_call : List Str := ["way", "arguments", "one", "two", "three", "four", "asked"]
theorem sc__law_call : FnScope n__law_call ["way", "arguments"] (defScope s__law_call) := ⟨rfl, rfl, rfl, by decide +kernel, rfl, by decide +kernel, by decide +kernel⟩
abbrev s__law_bad_stores : Stmt := topS 75
abbrev n__law_bad_stores : List Str := ["bads"]
theorem sc__law_bad_stores : FnScope n__law_bad_stores [] (defScope s__law_bad_stores) := ⟨rfl, rfl, rfl, by decide +kernel, rfl, by decide +kernel, by decide +kernel⟩
abbrev s__law_others_raise : Stmt := topS 76
abbrev n__law_others_raise : List Str := ["store", "bounds", "wrongs", "bad", "way", "small"]
theorem sc__law_others_raise : FnScope n__law_others_raise ["store", "bounds", "wrongs"] (defScope s__law_others_raise) := ⟨rfl, rfl, rfl, by decide +kernel, rfl, by decide +kernel, by decide +kernel⟩
abbrev s_law : Stmt := topS 77
abbrev n_law : List Str := ["script", "town", "store", "bounds", "goods", "good", "bad", "wrongs", "way"]
theorem sc_law : FnScope n_law ["script"] (defScope s_law) := ⟨rfl, rfl, rfl, by decide +kernel, rfl, by decide +kernel, by decide +kernel⟩
end Law
namespace Law
open PySem PySem.Spec PyProof.Rows L2 SR
variable {P : Program} {w : World} {K : PySem.W.Frag} {mg : Str → Option Value} {base : Heap} {f : Addr} {fd : FuncData}
/-! ### is_between -/
def betw (d : D) (lo hi : Int) : Bool := match d with
  | .int i => decide (lo ≤ i) && decide (i ≤ hi)
  | _ => false
def S_is_between : SpT := fun ds W O _ => ∃ d lo hi, ds = [d, .int lo, .int hi] ∧ (tyD W d).isSome = true ∧ O (.bl (betw d lo hi)) W
theorem ok_is_between (B : Bi mg) (F : Fun K "is_between" "is_between" s_is_between f fd) (hm : mg "is_between" = some (.ref f)) (hb : Binds K fd ["value", "low", "high"] []) : Cal P w K mg base 1 "is_between" ["value", "low", "high"] S_is_between := by
  refine cal_mk F hm hb sc_is_between (fun ds W O XC h => ?_) (fun cdv A outer s H E ds W O XC hr h => ?_)
  · obtain ⟨d, lo, hi, rfl, _⟩ := h
    rfl
  · obtain ⟨d, lo, hi, rfl, ht, h⟩ := h
    have go : ∀ t r, tyD W d = some t → kitB t "int" = some r → (r = false → betw d lo hi = false) → (∀ r2, r = true → kitB t "bool" = some r2 → (r2 = true → betw d lo hi = false) ∧ (r2 = false → ∃ i, d = .int i)) → (r = true → ∃ r2, kitB t "bool" = some r2) →
        XB (cxOf (L2.CX P w) P w K mg base n_is_between "is_between" (defScope s_is_between) f cdv A outer s H E) E XC (defBody s_is_between) (startD 3 [d, .int lo, .int hi]) W { nx := fun _ W' => O .non W', rt := O } := by
      intro t r h1 h2 h3 h4 h5
      refine xb_one (xs_ret (xe_and (xe_isi B.isinstance (xe_name 0 rfl (xe_ty B.int (by decide +kernel) ⟨"int", t, r, rfl, h1, h2, r, rfl, fun hr => ?_, fun hr => ?_⟩)))))
      · obtain ⟨r2, h6⟩ := h5 hr
        obtain ⟨h7, h8⟩ := h4 r2 hr h6
        refine xe_and (xe_not (xe_isi B.isinstance (xe_name 0 rfl (xe_ty B.bool (by decide +kernel) ⟨"bool", t, r2, rfl, h1, h6, r2, rfl, !r2, rfl, fun hr2 => ?_, fun hr2 => ?_⟩))))
        · obtain ⟨i, rfl⟩ := h8 (by cases r2 <;> simp_all)
          refine xe_one (xe_chain (xe_name 1 rfl (xe_name 0 rfl ⟨lo, i, rfl, rfl, fun hl => xe_name 2 rfl ⟨hi, rfl, ?_⟩, fun hl => ?_⟩)))
          · simpa [betw, hl] using h
          · simpa [betw, hl] using h
        · rw [h7 (by cases r2 <;> simp_all)] at h
          exact h
      · rw [h3 hr] at h
        exact h
    cases d with
    | int i => exact go "int" true rfl (by decide +kernel) (by simp) (fun r2 _ h => ⟨fun e => by subst e; exact absurd h (by decide +kernel), fun _ => ⟨i, rfl⟩⟩) (fun _ => ⟨false, by decide +kernel⟩)
    | bl i => exact go "bool" true rfl (by decide +kernel) (by simp) (fun r2 _ h => ⟨fun e => rfl, fun e => by subst e; exact absurd h (by decide +kernel)⟩) (fun _ => ⟨true, by decide +kernel⟩)
    | non => exact go "NoneType" false rfl (by decide +kernel) (fun _ => rfl) (fun _ h => by cases h) (fun h => by cases h)
    | str x => exact go "str" false rfl (by decide +kernel) (fun _ => rfl) (fun _ h => by cases h) (fun h => by cases h)
    | tup x => exact go "tuple" false rfl (by decide +kernel) (fun _ => rfl) (fun _ h => by cases h) (fun h => by cases h)
    | p a =>
      cases q : W a with
      | none => simp [tyD, q] at ht
      | some ob =>
        cases ob with
        | lst xs => exact go "list" false (by simp [tyD, q]) (by decide +kernel) (fun _ => rfl) (fun _ h => by cases h) (fun h => by cases h)
        | _ => simp [tyD, q] at ht
    | ty n => cases ht
    | scr a ns => cases ht
    | exc a C => cases ht

end Law
namespace Law
open PySem PySem.Spec PyProof.Rows L2 SR
variable {P : Program} {w : World} {K : PySem.W.Frag} {mg : Str → Option Value} {base : Heap} {f : Addr} {fd : FuncData}
/-! ### is_bounds -/
def iv : D → Int
  | .int i => i
  | _ => 0
theorem betw_int {d : D} {lo hi : Int} (h : betw d lo hi = true) : d = .int (iv d) ∧ lo ≤ iv d ∧ iv d ≤ hi := by
  cases d with
  | int i => simp only [betw, Bool.and_eq_true, decide_eq_true_eq] at h; exact ⟨rfl, h⟩
  | _ => simp [betw] at h
structure KnD (W : Om) (d : D) : Prop where
  ty : (tyD W d).isSome = true
  all : ∀ xs, d = .tup xs → ∀ x ∈ xs, (tyD W x).isSome = true
/-- which data is a tuple -/
def isTu : D → Bool
  | .tup _ => true
  | _ => false
theorem kit_tuple : kitB "int" "tuple" = some false ∧ kitB "bool" "tuple" = some false ∧ kitB "NoneType" "tuple" = some false ∧ kitB "str" "tuple" = some false ∧ kitB "tuple" "tuple" = some true ∧ kitB "list" "tuple" = some false := by decide +kernel
theorem kit_tu {W : Om} {d : D} (h : (tyD W d).isSome = true) : ∃ t, tyD W d = some t ∧ kitB t "tuple" = some (isTu d) := by
  obtain ⟨k1, k2, k3, k4, k5, k6⟩ := kit_tuple
  cases d with
  | int i => exact ⟨"int", rfl, k1⟩
  | bl i => exact ⟨"bool", rfl, k2⟩
  | non => exact ⟨"NoneType", rfl, k3⟩
  | str x => exact ⟨"str", rfl, k4⟩
  | tup x => exact ⟨"tuple", rfl, k5⟩
  | p a =>
    cases q : W a with
    | none => simp [tyD, q] at h
    | some ob =>
      cases ob with
      | lst xs => exact ⟨"list", by simp [tyD, q], k6⟩
      | _ => simp [tyD, q] at h
  | ty n => cases h
  | scr a ns => cases h
  | exc a C => cases h

end Law
namespace Law
open PySem PySem.Spec PyProof.Rows L2 SR
variable {P : Program} {w : World} {K : PySem.W.Frag} {mg : Str → Option Value} {base : Heap} {f : Addr} {fd : FuncData}
theorem filterMap_some' {α β : Type} (f : α → β) (l : List α) : l.filterMap (fun x => some (f x)) = l.map f := by
  induction l with
  | nil => rfl
  | cons a r ih => simp [ih]
theorem all_map_id {α : Type} (p : α → Bool) (l : List α) : (l.map p).all id = l.all p := by
  induction l with
  | nil => rfl
  | cons a r ih => simp [ih]
abbrev tupI (ms : List Int) : D := .tup (ms.map D.int)
theorem knI (ms : List Int) (W : Om) : KnD W (tupI ms) := ⟨rfl, fun xs e x hx => by
  cases e
  obtain ⟨m, _, rfl⟩ := List.mem_map.mp hx
  rfl⟩
theorem sIx_nat' (n d : Nat) (k : Int) (hk : 0 ≤ k) : HT.sIx n d (some k) = min k.toNat n := by
  have := HT.sIx_nat n d k.toNat
  rw [show ((k.toNat : Nat) : Int) = k by omega] at this
  exact this
theorem cutA_nat {α : Type} (xs : List α) (k d : Int) (hk : 0 ≤ k) (hd : 0 ≤ d) : cutA xs (some k) (some (k + d)) = (xs.drop k.toNat).take d.toNat := by
  unfold cutA
  rw [sIx_nat' _ _ k hk, sIx_nat' _ _ (k + d) (by omega)]
  by_cases h : k.toNat ≤ xs.length
  · rw [Nat.min_eq_left h]
    by_cases h2 : (k + d).toNat ≤ xs.length
    · rw [Nat.min_eq_left h2]
      congr 1
      omega
    · rw [Nat.min_eq_right (by omega), List.take_of_length_le (by rw [List.length_drop]; omega), List.take_of_length_le (by rw [List.length_drop]; omega)]
  · rw [show min k.toNat xs.length = xs.length by omega, List.drop_length, List.drop_eq_nil_of_le (by omega)]
    simp
theorem flat_rep {α : Type} (x : α) : ∀ k : Nat, (List.replicate k [x]).flatten = List.replicate k x
  | 0 => rfl
  | k + 1 => by rw [List.replicate_succ, List.flatten_cons, flat_rep x k, List.replicate_succ]; rfl
theorem rangeD_map (n : Nat) : rangeD 0 n = (List.range n).map fun i => D.int ((i : Nat) : Int) := by
  unfold rangeD
  congr 1
  funext i
  rw [Int.zero_add]
theorem mem_rangeD {n i : Nat} {d : D} (h : (rangeD 0 n)[i]? = some d) : i < n ∧ d = .int ((i : Nat) : Int) := by
  obtain ⟨h1, h2⟩ := List.getElem?_eq_some_iff.mp h
  rw [rangeD_len] at h1
  rw [rangeD_get h1] at h
  exact ⟨h1, by rw [← Option.some.inj h]; simp⟩
theorem toPs_ints : ∀ ns : List Int, toPs (ns.map D.int) = some (ns.map PyData.int)
  | [] => by simp [toPs]
  | n :: r => by simp only [List.map_cons, toPs, toP, toPs_ints r]
theorem fm_filter {α β : Type} (p : α → Bool) (h : α → β) (l : List α) : l.filterMap (fun x => if p x then some (h x) else none) = (l.filter p).map h := by
  induction l with
  | nil => rfl
  | cons a r ih =>
    by_cases e : p a = true
    · simp [e, ih]
    · simp [e, ih]
theorem rangeD_irange (lo hi : Int) : rangeD lo (hi + 1 - lo).toNat = (irange lo hi).map D.int := by
  unfold rangeD irange
  rw [List.map_map]
  rfl
theorem mem_rangeD' {lo : Int} {n i : Nat} {d : D} (h : (rangeD lo n)[i]? = some d) : i < n ∧ d = .int (lo + (i : Nat)) := by
  obtain ⟨h1, h2⟩ := List.getElem?_eq_some_iff.mp h
  rw [rangeD_len] at h1
  rw [rangeD_get h1] at h
  exact ⟨h1, by rw [← Option.some.inj h]⟩
theorem canLay_ints : ∀ ns : List Int, PyData.canLayAll0 (ns.map PyData.int) = true
  | [] => by simp [PyData.canLayAll0]
  | n :: r => by rw [List.map_cons, PyData.canLayAll0, canLay_ints r]; simp [PyData.canLay0]
theorem depth_ints : ∀ ns : List Int, PyData.depthAll (ns.map PyData.int) = 0
  | [] => by simp [PyData.depthAll]
  | n :: r => by rw [List.map_cons, PyData.depthAll, depth_ints r]; simp [PyData.depth]
theorem shaped_ints (ns : List Int) : SeqAt.shaped (.list (ns.map PyData.int)) = true := by
  unfold SeqAt.shaped
  rw [PyData.canLay0, canLay_ints, PyData.depth, depth_ints]
  rfl
theorem eqv_nil (ns : List Int) : PyData.eqv (.list (ns.map PyData.int)) (.list []) = ns.isEmpty := by
  cases ns with
  | nil => simp [PyData.eqv, PyData.eqvAll]
  | cons n r => simp [PyData.eqv, PyData.eqvAll]
theorem nobs_ints : ∀ ns : List Int, nobs (ns.map PyData.int) = true
  | [] => by simp [nobs]
  | n :: r => by rw [List.map_cons, nobs, nobs_ints r]; simp [nob]
theorem eqv_ints (ns : List Int) : PyData.eqv (.list (ns.map PyData.int)) (.list (ns.map PyData.int)) = true :=
  (eqv_iff _ _ (by rw [nob]; exact nobs_ints ns) (by rw [nob]; exact nobs_ints ns)).mpr rfl
theorem topP_ints {W : Om} {l : Addr} {ns : List Int} (h : W l = some (.lst (ns.map D.int))) : topP W (.p l) = some (.list (ns.map PyData.int)) := by
  simp only [topP, h, toPs_ints]
  rfl
theorem tupI_snoc (ms : List Int) (d : Int) : D.tup (ms.map D.int ++ [D.int d]) = tupI (ms ++ [d]) := by
  show _ = D.tup _
  rw [List.map_append]
  rfl

end Law
namespace Law
open PySem PySem.Spec PyProof.Rows L2 SR
variable {P : Program} {w : World} {K : PySem.W.Frag} {mg : Str → Option Value} {base : Heap} {f : Addr} {fd : FuncData}
theorem at0 {α : Type} (x : α) (xs : List α) : atI (x :: xs) 0 = some x := atI_nat (j := 0) rfl
theorem ix0 {α : Type} (x : α) (xs : List α) : ixN (x :: xs).length 0 = some 0 := by
  unfold ixN
  rw [if_pos (by decide), if_pos (by rw [List.length_cons]; omega)]
  rfl

end Law
namespace Law
open PySem PySem.Spec PyProof.Rows L2 SR
variable {P : Program} {w : World} {K : PySem.W.Frag} {mg : Str → Option Value} {base : Heap} {f : Addr} {fd : FuncData}
def isBd : D → Bool
  | .tup [a, b, c, m] => betw b 0 4 && (betw a 0 (iv b) && (betw c 1 3 && betw m (iv c * iv a) 12))
  | _ => false
def S_is_bounds : SpT := fun ds W O _ => ∃ d, ds = [d] ∧ KnD W d ∧ O (.bl (isBd d)) W
theorem ok_is_bounds (B : Bi mg) (c1 : Cal P w K mg base 1 "is_between" ["value", "low", "high"] S_is_between) (F : Fun K "is_bounds" "is_bounds" s_is_bounds f fd) (hm : mg "is_bounds" = some (.ref f)) (hb : Binds K fd ["value"] []) : Cal P w K mg base 2 "is_bounds" ["value"] S_is_bounds := by
  refine cal_mk F hm hb sc_is_bounds (fun ds W O XC h => ?_) (fun cdv A outer s H E ds W O XC hr h => ?_)
  · obtain ⟨d, rfl, _⟩ := h
    rfl
  · obtain ⟨d, rfl, hk, h⟩ := h
    obtain ⟨t, ht, hkt⟩ := kit_tu hk.ty
    refine xb_cons (xs_if (xt_or2 (xt_not (xt_val (xe_isi B.isinstance (xe_name 0 rfl (xe_ty B.tuple (by decide +kernel) ⟨"tuple", t, _, rfl, ht, hkt, _, rfl, fun e1 => ?_, fun e1 => ⟨fun _ => ?_, fun e2 => by cases e2⟩⟩)))))))
    · -- a tuple
      cases d with
      | tup xs =>
        refine xt_neS (xe_len B.len (xe_name 0 rfl ⟨xs, rfl, xe_int ⟨_, rfl, _, rfl, fun e2 => ?_, fun e2 => ?_⟩⟩))
        · -- not four
          have hn : xs.length ≠ 4 := fun z => by simp [z] at e2
          have hB : isBd (.tup xs) = false := by
            unfold isBd
            split
            · rename_i a b c m e; cases e; exact absurd rfl hn
            · rfl
          rw [hB] at h
          exact xb_one (xs_ret (xe_bl h))
        · have hn : xs.length = 4 := by
            have : ((xs.length : Int)) = 4 := by simpa using e2
            omega
          obtain ⟨a, b, c, m, rfl⟩ : ∃ a b c m, xs = [a, b, c, m] := by
            match xs, hn with
            | [a, b, c, m], _ => exact ⟨a, b, c, m, rfl⟩
          have hall := hk.all _ rfl
          refine xb_nil (xb_cons (xs_asg (xe_name 0 rfl (xg_tup rfl (xgs_cons (xg_name 1 sc_is_bounds.nd (xgs_cons (xg_name 2 sc_is_bounds.nd (xgs_cons (xg_name 3 sc_is_bounds.nd (xgs_cons (xg_name 4 sc_is_bounds.nd (xgs_nil ?_)))))))))))))
          refine xb_cons (xs_if (xt_or3 (xt_not (xt_val (xe_call c1 hr passX (xa_cons (xe_name 2 rfl (xa_cons (xe_int (xa_cons (xe_int (xa_nil ⟨b, 0, 4, rfl, hall b (by simp), _, rfl, fun e3 => ?_, fun e3 => ⟨fun _ => ?_, fun z => by cases z⟩⟩))))))))))))
          · have e3 : betw b 0 4 = true := by simpa using e3
            obtain ⟨eb, _, _⟩ := betw_int e3
            refine xt_not (xt_val (xe_call c1 hr passX (xa_cons (xe_name 1 rfl (xa_cons (xe_int (xa_cons (xe_name 2 rfl (xa_nil ⟨a, 0, iv b, by rw [← eb], hall a (by simp), _, rfl, fun e4 => ?_, fun e4 => ⟨fun _ => ?_, fun z => by cases z⟩⟩)))))))))
            · have e4 : betw a 0 (iv b) = true := by simpa using e4
              obtain ⟨ea, _, _⟩ := betw_int e4
              refine xt_not (xt_val (xe_call c1 hr passX (xa_cons (xe_name 3 rfl (xa_cons (xe_int (xa_cons (xe_int (xa_nil ⟨c, 1, 3, rfl, hall c (by simp), _, rfl, fun e5 => ?_, fun e5 => ?_⟩)))))))))
              · have e5 : betw c 1 3 = false := by simpa using e5
                refine xb_one (xs_ret (xe_bl ?_))
                simpa [isBd, e3, e4, e5] using h
              · have e5 : betw c 1 3 = true := by simpa using e5
                obtain ⟨ec, h1, h2⟩ := betw_int e5
                refine xb_nil (xb_one (xs_ret (xe_call c1 hr passX (xa_cons (xe_name 4 rfl (xa_cons (xe_mul (xe_name 3 rfl (xe_name 1 rfl ⟨iv c, iv a, ec, ea, .inl ⟨by omega, by omega⟩, xa_cons (xe_int (xa_nil ⟨m, _, 12, rfl, hall m (by simp), ?_⟩))⟩)))))))))
                simpa [isBd, e3, e4, e5] using h
            · have e4 : betw a 0 (iv b) = false := by simpa using e4
              refine xb_one (xs_ret (xe_bl ?_))
              simpa [isBd, e3, e4] using h
          · have e3 : betw b 0 4 = false := by simpa using e3
            refine xb_one (xs_ret (xe_bl ?_))
            simpa [isBd, e3] using h
      | _ => simp [isTu] at e1
    · have hB : isBd d = false := by
        cases d with
        | tup xs => simp [isTu] at e1
        | _ => rfl
      rw [hB] at h
      exact xb_one (xs_ret (xe_bl h))
/-! ### check_bounds -/
def S_check_bounds (CB : Addr) : SpT := fun ds W O XC => ∃ d, ds = [d] ∧ KnD W d ∧ (isBd d = true → O .non W) ∧ (isBd d = false → XC CB W)
theorem ok_check_bounds {CB : Addr} (cB : ExC K mg "InvalidBounds" CB) (c1 : Cal P w K mg base 2 "is_bounds" ["value"] S_is_bounds) (F : Fun K "check_bounds" "check_bounds" s_check_bounds f fd) (hm : mg "check_bounds" = some (.ref f)) (hb : Binds K fd ["value"] []) : Cal P w K mg base 3 "check_bounds" ["value"] (S_check_bounds CB) := by
  refine cal_mk F hm hb sc_check_bounds (fun ds W O XC h => ?_) (fun cdv A outer s H E ds W O XC hr h => ?_)
  · obtain ⟨d, rfl, _⟩ := h
    rfl
  · obtain ⟨d, rfl, hk, h1, h2⟩ := h
    refine xb_one (xs_if (xt_not (xt_val (xe_call c1 hr passX (xa_cons (xe_name 0 rfl (xa_nil ⟨d, rfl, hk, _, rfl, fun e => ?_, fun e => ?_⟩)))))))
    · exact xb_one (xs_raise cB (takes_of rfl rfl rfl rfl) (h2 (by simpa using e)))
    · exact xb_nil (h1 (by simpa using e))
def _root_.SR.Bd.d (b : Bd) : D := .tup [.int b.low, .int b.high, .int b.days, .int b.most]
theorem _root_.SR.Bd.is {b : Bd} (h : b.ok) : isBd b.d = true := by
  have := h.l0; have := h.lh; have := h.h4; have := h.d1; have := h.d3; have := h.dl; have := h.m12
  simp only [isBd, Bd.d, betw, iv, decide_eq_true h.l0, decide_eq_true h.lh, decide_eq_true h.h4, decide_eq_true h.d1, decide_eq_true h.d3, decide_eq_true h.dl, decide_eq_true h.m12, decide_eq_true (show (0 : Int) ≤ b.high by omega), Bool.and_self, Bool.true_and, Bool.and_true, Bool.and_eq_true]
  exact ⟨decide_eq_true h.lh, decide_eq_true h.dl⟩
theorem _root_.SR.Bd.kn (b : Bd) (W : Om) : KnD W b.d := ⟨rfl, fun xs e x hx => by
  cases e
  simp only [List.mem_cons, List.not_mem_nil, or_false] at hx
  rcases hx with rfl | rfl | rfl | rfl <;> rfl⟩

end Law
namespace Law
open PySem PySem.Spec PyProof.Rows L2 SR
variable {P : Program} {w : World} {K : PySem.W.Frag} {mg : Str → Option Value} {base : Heap} {f : Addr} {fd : FuncData}
/-! ### is_store -/
abbrev kindS (b : Bool) : Str := if b then "fill" else "lots"
def _root_.SR.Sto.d (s : Sto) : D := .tup [.int s.room, .int s.wait, .str (kindS s.fill), .int s.level, .int s.size]
def isSr : D → Bool
  | .str _ => true
  | _ => false
theorem kit_strs : kitB "int" "str" = some false ∧ kitB "bool" "str" = some false ∧ kitB "NoneType" "str" = some false ∧ kitB "str" "str" = some true ∧ kitB "tuple" "str" = some false ∧ kitB "list" "str" = some false := by decide +kernel
theorem kit_sr {W : Om} {d : D} (h : (tyD W d).isSome = true) : ∃ t, tyD W d = some t ∧ kitB t "str" = some (isSr d) := by
  obtain ⟨k1, k2, k3, k4, k5, k6⟩ := kit_strs
  cases d with
  | int i => exact ⟨"int", rfl, k1⟩
  | bl i => exact ⟨"bool", rfl, k2⟩
  | non => exact ⟨"NoneType", rfl, k3⟩
  | str x => exact ⟨"str", rfl, k4⟩
  | tup x => exact ⟨"tuple", rfl, k5⟩
  | p a =>
    cases q : W a with
    | none => simp [tyD, q] at h
    | some ob =>
      cases ob with
      | lst xs => exact ⟨"list", by simp [tyD, q], k6⟩
      | _ => simp [tyD, q] at h
  | ty n => cases h
  | scr a ns => cases h
  | exc a C => cases h
def kindOk (c l z : D) : Bool := match c with
  | .str x => (decide (x = "lots") && betw z 1 6) || (decide (x = "fill") && betw z (iv l + 1) 18)
  | _ => false
def isSt : D → Bool
  | .tup [a, b, c, l, z] => betw a 1 12 && (betw b 1 3 && (betw l 0 12 && kindOk c l z))
  | _ => false
theorem lots_fill : ¬ (("lots" : Str) = "fill") := by decide +kernel
theorem _root_.SR.Sto.is {s : Sto} (h : s.ok) : isSt s.d = true := by
  have := h.r1; have := h.r12; have := h.w1; have := h.w3; have := h.l0; have := h.l12; have hz := h.sz
  have e1 : betw (.int s.room) 1 12 = true := by simp [betw]; omega
  have e2 : betw (.int s.wait) 1 3 = true := by simp [betw]; omega
  have e3 : betw (.int s.level) 0 12 = true := by simp [betw]; omega
  show (betw (.int s.room) 1 12 && (betw (.int s.wait) 1 3 && (betw (.int s.level) 0 12 && kindOk (.str (kindS s.fill)) (.int s.level) (.int s.size)))) = true
  rw [e1, e2, e3]
  cases hf : s.fill with
  | true =>
    rw [hf] at hz
    simp only [if_true] at hz
    have e4 : betw (.int s.size) (iv (.int s.level) + 1) 18 = true := by
      unfold betw iv
      rw [Bool.and_eq_true]
      exact ⟨decide_eq_true hz.1, decide_eq_true hz.2⟩
    simp only [kindOk, kindS, if_true, e4]
    simp
  | false =>
    rw [hf] at hz
    simp only [Bool.false_eq_true, if_false] at hz
    have e4 : betw (.int s.size) 1 6 = true := by simp [betw]; omega
    simp only [kindOk, kindS, Bool.false_eq_true, if_false, e4]
    simp
theorem isSt_of {d : D} (h : isSt d = true) : ∃ s : Sto, s.ok ∧ d = s.d := by
  unfold isSt at h
  split at h
  · rename_i a b c l z
    simp only [Bool.and_eq_true] at h
    obtain ⟨h1, h2, h3, h4⟩ := h
    obtain ⟨e1, a1, a2⟩ := betw_int h1
    obtain ⟨e2, b1, b2⟩ := betw_int h2
    obtain ⟨e3, l1, l2⟩ := betw_int h3
    unfold kindOk at h4
    split at h4
    · rename_i x
      simp only [Bool.or_eq_true, Bool.and_eq_true, decide_eq_true_eq] at h4
      rcases h4 with ⟨rfl, h5⟩ | ⟨rfl, h5⟩
      · obtain ⟨e5, z1, z2⟩ := betw_int h5
        exact ⟨⟨iv a, iv b, false, iv l, iv z⟩, ⟨a1, a2, b1, b2, l1, l2, ⟨z1, z2⟩⟩, by rw [e1, e2, e3, e5]; rfl⟩
      · obtain ⟨e5, z1, z2⟩ := betw_int h5
        exact ⟨⟨iv a, iv b, true, iv l, iv z⟩, ⟨a1, a2, b1, b2, l1, l2, ⟨z1, z2⟩⟩, by rw [e1, e2, e3, e5]; rfl⟩
    · cases h4
  · cases h
theorem _root_.SR.Sto.kn (s : Sto) (W : Om) : KnD W s.d := ⟨rfl, fun xs e x hx => by
  cases e
  simp only [List.mem_cons, List.not_mem_nil, or_false] at hx
  rcases hx with rfl | rfl | rfl | rfl | rfl <;> rfl⟩
abbrev CBetw (P : Program) (w : World) (K : PySem.W.Frag) (mg : Str → Option Value) (base : Heap) : Prop := Cal P w K mg base 1 "is_between" ["value", "low", "high"] S_is_between
def S_is_store : SpT := fun ds W O _ => ∃ d, ds = [d] ∧ KnD W d ∧ O (.bl (isSt d)) W
theorem ok_is_store (B : Bi mg) (c1 : CBetw P w K mg base) (F : Fun K "is_store" "is_store" s_is_store f fd) (hm : mg "is_store" = some (.ref f)) (hb : Binds K fd ["value"] []) : Cal P w K mg base 2 "is_store" ["value"] S_is_store := by
  refine cal_mk F hm hb sc_is_store (fun ds W O XC h => ?_) (fun cdv A outer s H E ds W O XC hr h => ?_)
  · obtain ⟨d, rfl, _⟩ := h
    rfl
  · obtain ⟨d, rfl, hk, h⟩ := h
    obtain ⟨t, ht, hkt⟩ := kit_tu hk.ty
    refine xb_cons (xs_if (xt_or2 (xt_not (xt_val (xe_isi B.isinstance (xe_name 0 rfl (xe_ty B.tuple (by decide +kernel) ⟨"tuple", t, _, rfl, ht, hkt, _, rfl, fun e1 => ?_, fun e1 => ⟨fun _ => ?_, fun e2 => by cases e2⟩⟩)))))))
    · cases d with
      | tup xs =>
        refine xt_neS (xe_len B.len (xe_name 0 rfl ⟨xs, rfl, xe_int ⟨_, rfl, _, rfl, fun e2 => ?_, fun e2 => ?_⟩⟩))
        · have hn : xs.length ≠ 5 := fun z => by simp [z] at e2
          have hB : isSt (.tup xs) = false := by
            unfold isSt
            split
            · rename_i a b c l z e; cases e; exact absurd rfl hn
            · rfl
          rw [hB] at h
          exact xb_one (xs_ret (xe_bl h))
        · have hn : xs.length = 5 := by
            have : ((xs.length : Int)) = 5 := by simpa using e2
            omega
          obtain ⟨a, b, c, l, z, rfl⟩ : ∃ a b c l z, xs = [a, b, c, l, z] := by
            match xs, hn with
            | [a, b, c, l, z], _ => exact ⟨a, b, c, l, z, rfl⟩
          have hall := hk.all _ rfl
          refine xb_nil (xb_cons (xs_asg (xe_name 0 rfl (xg_tup rfl (xgs_cons (xg_name 1 sc_is_store.nd (xgs_cons (xg_name 2 sc_is_store.nd (xgs_cons (xg_name 3 sc_is_store.nd (xgs_cons (xg_name 4 sc_is_store.nd (xgs_cons (xg_name 5 sc_is_store.nd (xgs_nil ?_)))))))))))))))
          refine xb_cons (xs_if (xt_or3 (xt_not (xt_val (xe_call c1 hr passX (xa_cons (xe_name 1 rfl (xa_cons (xe_int (xa_cons (xe_int (xa_nil ⟨a, 1, 12, rfl, hall a (by simp), _, rfl, fun e3 => ?_, fun e3 => ⟨fun _ => ?_, fun z => by cases z⟩⟩))))))))))))
          · have e3 : betw a 1 12 = true := by simpa using e3
            refine xt_not (xt_val (xe_call c1 hr passX (xa_cons (xe_name 2 rfl (xa_cons (xe_int (xa_cons (xe_int (xa_nil ⟨b, 1, 3, rfl, hall b (by simp), _, rfl, fun e4 => ?_, fun e4 => ⟨fun _ => ?_, fun z => by cases z⟩⟩)))))))))
            · have e4 : betw b 1 3 = true := by simpa using e4
              refine xt_not (xt_val (xe_call c1 hr passX (xa_cons (xe_name 4 rfl (xa_cons (xe_int (xa_cons (xe_int (xa_nil ⟨l, 0, 12, rfl, hall l (by simp), _, rfl, fun e5 => ?_, fun e5 => ?_⟩)))))))))
              · have e5 : betw l 0 12 = false := by simpa using e5
                refine xb_one (xs_ret (xe_bl ?_))
                simpa [isSt, e3, e4, e5] using h
              · have e5 : betw l 0 12 = true := by simpa using e5
                obtain ⟨el, _, _⟩ := betw_int e5
                obtain ⟨t2, ht2, hk2⟩ := kit_sr (hall c (by simp))
                refine xb_nil (xb_cons (xs_if (xt_not (xt_val (xe_isi B.isinstance (xe_name 3 rfl (xe_ty B.str (by decide +kernel) ⟨"str", t2, _, rfl, ht2, hk2, _, rfl, fun e6 => ?_, fun e6 => ?_⟩)))))))
                · have e6 : isSr c = false := by simpa using e6
                  refine xb_one (xs_ret (xe_bl ?_))
                  have : kindOk c l z = false := by
                    cases c with
                    | str x => cases e6
                    | _ => rfl
                  simpa [isSt, this] using h
                · cases c with
                  | str x =>
                    have hfin : isSt (.tup [a, b, .str x, l, z]) = ((decide (x = "lots") && betw z 1 6) || (decide (x = "fill") && betw z (iv l + 1) 18)) := by
                      simp only [isSt, e3, e4, e5, Bool.true_and, kindOk]
                    rw [hfin] at h
                    have second : ∀ r : Bool, (decide (x = "lots") && betw z 1 6) = false → r = (decide (x = "fill") && betw z (iv l + 1) 18) → O (.bl r) W := fun r h1 h2 => by
                      rw [h1, Bool.false_or, ← h2] at h
                      exact h
                    refine xb_nil (xb_one (xs_ret (xe_or (xe_and (xe_eqS (xe_name 3 rfl (xe_str ⟨_, rfl, _, rfl, fun e7 => ?_, fun e7 => ⟨_, rfl, fun _ => ?_, fun z => by cases z⟩⟩)))))))
                    · refine xe_one (xe_call c1 hr passX (xa_cons (xe_name 5 rfl (xa_cons (xe_int (xa_cons (xe_int (xa_nil ⟨z, 1, 6, rfl, hall z (by simp), _, rfl, fun e8 => ?_, fun e8 => ?_⟩))))))))
                      · refine xe_one (xe_and (xe_eqS (xe_name 3 rfl (xe_str ⟨_, rfl, _, rfl, fun e9 => ?_, fun e9 => ?_⟩))))
                        · simp only [decide_eq_true_eq] at e7 e9
                          rw [e7] at e9
                          exact absurd e9 lots_fill
                        · exact second false (by rw [e8, Bool.and_false]) (by rw [e9]; rfl)
                      · rw [e7, e8] at h
                        exact h
                    · refine xe_one (xe_and (xe_eqS (xe_name 3 rfl (xe_str ⟨_, rfl, _, rfl, fun e9 => ?_, fun e9 => ?_⟩))))
                      · refine xe_one (xe_call c1 hr passX (xa_cons (xe_name 5 rfl (xa_cons (xe_add (xe_name 4 (d := .int (iv l)) (by rw [← el]; rfl) (xe_int (xa_cons (xe_int (xa_nil ⟨z, _, 18, rfl, hall z (by simp), ?_⟩))))))))))
                        exact second _ (by rw [e7]; rfl) (by rw [e9]; rfl)
                      · exact second false (by rw [e7]; rfl) (by rw [e9]; rfl)
                  | _ => simp [isSr] at e6
            · have e4 : betw b 1 3 = false := by simpa using e4
              refine xb_one (xs_ret (xe_bl ?_))
              simpa [isSt, e3, e4] using h
          · have e3 : betw a 1 12 = false := by simpa using e3
            refine xb_one (xs_ret (xe_bl ?_))
            simpa [isSt, e3] using h
      | _ => simp [isTu] at e1
    · have hB : isSt d = false := by
        cases d with
        | tup xs => simp [isTu] at e1
        | _ => rfl
      rw [hB] at h
      exact xb_one (xs_ret (xe_bl h))
/-! ### check_store, check_start -/
def S_check_store (CS : Addr) : SpT := fun ds W O XC => ∃ d, ds = [d] ∧ KnD W d ∧ (isSt d = true → O .non W) ∧ (isSt d = false → XC CS W)
theorem ok_check_store {CS : Addr} (cS : ExC K mg "InvalidStore" CS) (c1 : Cal P w K mg base 2 "is_store" ["value"] S_is_store) (F : Fun K "check_store" "check_store" s_check_store f fd) (hm : mg "check_store" = some (.ref f)) (hb : Binds K fd ["value"] []) : Cal P w K mg base 3 "check_store" ["value"] (S_check_store CS) := by
  refine cal_mk F hm hb sc_check_store (fun ds W O XC h => ?_) (fun cdv A outer s H E ds W O XC hr h => ?_)
  · obtain ⟨d, rfl, _⟩ := h
    rfl
  · obtain ⟨d, rfl, hk, h1, h2⟩ := h
    refine xb_one (xs_if (xt_not (xt_val (xe_call c1 hr passX (xa_cons (xe_name 0 rfl (xa_nil ⟨d, rfl, hk, _, rfl, fun e => ?_, fun e => ?_⟩)))))))
    · exact xb_one (xs_raise cS (takes_of rfl rfl rfl rfl) (h2 (by simpa using e)))
    · exact xb_nil (h1 (by simpa using e))

end Law
namespace Law
open PySem PySem.Spec PyProof.Rows L2 SR
variable {P : Program} {w : World} {K : PySem.W.Frag} {mg : Str → Option Value} {base : Heap} {f : Addr} {fd : FuncData}
/-! ### check_start -/
def S_check_start (CI : Addr) : SpT := fun ds W O XC => ∃ (s : Sto) (d : D), ds = [s.d, d] ∧ (tyD W d).isSome = true ∧ (betw d 0 s.room = true → O .non W) ∧ (betw d 0 s.room = false → XC CI W)
theorem ok_check_start {CI : Addr} (cI : ExC K mg "InvalidStart" CI) (c1 : CBetw P w K mg base) (F : Fun K "check_start" "check_start" s_check_start f fd) (hm : mg "check_start" = some (.ref f)) (hb : Binds K fd ["store", "start"] []) : Cal P w K mg base 2 "check_start" ["store", "start"] (S_check_start CI) := by
  refine cal_mk F hm hb sc_check_start (fun ds W O XC h => ?_) (fun cdv A outer s H E ds W O XC hr h => ?_)
  · obtain ⟨s, d, rfl, _⟩ := h
    rfl
  · obtain ⟨st, d, rfl, hk, h1, h2⟩ := h
    refine xb_one (xs_if (xt_not (xt_val (xe_call c1 hr passX (xa_cons (xe_name 1 rfl (xa_cons (xe_int (xa_cons (xe_ix (xe_name 0 rfl (xe_int ⟨_, rfl, xa_nil ⟨d, 0, _, rfl, hk, _, rfl, fun e => ?_, fun e => ?_⟩⟩))))))))))))
    · exact xb_one (xs_raise cI (takes_of rfl rfl rfl rfl) (h2 (by simpa using e)))
    · exact xb_nil (h1 (by simpa using e))

end Law
namespace Law
open PySem PySem.Spec PyProof.Rows L2 SR
variable {P : Program} {w : World} {K : PySem.W.Frag} {mg : Str → Option Value} {base : Heap} {f : Addr} {fd : FuncData}
/-! ### a day -/
def _root_.SR.Sit.d (x : Sit) : D := .tup [.int x.stock, tupI x.coming]
def _root_.SR.DRow.d (r : DRow) : D := .tup [.int r.came, .int r.spilled, .int r.missed, .int r.stock, .int r.ordered]
def _root_.SR.DRow.d4 (r : DRow) : D := .tup [.int r.came, .int r.spilled, .int r.missed, .int r.ordered]
theorem str_fill (b : Bool) : decide (kindS b = ("fill" : Str)) = b := by
  cases b with
  | true => exact decide_eq_true rfl
  | false => exact decide_eq_false lots_fill
def S_amount_for : SpT := fun ds W O _ => ∃ (s : Sto) (p : Int), ds = [s.d, .int p] ∧ s.ok ∧ O (.int (amount s p)) W
theorem ok_amount_for (F : Fun K "amount_for" "amount_for" s_amount_for f fd) (hm : mg "amount_for" = some (.ref f)) (hb : Binds K fd ["store", "position"] []) : Cal P w K mg base 1 "amount_for" ["store", "position"] S_amount_for := by
  refine cal_mk F hm hb sc_amount_for (fun ds W O XC h => ?_) (fun cdv A outer s H E ds W O XC hr h => ?_)
  · obtain ⟨st, p, rfl, _⟩ := h
    rfl
  · obtain ⟨st, p, rfl, hs, h⟩ := h
    have s1 := hs.s1; have s18 := hs.s18
    refine xb_cons (xs_asg (xe_name 0 rfl (xg_tup rfl (xgs_cons (xg_name 2 sc_amount_for.nd (xgs_cons (xg_name 3 sc_amount_for.nd (xgs_cons (xg_name 4 sc_amount_for.nd (xgs_cons (xg_name 5 sc_amount_for.nd (xgs_cons (xg_name 6 sc_amount_for.nd (xgs_nil ?_))))))))))))))
    refine xb_cons (xs_if (xt_cmp (by simp) (xe_name 1 rfl (xe_name 5 rfl ⟨_, _, _, rfl, rfl, rfl, _, rfl, fun e => ?_, fun e => xb_nil ?_⟩))))
    · have e : p > st.level := by simpa using e
      unfold amount at h
      rw [if_pos e] at h
      exact xb_one (xs_ret (xe_int h))
    · have e : ¬ p > st.level := by simpa using e
      unfold amount at h
      rw [if_neg e] at h
      refine xb_cons (xs_if (xt_eqS (xe_name 4 rfl (xe_str ⟨_, rfl, _, rfl, fun e2 => ?_, fun e2 => xb_nil ?_⟩))))
      · rw [str_fill] at e2
        rw [if_pos e2] at h
        exact xb_one (xs_ret (xe_sub (xe_name 6 rfl (xe_name 1 rfl ⟨_, _, rfl, rfl, h⟩))))
      · rw [str_fill] at e2
        rw [if_neg (by rw [e2]; simp)] at h
        exact xb_one (xs_ret (xe_mul (xe_add (xe_div (xe_sub (xe_name 5 rfl (xe_name 1 rfl ⟨_, _, rfl, rfl, xe_name 6 rfl ⟨_, _, rfl, rfl, ⟨by omega, by omega⟩, xe_int (xe_name 6 rfl ⟨_, _, rfl, rfl, .inr ⟨by omega, by omega⟩, h⟩)⟩⟩)))))))
def S_with_order : SpT := fun ds W O _ => ∃ (s : Sto) (x : Int) (c : List Int), ds = [s.d, .int x, tupI c] ∧ s.ok ∧ c.length ≤ 100 ∧ O (withOrder s x c).d W
theorem ok_with_order (B : Bi mg) (c1 : Cal P w K mg base 1 "amount_for" ["store", "position"] S_amount_for) (F : Fun K "with_order" "with_order" s_with_order f fd) (hm : mg "with_order" = some (.ref f)) (hb : Binds K fd ["store", "stock", "coming"] []) : Cal P w K mg base 2 "with_order" ["store", "stock", "coming"] S_with_order := by
  refine cal_mk F hm hb sc_with_order (fun ds W O XC h => ?_) (fun cdv A outer s H E ds W O XC hr h => ?_)
  · obtain ⟨st, x, c, rfl, _⟩ := h
    rfl
  · obtain ⟨st, x, c, rfl, hs, hl, h⟩ := h
    refine xb_one (xs_ret (xe_tup (xa_cons (xe_name 1 rfl (xa_cons (xe_add (xe_name 2 rfl (xe_tup (xa_cons (xe_call c1 hr passX (xa_cons (xe_name 0 rfl (xa_cons (xe_add (xe_name 1 rfl (xe_sum B.sum (xe_name 2 rfl ⟨c, rfl, xa_nil ⟨st, _, rfl, hs, xa_nil ⟨by simp, ⟨by simp; omega, xa_nil ⟨by simp, ?_⟩⟩⟩⟩⟩)))))))))))))))))
    rw [tupI_snoc]
    exact h
def S_begun : SpT := fun ds W O _ => ∃ (s : Sto) (x : Int), ds = [s.d, .int x] ∧ s.ok ∧ O (begunS s x).d W
theorem ok_begun (c1 : Cal P w K mg base 2 "with_order" ["store", "stock", "coming"] S_with_order) (F : Fun K "begun" "begun" s_begun f fd) (hm : mg "begun" = some (.ref f)) (hb : Binds K fd ["store", "start"] []) : Cal P w K mg base 3 "begun" ["store", "start"] S_begun := by
  refine cal_mk F hm hb sc_begun (fun ds W O XC h => ?_) (fun cdv A outer s H E ds W O XC hr h => ?_)
  · obtain ⟨st, x, rfl, _⟩ := h
    rfl
  · obtain ⟨st, x, rfl, hs, h⟩ := h
    have w1 := hs.w1; have w3 := hs.w3
    refine xb_one (xs_ret (xe_call c1 hr passX (xa_cons (xe_name 0 rfl (xa_cons (xe_name 1 rfl (xa_cons (xe_times (xe_tup (xa_cons (xe_int (xa_nil ⟨by simp, xe_sub (xe_ix (xe_name 0 rfl (xe_int ⟨_, rfl, xe_int ⟨_, _, rfl, rfl, by simp, by omega, by omega, by simp, xa_nil ⟨st, x, List.replicate (st.wait - 1).toNat 0, ?_, hs, by rw [List.length_replicate]; omega, h⟩⟩⟩)))⟩))))))))))))
    rw [flat_rep]
    show [st.d, D.int x, D.tup _] = [st.d, D.int x, D.tup _]
    rw [List.map_replicate]
theorem cut1 {α : Type} (c : α) (r : List α) : cutA (c :: r) (some 1) none = r := by
  unfold cutA
  rw [sIx_nat' _ _ _ (by decide), HT.sIx_none]
  rw [show min (1 : Int).toNat (c :: r).length = 1 by rw [List.length_cons]; show min 1 (r.length + 1) = 1; omega]
  show (List.take ((c :: r).length - 1) r) = r
  rw [List.length_cons, Nat.add_sub_cancel]
  exact List.take_length
theorem atlast {α : Type} (xs : List α) (v : α) : atI (xs ++ [v]) (-1) = some v := atI_last xs v
def S_next_day : SpT := fun ds W O _ => ∃ (s : Sto) (x : Sit) (d : Int), ds = [s.d, x.d, .int d] ∧ s.ok ∧ x.coming.length = s.wait.toNat ∧ O (.tup [(dayS s x d).d, (dayRow s x d).d4]) W
theorem ok_next_day (B : Bi mg) (c1 : Cal P w K mg base 2 "with_order" ["store", "stock", "coming"] S_with_order) (F : Fun K "next_day" "next_day" s_next_day f fd) (hm : mg "next_day" = some (.ref f)) (hb : Binds K fd ["store", "situation", "demand"] []) : Cal P w K mg base 3 "next_day" ["store", "situation", "demand"] S_next_day := by
  refine cal_mk F hm hb sc_next_day (fun ds W O XC h => ?_) (fun cdv A outer s H E ds W O XC hr h => ?_)
  · obtain ⟨st, x, d, rfl, _⟩ := h
    rfl
  · obtain ⟨st, ⟨x, cm⟩, d, rfl, hs, hl, h⟩ := h
    have w1 := hs.w1; have w3 := hs.w3
    cases cm with
    | nil => simp at hl; omega
    | cons c r =>
      have hl : r.length + 1 = st.wait.toNat := hl
      refine xb_cons (xs_asg (xe_name 1 rfl (xg_tup rfl (xgs_cons (xg_name 3 sc_next_day.nd (xgs_cons (xg_name 4 sc_next_day.nd (xgs_nil ?_))))))))
      refine xb_cons (xs_set 5 sc_next_day.nd (xe_min2 B.min (xe_ix (xe_name 0 rfl (xe_int ⟨_, rfl, xe_add (xe_name 3 rfl (xe_ix (xe_name 4 rfl (xe_int ⟨_, at0 _ _, _, _, rfl, rfl, ?_⟩))))⟩)))))
      refine xb_cons (xs_set 6 sc_next_day.nd (xe_sub (xe_add (xe_name 3 rfl (xe_ix (xe_name 4 rfl (xe_int ⟨_, at0 _ _, xe_name 5 rfl ⟨_, _, rfl, rfl, ?_⟩⟩)))))))
      refine xb_cons (xs_set 7 sc_next_day.nd (xe_max2 B.max (xe_int (xe_sub (xe_name 2 rfl (xe_name 5 rfl ⟨_, _, rfl, rfl, _, _, rfl, rfl, ?_⟩))))))
      refine xb_cons (xs_set 8 sc_next_day.nd (xe_call c1 hr passX (xa_cons (xe_name 0 rfl (xa_cons (xe_add (xe_sub (xe_name 5 rfl (xe_name 2 rfl ⟨_, _, rfl, rfl, xe_name 7 rfl (xa_cons (xe_slice (xe_name 4 rfl (xe_int ⟨_, rfl, ?_⟩))))⟩)))))))))
      show XA _ _ _ _ _ _ _
      have e1 : D.tup (cutA (D.int c :: r.map D.int) (some 1) none) = tupI r := by rw [cut1]
      refine xa_nil ⟨st, min st.room (x + c) - d + max 0 (d - min st.room (x + c)), r, ?_, hs, by omega, ?_⟩
      · rw [show cutA (List.map D.int (c :: r)) (some 1) none = r.map D.int from cut1 _ _]
      refine xb_one (xs_ret (xe_tup (xa_cons (xe_name 8 rfl (xa_cons (xe_tup (xa_cons (xe_ix (xe_name 4 rfl (xe_int ⟨_, at0 _ _, xa_cons (xe_name 6 rfl (xa_cons (xe_name 7 rfl (xa_cons (xe_ix (xe_ix (xe_name 8 rfl (xe_int ⟨_, rfl, xe_neg (xe_int ⟨_, rfl, ?_⟩)⟩))))))))⟩))))))))))
      refine ⟨.int (amount st (min st.room (x + c) - d + max 0 (d - min st.room (x + c)) + r.sum)), ?_, xa_nil ⟨by simp, xa_nil ⟨by simp, h⟩⟩⟩
      show atI (List.map D.int (r ++ [_])) (-1) = _
      rw [List.map_append]
      exact atlast _ _

end Law
namespace Law
open PySem PySem.Spec PyProof.Rows L2 SR
variable {P : Program} {w : World} {K : PySem.W.Frag} {mg : Str → Option Value} {base : Heap} {f : Addr} {fd : FuncData}
/-! ### which demands may follow -/
theorem get_map {α : Type} {f : α → D} {l : List α} {i : Nat} {d : D} (h : (l.map f)[i]? = some d) : ∃ a, l[i]? = some a ∧ d = f a := by
  rw [List.getElem?_map] at h
  cases q : l[i]? with
  | none => rw [q] at h; cases h
  | some a => rw [q] at h; exact ⟨a, rfl, (Option.some.inj h).symm⟩
theorem take_step {α : Type} {l : List α} {i : Nat} {a : α} (h : l[i]? = some a) : l.take (i + 1) = l.take i ++ [a] := by
  rw [List.take_add_one, h]; rfl
theorem irange_len (lo hi : Int) : (irange lo hi).length = (hi + 1 - lo).toNat := by unfold irange; simp
def S_allowed : SpT := fun ds W O _ => ∃ (b : Bd) (r : List Int), ds = [b.d, tupI r] ∧ b.ok ∧ r.length ≤ 30 ∧ (∀ m ∈ r, b.low ≤ m ∧ m ≤ b.high) ∧ ∀ l, W l = none → O (.p l) (updO W l (.lst ((alB b r).map D.int)))
theorem fit_win {b : Bd} {r : List Int} {d : Int} (hr : ∀ m ∈ r, b.low ≤ m ∧ m ≤ b.high) (h0 : b.low ≤ d) (h1 : d ≤ b.high) : fitB b (r ++ [d]) = (List.range (r.length + 1)).all fun k => decide ((((wholeB b (r ++ [d])).drop k).take b.days.toNat).sum ≤ b.most) := by
  unfold fitB
  have e : ((r ++ [d]).all fun m => decide (b.low ≤ m) && decide (m ≤ b.high)) = true := by
    rw [List.all_eq_true]
    intro m hm
    rcases List.mem_append.mp hm with q | q
    · simpa using hr m q
    · simp at q; subst q; simpa using ⟨h0, h1⟩
  rw [e, List.length_append]
  rfl
theorem ok_allowed (B : Bi mg) (F : Fun K "allowed" "allowed" s_allowed f fd) (hm : mg "allowed" = some (.ref f)) (hb : Binds K fd ["bounds", "recent"] []) : Cal P w K mg base 1 "allowed" ["bounds", "recent"] S_allowed := by
  refine cal_mk F hm hb sc_allowed (fun ds W O XC h => ?_) (fun cdv A outer s H E ds W O XC hr h => ?_)
  · obtain ⟨b, r, rfl, _⟩ := h
    rfl
  · obtain ⟨b, r, rfl, hB, hl, hrr, h⟩ := h
    have := hB.l0; have := hB.lh; have := hB.h4; have := hB.d1; have := hB.d3
    refine xb_nox (E' := E0) (xb_cons (xs_asg (xe_name 0 rfl (xg_tup rfl (xgs_cons (xg_name 2 sc_allowed.nd (xgs_cons (xg_name 3 sc_allowed.nd (xgs_cons (xg_name 4 sc_allowed.nd (xgs_cons (xg_name 5 sc_allowed.nd (xgs_nil ?_)))))))))))))
    refine xb_cons (xs_set 6 sc_allowed.nd (xe_lst (xa_nil ⟨by simp, fun l hl2 => ?_⟩)))
    refine xb_cons (xs_for (fun i g' W' => ∃ y7 y8 y9, g' = [some b.d, some (tupI r), some (.int b.low), some (.int b.high), some (.int b.days), some (.int b.most), some (.p l), y7, y8, y9] ∧ W' = updO W l (.lst ((((irange b.low b.high).take i).filter fun d => fitB b (r ++ [d])).map D.int))) (xi_range2 B.range (xe_name 2 rfl (xe_add (xe_name 3 rfl (xe_int ⟨_, _, rfl, rfl, ⟨by omega, by omega, by omega, by omega⟩, ⟨_, _, _, rfl, rfl⟩, fun _ _ _ _ => trivial, ?_, ?_⟩))))))
    · rintro i d g' W' hd ⟨y7, y8, y9, rfl, rfl⟩
      rw [rangeD_irange] at hd
      obtain ⟨m, hm2, rfl⟩ := get_map hd
      have hmr := mem_irange.mp (List.mem_of_getElem? hm2)
      have ew : (r.map D.int ++ [D.int m]) ++ (List.replicate (b.days - 1).toNat [D.int b.low]).flatten = (wholeB b (r ++ [m])).map D.int := by
        rw [flat_rep]
        unfold wholeB
        rw [List.map_append, List.map_append, List.map_replicate]
        rfl
      refine xg_name 7 sc_allowed.nd (xb_cons (xs_set 8 sc_allowed.nd (xe_add (xe_add (xe_name 1 rfl (xe_tup (xa_cons (xe_name 7 rfl (xa_nil ⟨by simp, ⟨by simp; omega, ?_⟩⟩)))))))))
      refine xe_times (xe_tup (xa_cons (xe_name 2 rfl (xa_nil ⟨by simp, xe_sub (xe_name 4 rfl (xe_int ⟨b.days, 1, rfl, rfl, by simp, by omega, by omega, by simp, ⟨by simp [flat_rep]; omega, ?_⟩⟩))⟩))))
      rw [ew]
      refine xb_one (xs_if (xt_shr (xt_val (xe_all B.all (xe_lcP [("place", 9)] sc_allowed.nd (lcTg_name 9 sc_allowed.nd) (blkOk_by (N := n_allowed) (sc := defScope s_allowed) (by decide +kernel)) (xi_range1 B.range (xe_add (xe_len B.len (xe_name 1 rfl ⟨_, rfl, xe_int ?_⟩)))))))))
      refine ⟨_, rfl, by omega, by simp; omega, fun _ _ => trivial, by rw [rangeD_len]; simp; exact le1000 (by omega), fun x => some (.bl (decide ((((wholeB b (r ++ [m])).drop (iv x).toNat).take b.days.toNat).sum ≤ b.most))), fun i x W2 hx hs => ?_, fun l3 hl3 => ?_⟩
      · obtain ⟨hi, rfl⟩ := mem_rangeD hx
        refine ⟨_, rfl, fun s H C cl fp => ⟨Sub.refl _, fun _ s H C cl fp => ?_, fun z => by cases z⟩⟩
        refine ex_cmp (by simp) (xe_sum B.sum (xe_slice (xe_name 8 rfl (xe_name 9 rfl ⟨_, rfl, xe_add (xe_name 9 rfl (xe_name 4 rfl ⟨_, rfl, ?_⟩))⟩))))
        refine ⟨((wholeB b (r ++ [m])).drop i).take b.days.toNat, ?_, xe_name 5 rfl ⟨_, _, _, rfl, rfl, rfl, Sub.refl _, ?_⟩⟩
        · show List.map D.int _ = _
          rw [cutA_nat _ _ _ (by omega) (by omega), List.map_take, List.map_drop]
          simp
        · rfl
      · refine ⟨l3, (List.range (r.length + 1)).map fun k => decide ((((wholeB b (r ++ [m])).drop k).take b.days.toNat).sum ≤ b.most), rfl, ?_, _, rfl, _, Sub.new hl3, fun e => ?_, fun e => xb_nil ?_⟩
        · rw [updO_same, filterMap_some', rangeD_map, List.map_map, List.map_map, show ((((r.map D.int).length : Nat) : Int) + 1).toNat = r.length + 1 by simp]
          rfl
        · rw [all_map_id, ← fit_win hrr hmr.1 hmr.2] at e
          refine xb_one (xs_expr (xe_append (xe_name 6 rfl ⟨l, _, rfl, updO_same, xe_name 7 rfl ⟨_, updO_same, ?_, ?_⟩⟩)))
          · refine small1000 ?_
            rw [List.length_map]
            have h1 := List.length_filter_le (fun d => fitB b (r ++ [d])) ((irange b.low b.high).take i)
            have h2 := irange_len b.low b.high
            rw [List.length_take] at h1
            omega
          · rw [updO_updO]
            refine ⟨_, _, _, rfl, ?_⟩
            rw [take_step hm2, List.filter_append, List.filter_cons_of_pos (by simpa using e), List.filter_nil, List.map_append]
            rfl
        · rw [all_map_id, ← fit_win hrr hmr.1 hmr.2] at e
          refine ⟨_, _, _, rfl, ?_⟩
          rw [take_step hm2, List.filter_append, List.filter_cons_of_neg (by simp [e]), List.filter_nil, List.append_nil]
    · rintro g' W' ⟨y7, y8, y9, rfl, rfl⟩
      rw [rangeD_len, ← irange_len, List.take_length]
      exact xb_one (xs_ret (xe_name 6 rfl (h l hl2)))
/-! ### after -/
def S_after : SpT := fun ds W O _ => ∃ (b : Bd) (r : List Int) (d : Int), ds = [b.d, tupI r, .int d] ∧ b.ok ∧ r.length ≤ 30 ∧ O (tupI (recB b (r ++ [d]))) W
theorem cut_neg {α : Type} (xs : List α) (v : Int) (hv : v < 0) : cutA xs (some v) none = xs.drop (xs.length - (-v).toNat) := by
  unfold cutA
  rw [HT.sIx_none]
  have : HT.sIx xs.length 0 (some v) = xs.length - (-v).toNat := by
    show (if v < 0 then (v + (xs.length : Int)).toNat else min v.toNat xs.length) = _
    rw [if_pos hv]; omega
  rw [this]
  exact List.take_of_length_le (by rw [List.length_drop]; omega)
theorem ok_after (F : Fun K "after" "after" s_after f fd) (hm : mg "after" = some (.ref f)) (hb : Binds K fd ["bounds", "recent", "demand"] []) : Cal P w K mg base 1 "after" ["bounds", "recent", "demand"] S_after := by
  refine cal_mk F hm hb sc_after (fun ds W O XC h => ?_) (fun cdv A outer s H E ds W O XC hr h => ?_)
  · obtain ⟨b, r, d, rfl, _⟩ := h
    rfl
  · obtain ⟨b, r, d, rfl, hB, hl, h⟩ := h
    have := hB.d1; have := hB.d3
    refine xb_cons (xs_set 3 sc_after.nd (xe_ix (xe_name 0 rfl (xe_int ⟨_, rfl, ?_⟩))))
    refine xb_one (xs_ret (xe_if (xt_cmp (by simp) (xe_name 3 rfl (xe_int ⟨_, _, _, rfl, rfl, rfl, _, rfl, fun e => ?_, fun e => ?_⟩)))))
    · have e : b.days > 1 := by simpa using e
      refine xe_slice (xe_add (xe_name 1 rfl (xe_tup (xa_cons (xe_name 2 rfl (xa_nil ⟨by simp, ⟨by simp; omega, xe_sub (xe_int (xe_name 3 rfl ⟨_, _, rfl, rfl, ⟨_, rfl, ?_⟩⟩))⟩⟩))))))
      show O (D.tup (cutA (r.map D.int ++ [D.int d]) (some (1 - b.days)) none)) W
      rw [cut_neg _ _ (by omega)]
      have e2 : (r.map D.int ++ [D.int d]) = (r ++ [d]).map D.int := by rw [List.map_append]; rfl
      rw [e2, ← List.map_drop, List.length_map, show (-(1 - b.days)).toNat = (b.days - 1).toNat by omega]
      exact h
    · have e : b.days = 1 := by
        have : ¬ b.days > 1 := by simpa using e
        omega
      refine xe_tup (xa_nil ⟨by simp, ?_⟩)
      have : recB b (r ++ [d]) = [] := by unfold recB; rw [e]; exact List.drop_eq_nil_of_le (by simp)
      rw [this] at h
      exact h
/-! ### nodes -/
def _root_.SR.Node.d (n : Node) : D := .tup [n.s.d, tupI n.r]
def nodeK (n : Node) : NestedKey := .tup [.tup [.num n.s.stock, .tup (n.s.coming.map .num)], .tup (n.r.map .num)]
theorem kDs_num : ∀ l : List Int, kDs (l.map .num) = l.map D.int
  | [] => by simp [kDs]
  | a :: r => by simp [kDs, kD, kDs_num r]
theorem kD_node (n : Node) : kD (nodeK n) = n.d := by
  unfold nodeK Node.d Sit.d tupI
  simp only [kD, kDs, kDs_num]
theorem depth_num : ∀ l : List Int, NestedKey.depthAll (l.map .num) = 0
  | [] => by simp [NestedKey.depthAll]
  | a :: r => by simp [NestedKey.depthAll, NestedKey.depth, depth_num r]
theorem keyD_node (n : Node) : KeyD n.d (nodeK n) := by
  refine ⟨(kD_node n).symm, ?_, _, rfl⟩
  unfold nodeK
  simp [NestedKey.depth, NestedKey.depthAll, depth_num]
theorem num_inj : ∀ {a b : List Int}, a.map NestedKey.num = b.map NestedKey.num → a = b
  | [], [], _ => rfl
  | [], _ :: _, h => by cases h
  | _ :: _, [], h => by cases h
  | x :: a, y :: b, h => by
    rw [List.map_cons, List.map_cons, List.cons.injEq, NestedKey.num.injEq] at h
    rw [h.1, num_inj h.2]
theorem nodeK_inj {n m : Node} (h : nodeK n = nodeK m) : n = m := by
  obtain ⟨⟨x, c⟩, r⟩ := n
  obtain ⟨⟨x2, c2⟩, r2⟩ := m
  simp only [nodeK, NestedKey.tup.injEq, List.cons.injEq, NestedKey.num.injEq, and_true] at h
  obtain ⟨⟨rfl, hc⟩, hr⟩ := h
  rw [num_inj hc, num_inj hr]

end Law
namespace Law
open PySem PySem.Spec PyProof.Rows L2 SR
variable {P : Program} {w : World} {K : PySem.W.Frag} {mg : Str → Option Value} {base : Heap} {f : Addr} {fd : FuncData}
def S_first_node : SpT := fun ds W O _ => ∃ (s : Sto) (x : Int), ds = [s.d, .int x] ∧ s.ok ∧ O (begN s x).d W
theorem ok_first_node (c1 : Cal P w K mg base 3 "begun" ["store", "start"] S_begun) (F : Fun K "first_node" "first_node" s_first_node f fd) (hm : mg "first_node" = some (.ref f)) (hb : Binds K fd ["store", "start"] []) : Cal P w K mg base 4 "first_node" ["store", "start"] S_first_node := by
  refine cal_mk F hm hb sc_first_node (fun ds W O XC h => ?_) (fun cdv A outer s H E ds W O XC hr h => ?_)
  · obtain ⟨st, x, rfl, _⟩ := h
    rfl
  · obtain ⟨st, x, rfl, hs, h⟩ := h
    exact xb_one (xs_ret (xe_tup (xa_cons (xe_call c1 hr passX (xa_cons (xe_name 0 rfl (xa_cons (xe_name 1 rfl (xa_nil ⟨st, x, rfl, hs, xa_cons (xe_tup (xa_nil ⟨by simp, xa_nil ⟨by simp, h⟩⟩))⟩)))))))))
/-! ### steps_from -/
def stepD (s : Sto) (b : Bd) (n : Node) (d : Int) : D := .tup [.int d, (stepN s b n d).d, (dayRow s n.s d).d4]
def S_steps_from : SpT := fun ds W O _ => ∃ (s : Sto) (b : Bd) (n : Node), ds = [s.d, b.d, n.d] ∧ s.ok ∧ b.ok ∧ NodeOk s b n ∧ ∀ l, W l = none → O (.p l) (updO W l (.lst ((alN b n).map (stepD s b n))))
theorem alB_len (b : Bd) (hb : b.ok) (r : List Int) : (alB b r).length ≤ 5 := by
  unfold alB
  have h1 := List.length_filter_le (fun d => fitB b (r ++ [d])) (irange b.low b.high)
  rw [irange_len] at h1
  have := hb.l0; have := hb.h4
  omega
theorem ok_steps_from (c1 : Cal P w K mg base 1 "allowed" ["bounds", "recent"] S_allowed) (c2 : Cal P w K mg base 3 "next_day" ["store", "situation", "demand"] S_next_day) (c3 : Cal P w K mg base 1 "after" ["bounds", "recent", "demand"] S_after)
    (F : Fun K "steps_from" "steps_from" s_steps_from f fd) (hm : mg "steps_from" = some (.ref f)) (hb : Binds K fd ["store", "bounds", "node"] []) : Cal P w K mg base 4 "steps_from" ["store", "bounds", "node"] S_steps_from := by
  refine cal_mk F hm hb sc_steps_from (fun ds W O XC h => ?_) (fun cdv A outer s H E ds W O XC hr h => ?_)
  · obtain ⟨st, b, n, rfl, _⟩ := h
    rfl
  · obtain ⟨st, b, n, rfl, hs, hB, hn, h⟩ := h
    have := hB.d3
    have hrl : n.r.length ≤ 30 := by have := hn.rl; omega
    refine xb_nox (E' := E0) (xb_cons (xs_asg (xe_name 2 rfl (xg_tup rfl (xgs_cons (xg_name 3 sc_steps_from.nd (xgs_cons (xg_name 4 sc_steps_from.nd (xgs_nil ?_)))))))))
    refine xb_cons (xs_set 5 sc_steps_from.nd (xe_lst (xa_nil ⟨by simp, fun l hl2 => ?_⟩)))
    refine xb_cons (xs_forL (xi_lst (xe_call c1 (hr.mono (by decide)) pass0X (xa_cons (xe_name 1 rfl (xa_cons (xe_name 4 rfl (xa_nil ⟨b, n.r, rfl, hB, hrl, hn.rf, fun l1 h1 => ?_⟩))))))))
    have n1 : l ≠ l1 := neO updO_same h1
    refine ⟨l1, _, rfl, updO_same, fun i g' W' => ∃ y6 y7 y8, g' = [some st.d, some b.d, some n.d, some n.s.d, some (tupI n.r), some (.p l), y6, y7, y8] ∧ W' = updO (updO W l (.lst (((alB b n.r).take i).map (stepD st b n)))) l1 (.lst ((alB b n.r).map D.int)), ⟨_, _, _, rfl, rfl⟩, fun i g' W' ⟨_, _, _, _, e⟩ => by rw [e]; exact updO_same, ?_, ?_⟩
    · rintro i d g' W' hd ⟨y6, y7, y8, rfl, rfl⟩
      obtain ⟨m, hm2, rfl⟩ := get_map hd
      refine xg_name 6 sc_steps_from.nd (xb_cons (xs_asg (xe_call c2 hr pass0X (xa_cons (xe_name 0 rfl (xa_cons (xe_name 3 rfl (xa_cons (xe_name 6 rfl (xa_nil ⟨st, n.s, m, rfl, hs, hn.sit.len, ?_⟩))))))))))
      refine xg_tup rfl (xgs_cons (xg_name 7 sc_steps_from.nd (xgs_cons (xg_name 8 sc_steps_from.nd (xgs_nil ?_)))))
      refine xb_one (xs_expr (xe_append (xe_name 5 rfl ⟨l, _, rfl, by rw [updO_ne n1, updO_same], xe_tup (xa_cons (xe_name 6 rfl (xa_cons (xe_tup (xa_cons (xe_name 7 rfl (xa_cons (xe_call c3 (hr.mono (by decide)) pass0X (xa_cons (xe_name 1 rfl (xa_cons (xe_name 4 rfl (xa_cons (xe_name 6 rfl (xa_nil ⟨b, n.r, m, rfl, hB, hrl, xa_nil ⟨by simp, xa_cons (xe_name 8 rfl (xa_nil ⟨by simp, _, by rw [updO_ne n1, updO_same], ?_, ?_⟩))⟩⟩)))))))))))))))⟩)))
      · have := alB_len b hB n.r
        rw [List.length_map, List.length_take]
        exact small1000 (by omega)
      · refine ⟨_, _, _, rfl, ?_⟩
        rw [updO_comm (Ne.symm n1), updO_updO, take_step hm2, List.map_append]
        rfl
    · rintro g' W' ⟨y6, y7, y8, rfl, rfl⟩
      rw [List.length_map, List.take_length]
      exact xb_one (xs_ret (xe_shr (xe_name 5 rfl ⟨_, Sub.new (by rw [updO_ne (Ne.symm n1)]; rw [updO_ne (Ne.symm n1)] at h1; exact h1), h l hl2⟩)))

end Law
namespace Law
open PySem PySem.Spec PyProof.Rows L2 SR
variable {P : Program} {w : World} {K : PySem.W.Frag} {mg : Str → Option Value} {base : Heap} {f : Addr} {fd : FuncData}
/-! ### all nodes -/
def entD (M : List (Ent Node)) : List (NestedKey × D) := M.map fun e => (nodeK e.1, tupI e.2)
def nodesD (L : List (Ent Node)) : List D := L.map fun e => e.1.d
theorem look_ent : ∀ (M : List (Ent Node)) (n : Node), (lookN (entD M) (nodeK n)).isSome = keyIn M n
  | [], n => rfl
  | e :: M, n => by
    have ih := look_ent M n
    unfold lookN entD keyIn at *
    rw [List.map_cons, List.find?_cons, List.any_cons]
    by_cases h : e.1 = n
    · simp [h]
    · have h2 : nodeK e.1 ≠ nodeK n := fun z => h (nodeK_inj z)
      simp only [decide_eq_false h, decide_eq_false h2, Bool.false_or]
      exact ih
theorem look_mem : ∀ {M : List (Ent Node)} {n : Node} {es : List Int}, (M.map (·.1)).Nodup → (n, es) ∈ M → lookN (entD M) (nodeK n) = some (tupI es)
  | e :: M, n, es, hn, h => by
    rw [List.map_cons, List.nodup_cons] at hn
    unfold lookN entD
    rw [List.map_cons, List.find?_cons]
    rcases List.mem_cons.mp h with rfl | h
    · simp
    · have h1 : e.1 ≠ n := fun z => hn.1 (by rw [z]; exact List.mem_map.mpr ⟨_, h, rfl⟩)
      have h2 : nodeK e.1 ≠ nodeK n := fun z => h1 (nodeK_inj z)
      simp only [decide_eq_false h2]
      exact look_mem hn.2 h
theorem put_ent {M : List (Ent Node)} {c : Ent Node} (h : keyIn M c.1 = false) : putN (entD M) (nodeK c.1) (tupI c.2) = entD (M ++ [c]) := by
  unfold putN
  rw [look_ent, h, if_neg Bool.false_ne_true]
  unfold entD
  rw [List.map_append]
  rfl
theorem node_pln (n : Node) : Pln 3 n.d := .tup fun x hx => by
  simp only [List.mem_cons, List.not_mem_nil, or_false] at hx
  rcases hx with rfl | rfl
  · exact .tup fun y hy => by
      simp only [List.mem_cons, List.not_mem_nil, or_false] at hy
      rcases hy with rfl | rfl
      · exact .int _
      · exact pln_ints 0 _
  · exact pln_ints 1 _
theorem okN_node {st : Sto} (h : st.ok) {b : Bd} (hb : b.ok) {x : Int} (h0 : 0 ≤ x) (h1 : x ≤ st.room) : ∀ ds, OkN (stepN st b) (alN b) (begN st x) ds → NodeOk st b (goN (stepN st b) (begN st x) ds) := by
  refine snoc_ind (fun _ => begN_ok h h0 h1) fun ds d ih ho => ?_
  obtain ⟨o1, o2⟩ := (okN_snoc _ _ _ ds d).mp ho
  rw [goN_snoc]
  have := mem_irange.mp (List.mem_filter.mp o2).1
  exact stepN_ok h hb (ih o1) this.1 this.2
/-- between two levels -/
theorem part_ok {st : Sto} (h : st.ok) {b : Bd} (hb : b.ok) {x : Int} (h0 : 0 ≤ x) (h1 : x ≤ st.room) {M L : List (Ent Node)} {m : Nat} (bi : BI (stepN st b) (alN b) (begN st x) M L m) {C : List (Ent Node)} (hC : ∀ c ∈ C, c ∈ candsN (stepN st b) (alN b) L) :
    (∃ N, C.foldl addC M = M ++ N) ∧ ((C.foldl addC M).map (·.1)).Nodup ∧ (∀ e ∈ C.foldl addC M, NodeOk st b e.1) ∧ (C.foldl addC M).length ≤ maxN := by
  obtain ⟨N, e, hs, hn⟩ := foldC_new C M
  have nd := hn bi.nd
  have ok : ∀ e ∈ M ++ N, NodeOk st b e.1 := fun y hy => by
    rcases List.mem_append.mp hy with hy | hy
    · obtain ⟨o1, o2⟩ := bi.ok y hy
      rw [← o2]; exact okN_node h hb h0 h1 _ o1
    · obtain ⟨z, hz, hy2⟩ := List.mem_flatMap.mp (hC y (hs.subset hy))
      obtain ⟨d, hd, rfl⟩ := List.mem_map.mp hy2
      obtain ⟨o1, o2⟩ := bi.ok z (bi.sub z hz)
      have := mem_irange.mp (List.mem_filter.mp hd).1
      exact stepN_ok h hb (by rw [← o2]; exact okN_node h hb h0 h1 _ o1) this.1 this.2
  rw [e]
  refine ⟨⟨N, rfl⟩, nd, ok, ?_⟩
  have := nodes_few h hb nd fun n hn => by
    obtain ⟨y, hy, rfl⟩ := List.mem_map.mp hn
    exact ok y hy
  rwa [List.length_map] at this
theorem cands_take {N : Type} [DecidableEq N] {nx : N → Int → N} {al : N → List Int} {L : List (Ent N)} {i : Nat} {e : Ent N} (h : L[i]? = some e) : candsN nx al (L.take (i + 1)) = candsN nx al (L.take i) ++ candN nx al e := by
  rw [take_step h]
  unfold candsN
  rw [List.flatMap_append, List.flatMap_cons, List.flatMap_nil, List.append_nil]
theorem u9 {n : Nat} (h : n + 64 < cLine) : n + 9 < cLine := by omega
def S_all_nodes (w : World) : SpT := fun ds W O _ => ∃ (s : Sto) (x : Int) (b : Bd), ds = [s.d, .int x, b.d] ∧ s.ok ∧ 0 ≤ x ∧ x ≤ s.room ∧ b.ok ∧ ∀ M, MetB s x b M → M.length ≤ maxN → (∀ e ∈ M, NodeOk s b e.1 ∧ e.2.length ≤ maxN) → ∀ p, W p = none → O (.p p) (updO W p (.dic w (entD M)))
theorem max_line {n : Nat} (h : n ≤ maxN) : n + 1 < sizeLine := by rw [sizeLine_eq]; unfold maxN at h; omega
theorem ok_all_nodes (c1 : Cal P w K mg base 4 "first_node" ["store", "start"] S_first_node) (c2 : Cal P w K mg base 4 "steps_from" ["store", "bounds", "node"] S_steps_from)
    (F : Fun K "all_nodes" "all_nodes" s_all_nodes f fd) (hm : mg "all_nodes" = some (.ref f)) (hb : Binds K fd ["store", "start", "bounds"] []) : Cal P w K mg base 5 "all_nodes" ["store", "start", "bounds"] (S_all_nodes w) := by
  refine cal_mk F hm hb sc_all_nodes (fun ds W O XC h => ?_) (fun cdv A outer s H E ds W O XC hr h => ?_)
  · obtain ⟨st, x, b, rfl, _⟩ := h
    rfl
  · obtain ⟨st, x, b, rfl, hs, hx0, hx1, hB, h⟩ := h
    have hu := hr.units
    refine xb_nox (E' := E0) (xb_cons (xs_set 3 sc_all_nodes.nd (xe_call c1 hr pass0X (xa_cons (xe_name 0 rfl (xa_cons (xe_name 1 rfl (xa_nil ⟨st, x, rfl, hs, ?_⟩))))))))
    refine xb_cons (xs_par 4 5 sc_all_nodes.nd (xa_cons (xe_kone (u9 hu) (fun pm hpm => xe_name 3 rfl (xe_tup (xa_nil ⟨by simp, nodeK (begN st x), keyD_node _, updO_same, xa_cons (xe_lst (xa_cons (xe_name 3 rfl (xa_nil ⟨by simp, fun pl hpl => xa_nil ⟨_, _, rfl, ?_⟩⟩))))⟩))))))
    rw [updO_updO] at hpl ⊢
    have n1 : pm ≠ pl := neO updO_same hpl
    refine xb_cons (xs_while (fun k g' W' => ∃ (M L : List (Ent Node)) (m : Nat) (pl : Addr) (y6 y7 y8 y9 y10 : Option D), g' = [some st.d, some (.int x), some b.d, some (begN st x).d, some (.p pm), some (.p pl), y6, y7, y8, y9, y10] ∧ BI (stepN st b) (alN b) (begN st x) M L m ∧ (m ≤ M.length ∧ (L ≠ [] → m < M.length)) ∧ SR.Sub W W' ∧ W' pm = some (.dic w (entD M)) ∧ W' pl = some (.lst (nodesD L)) ∧ k = if L = [] then 0 else maxN + 1 - M.length) maxN ⟨[(begN st x, [])], [(begN st x, [])], 0, pl, _, _, _, _, _, rfl, bi_start _ _ _, ⟨by simp, fun _ => by simp⟩, (Sub.new hpm).trans (Sub.new hpl), by rw [updO_ne n1, updO_same]; rfl, updO_same, by simp⟩ fun k g' W' ⟨M, L, m, pl, y6, y7, y8, y9, y10, eg, bi, ⟨hm1, hm2⟩, hsub, hpm', hpl', hk⟩ => ?_)
    subst eg
    refine xt_shr (xt_ne hu (xe_name 5 rfl (xe_lst (xa_nil ⟨by simp, fun l0 hl0 => neD_lst (n := 3) (m := 0) (Sub.new hl0 _ _ hpl') updO_same (fun y hy => ?_) (fun y hy => by cases hy) (by decide) (by decide) (fun e => ⟨_, rfl, W', Sub.new hl0, fun z => (by cases z), fun _ => ?_⟩) (fun e => ⟨_, rfl, W', Sub.new hl0, fun _ => ?_, fun z => by cases z⟩)⟩))))
    · obtain ⟨z, _, rfl⟩ := List.mem_map.mp hy
      exact node_pln _
    · -- all done
      have eL : L = [] := List.map_eq_nil_iff.mp e
      subst eL
      have met := bi_end _ _ _ bi
      have pk := part_ok hs hB hx0 hx1 bi (C := []) (fun c hc => by cases hc)
      refine xb_one (xs_ret (xe_shr (xe_name 4 rfl ⟨_, sub_upd hsub hpm', h M met pk.2.2.2 (fun e he => ⟨pk.2.2.1 e he, ?_⟩) pm hpm⟩)))
      have h1 := bi.le e he
      have h2 : M.length ≤ maxN := pk.2.2.2
      omega
    · -- a level
      have eL : L ≠ [] := fun z => e (by rw [z]; rfl)
      have hk2 : k = maxN + 1 - M.length := by rw [hk, if_neg eL]
      have pm_pl : pm ≠ pl := fun z => by rw [z, hpl'] at hpm'; cases hpm'
      refine xb_cons (xs_set 6 sc_all_nodes.nd (xe_lst (xa_nil ⟨by simp, fun pl2 h2 => ?_⟩)))
      have pm_p2 : pm ≠ pl2 := neO hpm' h2
      have pl_p2 : pl ≠ pl2 := neO hpl' h2
      have free2 : W pl2 = none := hsub.free h2
      refine xb_cons (xs_for (fun i g' W2 => ∃ (y7 y8 y9 y10 : Option D), g' = [some st.d, some (.int x), some b.d, some (begN st x).d, some (.p pm), some (.p pl), some (.p pl2), y7, y8, y9, y10] ∧ SR.Sub W W2 ∧ W2 pm = some (.dic w (entD ((candsN (stepN st b) (alN b) (L.take i)).foldl addC M))) ∧ W2 pl = some (.lst (nodesD L)) ∧ W2 pl2 = some (.lst (nodesD (((candsN (stepN st b) (alN b) (L.take i)).foldl addC M).drop M.length)))) (xi_lst (xe_name 5 rfl ⟨pl, _, rfl, by rw [updO_ne pl_p2]; exact hpl', ⟨_, _, _, _, rfl, sub_in hsub free2, by rw [updO_ne pm_p2]; exact hpm', by rw [updO_ne pl_p2]; exact hpl', ?_⟩, fun i g' W2 ⟨_, _, _, _, _, _, _, q, _⟩ => q, ?_, ?_⟩)))
      · rw [updO_same]
        show _ = some (Ob.lst (nodesD (M.drop M.length)))
        rw [List.drop_length]
        rfl
      · rintro i d g' W2 hd ⟨y7, y8, y9, y10, rfl, hsub2, q1, q2, q3⟩
        obtain ⟨⟨n, es⟩, he, rfl⟩ := get_map hd
        have heL : (n, es) ∈ L := List.mem_of_getElem? he
        have heM := bi.sub _ heL
        have hes : es.length = m := bi.lev _ heL
        have nok : NodeOk st b n := (part_ok hs hB hx0 hx1 bi (C := []) (fun c hc => by cases hc)).2.2.1 _ heM
        refine xg_name 7 sc_all_nodes.nd (xb_one (xs_forL (xi_lst (xe_call c2 hr pass0X (xa_cons (xe_name 0 rfl (xa_cons (xe_name 2 rfl (xa_cons (xe_name 7 rfl (xa_nil ⟨st, b, n, rfl, hs, hB, nok, fun ls hls => ?_⟩)))))))))))
        have pm_ls : pm ≠ ls := neO q1 hls
        have pl_ls : pl ≠ ls := neO q2 hls
        have p2_ls : pl2 ≠ ls := neO q3 hls
        have cm : ∀ j, ∀ c ∈ candsN (stepN st b) (alN b) (L.take i) ++ (candN (stepN st b) (alN b) (n, es)).take j, c ∈ candsN (stepN st b) (alN b) L := fun j c hc => by
          rcases List.mem_append.mp hc with hc | hc
          · obtain ⟨z, hz, hc⟩ := List.mem_flatMap.mp hc
            exact List.mem_flatMap.mpr ⟨z, List.mem_of_mem_take hz, hc⟩
          · exact List.mem_flatMap.mpr ⟨_, heL, List.mem_of_mem_take hc⟩
        refine ⟨ls, _, rfl, updO_same, fun j g' W3 => ∃ (y8 y9 y10 : Option D), g' = [some st.d, some (.int x), some b.d, some (begN st x).d, some (.p pm), some (.p pl), some (.p pl2), some n.d, y8, y9, y10] ∧ SR.Sub W W3 ∧ W3 pm = some (.dic w (entD ((candsN (stepN st b) (alN b) (L.take i) ++ (candN (stepN st b) (alN b) (n, es)).take j).foldl addC M))) ∧ W3 pl = some (.lst (nodesD L)) ∧ W3 pl2 = some (.lst (nodesD (((candsN (stepN st b) (alN b) (L.take i) ++ (candN (stepN st b) (alN b) (n, es)).take j).foldl addC M).drop M.length))) ∧ W3 ls = some (.lst ((alN b n).map (stepD st b n))), ⟨_, _, _, rfl, sub_in hsub2 (hsub2.free hls), ?_, by rw [updO_ne pl_ls]; exact q2, ?_, updO_same⟩, fun j g' W3 ⟨_, _, _, _, _, _, _, _, q⟩ => q, ?_, ?_⟩
        · rw [updO_ne pm_ls, List.take_zero, List.append_nil]; exact q1
        · rw [updO_ne p2_ls, List.take_zero, List.append_nil]; exact q3
        · rintro j dd g' W3 hd2 ⟨y8, y9, y10, rfl, hsub3, r1, r2, r3, r4⟩
          obtain ⟨dm, hdm, rfl⟩ := get_map hd2
          have hcj : (candN (stepN st b) (alN b) (n, es))[j]? = some (stepN st b n dm, es ++ [dm]) := by
            unfold candN
            rw [List.getElem?_map, hdm]; rfl
          obtain ⟨⟨N, eN⟩, nd, oks, few⟩ := part_ok hs hB hx0 hx1 bi (cm j)
          have est : (candsN (stepN st b) (alN b) (L.take i) ++ (candN (stepN st b) (alN b) (n, es)).take (j + 1)).foldl addC M = addC ((candsN (stepN st b) (alN b) (L.take i) ++ (candN (stepN st b) (alN b) (n, es)).take j).foldl addC M) (stepN st b n dm, es ++ [dm]) := by
            rw [take_step hcj, ← List.append_assoc, List.foldl_append]
            rfl
          generalize hMij : (candsN (stepN st b) (alN b) (L.take i) ++ (candN (stepN st b) (alN b) (n, es)).take j).foldl addC M = Mij at r1 r3 est eN nd oks few
          refine xg_tup rfl (xgs_cons (xg_name 8 sc_all_nodes.nd (xgs_cons (xg_name 9 sc_all_nodes.nd (xgs_cons (xg_name 10 sc_all_nodes.nd (xgs_nil ?_)))))))
          have hmem : (n, es) ∈ Mij := by rw [eN]; exact List.mem_append_left _ heM
          refine xb_one (xs_if (xt_knotin (u9 hu) (xe_name 9 rfl (xe_name 4 rfl ⟨pm, _, nodeK (stepN st b n dm), rfl, keyD_node _, .inl r1, fun e => ?_, fun e => xb_nil ?_⟩))))
          · have hk3 : keyIn Mij (stepN st b n dm) = false := by rw [look_ent] at e; simpa using e
            have pm_p2' := pm_p2
            have eadd : addC Mij (stepN st b n dm, es ++ [dm]) = Mij ++ [(stepN st b n dm, es ++ [dm])] := by
              unfold addC; rw [if_neg (by rw [hk3]; exact Bool.false_ne_true)]
            refine xb_cons (xs_kput (u9 hu) (xe_addT (xe_kget (u9 hu) (xe_name 4 rfl (xe_name 7 rfl ⟨pm, _, nodeK n, _, rfl, keyD_node _, .inl r1, look_mem nd hmem, xe_tup (xa_cons (xe_name 8 rfl (xa_nil ⟨by simp, _, _, rfl, rfl, ?_, xe_name 4 rfl (xe_name 9 rfl ⟨pm, _, nodeK (stepN st b n dm), rfl, keyD_node _, r1, ?_, ?_⟩)⟩)))⟩)))))
            · have := max_line few
              have h3 : M.length ≤ Mij.length := by rw [eN, List.length_append]; omega
              have h4 := hm2 eL
              simp only [List.length_map, List.length_singleton]
              omega
            · have := max_line few
              unfold entD; rw [List.length_map]; omega
            · refine xb_one (xs_expr (xe_append (xe_name 6 rfl ⟨pl2, _, rfl, by rw [updO_ne (Ne.symm pm_p2)]; exact r3, xe_name 9 rfl ⟨_, by rw [updO_ne (Ne.symm pm_p2)]; exact r3, ?_, ?_⟩⟩)))
              · have := max_line few
                unfold nodesD; rw [List.length_map, List.length_drop]; omega
              · have p2_ls' := p2_ls
                refine ⟨_, _, _, rfl, sub_in (sub_in hsub3 hpm) free2, ?_, ?_, ?_, ?_⟩
                · rw [updO_ne pm_p2, updO_same, est, eadd]
                  have ep := put_ent (c := (stepN st b n dm, es ++ [dm])) hk3
                  simp only [tupI, List.map_append] at ep
                  rw [← ep]
                  rfl
                · rw [updO_ne pl_p2, updO_ne (Ne.symm pm_pl)]; exact r2
                · rw [updO_same, est, eadd, List.drop_append_of_le_length (by rw [eN, List.length_append]; omega)]
                  unfold nodesD
                  rw [List.map_append]
                  rfl
                · rw [updO_ne (Ne.symm p2_ls), updO_ne (Ne.symm pm_ls)]; exact r4
          · have hk3 : keyIn Mij (stepN st b n dm) = true := by rw [look_ent] at e; simpa using e
            have eadd : addC Mij (stepN st b n dm, es ++ [dm]) = Mij := by
              unfold addC; rw [if_pos hk3]
            refine ⟨_, _, _, rfl, hsub3, ?_, r2, ?_, r4⟩
            · rw [est, eadd]; exact r1
            · rw [est, eadd]; exact r3
        · rintro g' W3 ⟨y8, y9, y10, rfl, hsub3, r1, r2, r3, r4⟩
          have ec := cands_take (nx := stepN st b) (al := alN b) he
          have el : ((alN b n).map (stepD st b n)).length = (candN (stepN st b) (alN b) (n, es)).length := by unfold candN; rw [List.length_map, List.length_map]
          rw [el, List.take_length] at r1 r3
          refine ⟨_, _, _, _, rfl, hsub3, ?_, r2, ?_⟩
          · rw [ec]; exact r1
          · rw [ec]; exact r3
      · rintro g' W2 ⟨y7, y8, y9, y10, rfl, hsub2, q1, q2, q3⟩
        unfold nodesD at q1 q3
        rw [List.length_map, List.take_length] at q1 q3
        obtain ⟨L', eL', bi'⟩ := bi_step (stepN st b) (alN b) (begN st x) (alN_asc b) bi
        rw [eL'] at q1 q3
        rw [List.drop_left] at q3
        have few := (part_ok hs hB hx0 hx1 bi' (C := []) (fun c hc => by cases hc)).2.2.2
        have few' : (M ++ L').length ≤ maxN := few
        rw [List.length_append] at few'
        have := hm2 eL
        refine xb_one (xs_set 5 sc_all_nodes.nd (xe_name 6 rfl ⟨_, ?_, M ++ L', L', m + 1, pl2, _, _, _, _, _, rfl, bi', ⟨?_, fun hne => ?_⟩, hsub2, q1, q3, rfl⟩))
        · rw [hk2]
          split
          · omega
          · rename_i hne
            have : 0 < L'.length := List.length_pos_iff.mpr hne
            rw [List.length_append]; omega
        · rw [List.length_append]; omega
        · have : 0 < L'.length := List.length_pos_iff.mpr hne
          rw [List.length_append]; omega

end Law
namespace Law
open PySem PySem.Spec PyProof.Rows L2 SR
variable {P : Program} {w : World} {K : PySem.W.Frag} {mg : Str → Option Value} {base : Heap} {f : Addr} {fd : FuncData}
/-! ### a store, a start, bounds -/
structure Arg3 (st : Sto) (x : Int) (b : Bd) : Prop where
  hs : st.ok
  x0 : 0 ≤ x
  x1 : x ≤ st.room
  hb : b.ok
def S_check_three : SpT := fun ds W O _ => ∃ (s : Sto) (x : Int) (b : Bd), ds = [s.d, .int x, b.d] ∧ Arg3 s x b ∧ O .non W
theorem ok_check_three {CS CI CB : Addr} (c1 : Cal P w K mg base 3 "check_store" ["value"] (S_check_store CS)) (c2 : Cal P w K mg base 2 "check_start" ["store", "start"] (S_check_start CI)) (c3 : Cal P w K mg base 3 "check_bounds" ["value"] (S_check_bounds CB))
    (F : Fun K "check_three" "check_three" s_check_three f fd) (hm : mg "check_three" = some (.ref f)) (hb : Binds K fd ["store", "start", "bounds"] []) : Cal P w K mg base 4 "check_three" ["store", "start", "bounds"] S_check_three := by
  refine cal_mk F hm hb sc_check_three (fun ds W O XC h => ?_) (fun cdv A outer s H E ds W O XC hr h => ?_)
  · obtain ⟨st, x, b, rfl, _⟩ := h
    rfl
  · obtain ⟨st, x, b, rfl, ⟨hs, h0, h1, hB⟩, h⟩ := h
    refine xb_cons (xs_expr (xe_call c1 hr passX (xa_cons (xe_name 0 rfl (xa_nil ⟨st.d, rfl, st.kn W, fun _ => ?_, fun e => by rw [Sto.is hs] at e; cases e⟩)))))
    refine xb_cons (xs_expr (xe_call c2 (hr.mono (by decide)) passX (xa_cons (xe_name 0 rfl (xa_cons (xe_name 1 rfl (xa_nil ⟨st, .int x, rfl, rfl, fun e => ?_, fun e => ?_⟩)))))))
    · exact xb_one (xs_expr (xe_call c3 hr passX (xa_cons (xe_name 2 rfl (xa_nil ⟨b.d, rfl, b.kn W, fun _ => h, fun e => by rw [Bd.is hB] at e; cases e⟩)))))
    · have : betw (.int x) 0 st.room = true := by simp [betw]; omega
      rw [this] at e; cases e

end Law
namespace Law
open PySem PySem.Spec PyProof.Rows L2 SR
variable {P : Program} {w : World} {K : PySem.W.Frag} {mg : Str → Option Value} {base : Heap} {f : Addr} {fd : FuncData}
/-! ### the first demands with a day of a kind -/
def bestC (best : Option (List Int)) (c : Bool × List Int) : Option (List Int) :=
  if c.1 = true then (match best with
    | none => some c.2
    | some b => if slt c.2 b then some c.2 else some b) else best
theorem best_fold : ∀ (C : List (Bool × List Int)) (b0 : Option (List Int)),
    (C.foldl bestC b0 = none → b0 = none ∧ ∀ c ∈ C, c.1 = false) ∧
    (∀ ds, C.foldl bestC b0 = some ds → (b0 = some ds ∨ (true, ds) ∈ C) ∧ (∀ b, b0 = some b → sle ds b) ∧ ∀ c ∈ C, c.1 = true → sle ds c.2)
  | [], b0 => ⟨fun h => ⟨h, fun c hc => by cases hc⟩, fun ds h => ⟨.inl h, fun b e => (by rw [show b0 = some ds from h] at e; cases e; exact sle_refl _), fun c hc => by cases hc⟩⟩
  | c :: C, b0 => by
    obtain ⟨h1, h2⟩ := best_fold C (bestC b0 c)
    rw [List.foldl_cons]
    refine ⟨fun h => ?_, fun ds h => ?_⟩
    · obtain ⟨h3, h4⟩ := h1 h
      unfold bestC at h3
      split at h3
      · split at h3
        · cases h3
        · split at h3 <;> cases h3
      · rename_i hc
        exact ⟨h3, fun x hx => by
          rcases List.mem_cons.mp hx with rfl | hx
          · simpa using hc
          · exact h4 x hx⟩
    · obtain ⟨h3, h4, h5⟩ := h2 ds h
      unfold bestC at h3 h4
      by_cases hc : c.1 = true
      · rw [if_pos hc] at h3 h4
        cases hb : b0 with
        | none =>
          rw [hb] at h3 h4
          refine ⟨.inr ?_, fun b e => (by cases e), fun x hx hx1 => ?_⟩
          · rcases h3 with e | e
            · simp at e; subst e
              rw [← hc]; exact List.mem_cons_self
            · exact List.mem_cons_of_mem _ e
          · rcases List.mem_cons.mp hx with rfl | hx
            · exact h4 _ rfl
            · exact h5 x hx hx1
        | some b =>
          rw [hb] at h3 h4
          simp only at h3 h4
          by_cases hs : slt c.2 b
          · rw [if_pos hs] at h3 h4
            have h6 := h4 _ rfl
            refine ⟨.inr ?_, fun b' e => (by cases e; exact sle_trans h6 (.inr hs)), fun x hx hx1 => ?_⟩
            · rcases h3 with e | e
              · simp at e; subst e
                rw [← hc]; exact List.mem_cons_self
              · exact List.mem_cons_of_mem _ e
            · rcases List.mem_cons.mp hx with rfl | hx
              · exact h6
              · exact h5 x hx hx1
          · rw [if_neg hs] at h3 h4
            have h6 := h4 _ rfl
            refine ⟨?_, fun b' e => (by cases e; exact h6), fun x hx hx1 => ?_⟩
            · rcases h3 with e | e
              · exact .inl e
              · exact .inr (List.mem_cons_of_mem _ e)
            · rcases List.mem_cons.mp hx with rfl | hx
              · rcases slt_tri b x.2 with q | q | q
                · exact sle_trans h6 (.inr q)
                · rw [← q]; exact h6
                · exact (hs q).elim
              · exact h5 x hx hx1
      · rw [if_neg hc] at h3 h4
        refine ⟨?_, h4, fun x hx hx1 => ?_⟩
        · rcases h3 with e | e
          · exact .inl e
          · exact .inr (List.mem_cons_of_mem _ e)
        · rcases List.mem_cons.mp hx with rfl | hx
          · exact (hc hx1).elim
          · exact h5 x hx hx1
def row4 (r : DRow) (i : Int) : Int := if i = 1 then r.spilled else if i = 2 then r.missed else r.ordered
theorem row4_ok {r : DRow} {i : Int} (h : i = 1 ∨ i = 2 ∨ i = 3) : atI [D.int r.came, .int r.spilled, .int r.missed, .int r.ordered] i = some (.int (row4 r i)) := by
  rcases h with rfl | rfl | rfl <;> rfl
def candW1 (s : Sto) (b : Bd) (pl : Int) (e : Ent Node) : List (Bool × List Int) := (alN b e.1).map fun d => (decide (row4 (dayRow s e.1.s d) pl > 0), e.2 ++ [d])
def candW (s : Sto) (b : Bd) (pl : Int) (M : List (Ent Node)) : List (Bool × List Int) := M.flatMap (candW1 s b pl)
structure FirstW (s : Sto) (x : Int) (b : Bd) (pl : Int) (r : Option (List Int)) : Prop where
  no : r = none → ∀ ds d, fitB b (ds ++ [d]) = true → ¬ row4 (dayRow s (runS s (begunS s x) ds) d) pl > 0
  fit : ∀ ds, r = some ds → fitB b ds = true
  yes : ∀ ds, r = some ds → ∃ es d, ds = es ++ [d] ∧ row4 (dayRow s (runS s (begunS s x) es) d) pl > 0
  least : ∀ ds, r = some ds → ∀ es d, fitB b (es ++ [d]) = true → row4 (dayRow s (runS s (begunS s x) es) d) pl > 0 → sle ds (es ++ [d])
theorem al_node {s : Sto} {x : Int} {b : Bd} (hb : b.ok) {ds : List Int} {d : Int} (h : fitB b (ds ++ [d]) = true) : d ∈ alN b (nodeB s x b ds) := by
  have h1 := fit_init hb h
  unfold alN alB nodeB
  rw [List.mem_filter, mem_irange]
  exact ⟨fit_range hb h1 h, by rw [fit_rec hb h1]; exact h⟩
theorem al_fit {s : Sto} {x : Int} {b : Bd} (hb : b.ok) {ds : List Int} {d : Int} (h1 : fitB b ds = true) (h : d ∈ alN b (nodeB s x b ds)) : fitB b (ds ++ [d]) = true := by
  unfold alN alB nodeB at h
  rw [List.mem_filter] at h
  rw [← fit_rec hb h1]; exact h.2
theorem firstW_of {s : Sto} {x : Int} {b : Bd} {pl : Int} (hb : b.ok) {M : List (Ent Node)} (met : MetB s x b M) : FirstW s x b pl ((candW s b pl M).foldl bestC none) := by
  obtain ⟨h1, h2⟩ := best_fold (candW s b pl M) none
  have cand : ∀ ds d, fitB b (ds ++ [d]) = true → row4 (dayRow s (runS s (begunS s x) ds) d) pl > 0 → ∃ es, (true, es ++ [d]) ∈ candW s b pl M ∧ sle es ds := fun ds d hf hv => by
    obtain ⟨es, h3, h4⟩ := metB_all hb met (fit_init hb hf)
    refine ⟨es, List.mem_flatMap.mpr ⟨_, h3, List.mem_map.mpr ⟨d, al_node hb hf, ?_⟩⟩, h4⟩
    show (decide (row4 (dayRow s (runS s (begunS s x) ds) d) pl > 0), es ++ [d]) = _
    rw [decide_eq_true hv]
  have back : ∀ ds, (true, ds) ∈ candW s b pl M → fitB b ds = true ∧ ∃ es d, ds = es ++ [d] ∧ row4 (dayRow s (runS s (begunS s x) es) d) pl > 0 := fun ds h => by
    obtain ⟨⟨n, es⟩, he, h⟩ := List.mem_flatMap.mp h
    obtain ⟨d, hd, e⟩ := List.mem_map.mp h
    obtain ⟨hf, hn⟩ := metB_mem hb met he
    simp only [Prod.mk.injEq, decide_eq_true_eq] at e
    obtain ⟨e1, e2⟩ := e
    have hd' : d ∈ alN b (nodeB s x b es) := by rw [← hn]; exact hd
    refine ⟨by rw [← e2]; exact al_fit hb hf hd', es, d, e2.symm, ?_⟩
    rw [show n = nodeB s x b es from hn] at e1
    exact e1
  refine ⟨fun hr ds d hf hv => ?_, fun ds hr => ?_, fun ds hr => ?_, fun ds hr es d hf hv => ?_⟩
  · obtain ⟨es, h3, _⟩ := cand ds d hf hv
    have := (h1 hr).2 _ h3
    cases this
  · rcases (h2 ds hr).1 with e | e
    · cases e
    · exact (back ds e).1
  · rcases (h2 ds hr).1 with e | e
    · cases e
    · exact (back ds e).2
  · obtain ⟨fs, h3, h4⟩ := cand es d hf hv
    exact sle_trans ((h2 ds hr).2.2 _ h3 rfl) (sle_snoc d h4)
def bestD : Option (List Int) → D
  | none => .non
  | some ds => .tup [.int ds.length, tupI ds]
def resD : Option (List Int) → D
  | none => .non
  | some ds => tupI ds
def S_first_with : SpT := fun ds W O _ => ∃ (s : Sto) (x : Int) (b : Bd) (pl : Int), ds = [s.d, .int x, b.d, .int pl] ∧ Arg3 s x b ∧ (pl = 1 ∨ pl = 2) ∧ ∀ r, FirstW s x b pl r → (∀ ds, r = some ds → ds.length ≤ maxN + 1) → O (resD r) W
theorem candW_take {s : Sto} {b : Bd} {pl : Int} {M : List (Ent Node)} {i : Nat} {e : Ent Node} (h : M[i]? = some e) : candW s b pl (M.take (i + 1)) = candW s b pl (M.take i) ++ candW1 s b pl e := by
  rw [take_step h]
  unfold candW
  rw [List.flatMap_append, List.flatMap_cons, List.flatMap_nil, List.append_nil]
theorem bestD_toP (ds : List Int) : SR.toP (bestD (some ds)) = some (.tuple [.int ds.length, .tuple (ds.map .int)]) := by
  show SR.toP (.tup [.int ds.length, .tup (ds.map D.int)]) = _
  simp only [SR.toP, toPs, toPs_ints, Option.map_some]
theorem slt_lt (a b : List Int) : PySem.W.dataLt (.tuple [.int a.length, .tuple (a.map .int)]) (.tuple [.int b.length, .tuple (b.map .int)]) = decide (slt a b) := by
  rw [lt_pair]
  unfold slt
  congr 1
  simp only [Int.ofNat_lt, Int.natCast_inj]
theorem ok_first_with (B : Bi mg) (c1 : Cal P w K mg base 5 "all_nodes" ["store", "start", "bounds"] (S_all_nodes w)) (c2 : Cal P w K mg base 4 "steps_from" ["store", "bounds", "node"] S_steps_from)
    (F : Fun K "first_with" "first_with" s_first_with f fd) (hm : mg "first_with" = some (.ref f)) (hb : Binds K fd ["store", "start", "bounds", "place"] []) : Cal P w K mg base 6 "first_with" ["store", "start", "bounds", "place"] S_first_with := by
  refine cal_mk F hm hb sc_first_with (fun ds W O XC h => ?_) (fun cdv A outer s H E ds W O XC hr h => ?_)
  · obtain ⟨st, x, b, pl, rfl, _⟩ := h
    rfl
  · obtain ⟨st, x, b, pl, rfl, ha, hpl, h⟩ := h
    have hu := hr.units
    have hpl3 : pl = 1 ∨ pl = 2 ∨ pl = 3 := by omega
    refine xb_nox (E' := E0) (xb_cons (xs_par 4 5 sc_first_with.nd (xa_cons (xe_call c1 hr pass0X (xa_cons (xe_name 0 rfl (xa_cons (xe_name 1 rfl (xa_cons (xe_name 2 rfl (xa_nil ⟨st, x, b, rfl, ha.hs, ha.x0, ha.x1, ha.hb, fun M met few oks p hp => xa_cons (xe_non (xa_nil ⟨_, _, rfl, ?_⟩))⟩)))))))))))
    have eds : (entD M).map (fun e => kD e.1) = M.map fun e => e.1.d := by
      unfold entD; rw [List.map_map]
      exact List.map_congr_left fun e _ => kD_node e.1
    have hlen : ∀ e ∈ M, e.2.length ≤ maxN := fun e he => (oks e he).2
    refine xb_cons (xs_lock p (entD M) updO_same (xs_for (fun i g' W' => ∃ y6 y7 y8 y9 y10, g' = [some st.d, some (.int x), some b.d, some (.int pl), some (.p p), some (bestD ((candW st b pl (M.take i)).foldl bestC none)), y6, y7, y8, y9, y10] ∧ SR.Sub (updO W p (.fdic w (entD M))) W') (xi_keys (xe_name 4 rfl ⟨p, entD M, rfl, updO_same, ⟨_, _, _, _, _, rfl, by rw [updO_updO]; exact Sub.refl _⟩, fun _ _ _ _ => trivial, ?_, ?_⟩))))
    · rw [eds]
      rintro i d g' W' hd ⟨y6, y7, y8, y9, y10, rfl, hsub⟩
      obtain ⟨⟨n, es⟩, he, rfl⟩ := get_map hd
      have hmem := List.mem_of_getElem? he
      have nok := (oks _ hmem).1
      have esl : es.length ≤ maxN := hlen _ hmem
      refine xg_name 6 sc_first_with.nd (xb_one (xs_forL (xi_lst (xe_call c2 (hr.mono (by decide)) pass0X (xa_cons (xe_name 0 rfl (xa_cons (xe_name 2 rfl (xa_cons (xe_name 6 rfl (xa_nil ⟨st, b, n, rfl, ha.hs, ha.hb, nok, fun ls hls => ?_⟩)))))))))))
      refine ⟨ls, _, rfl, updO_same, fun j g' W3 => ∃ y7 y8 y9 y10, g' = [some st.d, some (.int x), some b.d, some (.int pl), some (.p p), some (bestD ((candW st b pl (M.take i) ++ (candW1 st b pl (n, es)).take j).foldl bestC none)), some n.d, y7, y8, y9, y10] ∧ W3 = updO W' ls (.lst ((alN b n).map (stepD st b n))), ⟨_, _, _, _, by rw [List.take_zero, List.append_nil]; rfl, rfl⟩, fun j g' W3 ⟨_, _, _, _, _, q⟩ => by rw [q]; exact updO_same, ?_, ?_⟩
      · rintro j dd g' W3 hd2 ⟨y7, y8, y9, y10, rfl, rfl⟩
        obtain ⟨dm, hdm, rfl⟩ := get_map hd2
        have hcj : (candW1 st b pl (n, es))[j]? = some (decide (row4 (dayRow st n.s dm) pl > 0), es ++ [dm]) := by
          unfold candW1
          rw [List.getElem?_map, hdm]; rfl
        have est : (candW st b pl (M.take i) ++ (candW1 st b pl (n, es)).take (j + 1)).foldl bestC none = bestC ((candW st b pl (M.take i) ++ (candW1 st b pl (n, es)).take j).foldl bestC none) (decide (row4 (dayRow st n.s dm) pl > 0), es ++ [dm]) := by
          rw [take_step hcj, ← List.append_assoc, List.foldl_append]
          rfl
        generalize (candW st b pl (M.take i) ++ (candW1 st b pl (n, es)).take j).foldl bestC none = best at est ⊢
        have rd : DRd w (updO W' ls (.lst ((alN b n).map (stepD st b n)))) p (entD M) := .inr (by
          have h1 := hsub p _ updO_same
          rw [updO_ne (neO h1 hls)]; exact h1)
        refine xg_tup rfl (xgs_cons (xg_name 7 sc_first_with.nd (xgs_cons (xg_name 8 sc_first_with.nd (xgs_cons (xg_name 9 sc_first_with.nd (xgs_nil ?_)))))))
        refine xb_one (xs_if (xt_cmp (by simp) (xe_ix (xe_name 9 rfl (xe_name 3 rfl ⟨_, row4_ok hpl3, xe_int ⟨_, _, _, rfl, rfl, rfl, _, rfl, fun e => ?_, fun e => xb_nil ?_⟩⟩)))))
        · rw [show decide (row4 (dayRow st n.s dm) pl > 0) = true from e] at est
          refine xb_cons (xs_set 10 sc_first_with.nd (xe_addT (xe_kget (u9 hu) (xe_name 4 rfl (xe_name 6 rfl ⟨p, entD M, nodeK n, _, rfl, keyD_node n, rd, look_mem met.nd hmem, xe_tup (xa_cons (xe_name 7 rfl (xa_nil ⟨by simp, _, _, rfl, rfl, ?_, ?_⟩)))⟩)))))
          · have := max_line esl
            simp only [List.length_map, List.length_singleton]
            omega
          · rw [tupI_snoc]
            have fin : ∀ g' : Ga, g' = [some st.d, some (.int x), some b.d, some (.int pl), some (.p p), some (bestD (some (es ++ [dm]))), some n.d, some (.int dm), some (stepN st b n dm).d, some (dayRow st n.s dm).d4, some (tupI (es ++ [dm]))] → bestC best (true, es ++ [dm]) = some (es ++ [dm]) → ∃ y7 y8 y9 y10, g' = [some st.d, some (.int x), some b.d, some (.int pl), some (.p p), some (bestD ((candW st b pl (M.take i) ++ (candW1 st b pl (n, es)).take (j + 1)).foldl bestC none)), some n.d, y7, y8, y9, y10] ∧ updO W' ls (.lst ((alN b n).map (stepD st b n))) = updO W' ls (.lst ((alN b n).map (stepD st b n))) := fun g' eg eb => by
              rw [est, eb, eg]
              exact ⟨_, _, _, _, rfl, rfl⟩
            cases best with
            | none =>
              refine xb_one (xs_if (xt_or2 (xt_isN (xe_name 5 rfl (xe_non ⟨rfl, fun e => (by cases e), fun _ => ⟨fun _ => ?_, fun z => by cases z⟩⟩)))))
              refine xb_one (xs_set 5 sc_first_with.nd (xe_tup (xa_cons (xe_len B.len (xe_name 10 rfl ⟨_, rfl, xa_cons (xe_name 10 rfl (xa_nil ⟨by simp, ?_⟩))⟩)))))
              rw [List.length_map]
              exact fin _ rfl (by simp [bestC])
            | some bb =>
              refine xb_one (xs_if (xt_or2 (xt_isN (xe_name 5 rfl (xe_non ⟨rfl, fun _ => ?_, fun e => by cases e⟩)))))
              refine xt_ltD hu (xe_tup (xa_cons (xe_len B.len (xe_name 10 rfl ⟨_, rfl, xa_cons (xe_name 10 rfl (xa_nil ⟨by simp, xe_name 5 rfl ⟨.tuple [.int (es ++ [dm]).length, .tuple ((es ++ [dm]).map .int)], _, ?_, bestD_toP bb, ?_, ?_, ?_, _, rfl, fun e2 => ?_, fun e2 => xb_nil ?_⟩⟩))⟩))))
              · rw [List.length_map]
                exact bestD_toP (es ++ [dm])
              · simp only [PySem.W.alike, PySem.W.alikeAll, alike_ints, Bool.and_self]
              · intro z; cases z
              · simp only [PyData.depth, PyData.depthAll, depth_ints]; decide
              · rw [slt_lt] at e2
                refine xb_one (xs_set 5 sc_first_with.nd (xe_tup (xa_cons (xe_len B.len (xe_name 10 rfl ⟨_, rfl, xa_cons (xe_name 10 rfl (xa_nil ⟨by simp, ?_⟩))⟩)))))
                rw [List.length_map]
                exact fin _ rfl (by unfold bestC; simp only [if_true]; rw [if_pos (of_decide_eq_true e2)])
              · rw [slt_lt] at e2
                have eb : bestC (some bb) (true, es ++ [dm]) = some bb := by unfold bestC; simp only [if_true]; rw [if_neg (of_decide_eq_false e2)]
                exact ⟨some (.int dm), some (stepN st b n dm).d, some (dayRow st n.s dm).d4, some (tupI (es ++ [dm])), by rw [est, eb]; rfl, rfl⟩
        · rw [show decide (row4 (dayRow st n.s dm) pl > 0) = false from e] at est
          exact ⟨some (.int dm), some (stepN st b n dm).d, some (dayRow st n.s dm).d4, y10, by rw [est]; rfl, rfl⟩
      · rintro g' W3 ⟨y7, y8, y9, y10, rfl, rfl⟩
        have el : ((alN b n).map (stepD st b n)).length = (candW1 st b pl (n, es)).length := by unfold candW1; rw [List.length_map, List.length_map]
        rw [el, List.take_length, ← candW_take he]
        exact ⟨_, _, _, _, _, rfl, hsub.trans (Sub.new hls)⟩
    · rw [eds]
      rintro g' W' ⟨y6, y7, y8, y9, y10, rfl, hsub⟩
      rw [List.length_map, List.take_length]
      have fw := firstW_of (pl := pl) ha.hb met
      have hfew : ∀ ds, (candW st b pl M).foldl bestC none = some ds → ds.length ≤ maxN + 1 := fun ds e => by
        rcases ((best_fold (candW st b pl M) none).2 ds e).1 with q | q
        · cases q
        · obtain ⟨e0, he0, q⟩ := List.mem_flatMap.mp q
          obtain ⟨d, _, q⟩ := List.mem_map.mp q
          simp only [Prod.mk.injEq] at q
          rw [← q.2, List.length_append]
          have := hlen e0 he0
          simp only [List.length_singleton]; omega
      have hW : SR.Sub W W' := fun a o e => hsub a o (by rw [updO_ne (neO e hp)]; exact e)
      have h := h _ fw hfew
      generalize (candW st b pl M).foldl bestC none = r at h ⊢
      cases r with
      | none => exact xb_one (xs_ret (xe_shr (xe_if (xt_notN (xe_name 5 rfl (xe_non ⟨rfl, fun z => (by cases z), fun _ => xe_non ⟨W, hW, h⟩⟩))))))
      | some ds => exact xb_one (xs_ret (xe_shr (xe_if (xt_notN (xe_name 5 rfl (xe_non ⟨rfl, fun _ => xe_ix (xe_name 5 rfl (xe_int ⟨_, rfl, W, hW, h⟩)), fun z => by cases z⟩))))))
def S_does_last : SpT := fun ds W O _ => ∃ (s : Sto) (x : Int) (b : Bd), ds = [s.d, .int x, b.d] ∧ Arg3 s x b ∧ ∀ r, FirstW s x b 2 r → (∀ ds, r = some ds → ds.length ≤ maxN + 1) → O (.bl r.isNone) W
def S_first_k (pl : Int) : SpT := fun ds W O _ => ∃ (s : Sto) (x : Int) (b : Bd), ds = [s.d, .int x, b.d] ∧ Arg3 s x b ∧ ∀ r, FirstW s x b pl r → (∀ ds, r = some ds → ds.length ≤ maxN + 1) → O (resD r) W
theorem resD_non (r : Option (List Int)) : isNon (resD r) = r.isNone := by cases r <;> rfl

end Law
namespace Law
open PySem PySem.Spec PyProof.Rows L2 SR
variable {P : Program} {w : World} {K : PySem.W.Frag} {mg : Str → Option Value} {base : Heap} {f : Addr} {fd : FuncData}
/-! ### sums over some days -/
def ent2 (M : List (Cnd Node)) : List (NestedKey × D) := M.map fun e => (nodeK e.1, .int e.2)
theorem look2_cases : ∀ (M : List (Cnd Node)) (n : Node), (lookN (ent2 M) (nodeK n) = none ∧ M.any (fun e => decide (e.1 = n)) = false) ∨ ∃ u, lookN (ent2 M) (nodeK n) = some (.int u) ∧ (n, u) ∈ M ∧ M.any (fun e => decide (e.1 = n)) = true
  | [], n => .inl ⟨rfl, rfl⟩
  | e :: M, n => by
    by_cases h : e.1 = n
    · refine .inr ⟨e.2, ?_, by rw [← h]; exact List.mem_cons_self, by simp [h]⟩
      simp [lookN, ent2, List.find?_cons, h]
    · have h2 : nodeK e.1 ≠ nodeK n := fun z => h (nodeK_inj z)
      have e1 : lookN (ent2 (e :: M)) (nodeK n) = lookN (ent2 M) (nodeK n) := by simp [lookN, ent2, List.find?_cons, h2]
      have e2 : (e :: M).any (fun e => decide (e.1 = n)) = M.any (fun e => decide (e.1 = n)) := by simp [h]
      rw [e1, e2]
      rcases look2_cases M n with q | ⟨u, q1, q2, q3⟩
      · exact .inl q
      · exact .inr ⟨u, q1, List.mem_cons_of_mem _ q2, q3⟩
theorem nd_uniq {M : List (Cnd Node)} {n : Node} {u v : Int} (hn : (M.map (·.1)).Nodup) (h1 : (n, u) ∈ M) (h2 : (n, v) ∈ M) : u = v := by
  induction M with
  | nil => cases h1
  | cons e M ih =>
    rw [List.map_cons, List.nodup_cons] at hn
    rcases List.mem_cons.mp h1 with q1 | q1 <;> rcases List.mem_cons.mp h2 with q2 | q2
    · rw [← q1] at q2; cases q2; rfl
    · exact (hn.1 (by rw [← q1]; exact List.mem_map.mpr ⟨_, q2, rfl⟩)).elim
    · exact (hn.1 (by rw [← q2]; exact List.mem_map.mpr ⟨_, q1, rfl⟩)).elim
    · exact ih hn.2 q1 q2
theorem put2_ent {M : List (Cnd Node)} (hn : (M.map (·.1)).Nodup) (n : Node) (v : Int) : ∃ u, (lookN (ent2 M) (nodeK n)).getD (.int v) = .int u ∧ putN (ent2 M) (nodeK n) (.int (max u v)) = ent2 (SR.bump M n v) := by
  rcases look2_cases M n with ⟨h1, h2⟩ | ⟨u, h1, h2, h3⟩
  · refine ⟨v, by rw [h1]; rfl, ?_⟩
    unfold putN SR.bump
    rw [h1, h2, if_neg (by simp), if_neg (by simp), Int.max_self]
    unfold ent2
    rw [List.map_append]
    rfl
  · refine ⟨u, by rw [h1]; rfl, ?_⟩
    unfold putN SR.bump
    rw [h1, h3, if_pos rfl, if_pos (show (some (D.int u)).isSome = true from rfl)]
    unfold ent2
    rw [List.map_map, List.map_map]
    refine List.map_congr_left fun e he => ?_
    by_cases c : e.1 = n
    · have : e.2 = u := nd_uniq hn (n := n) (by rw [← c]; exact he) h2
      simp [c, this]
    · have c2 : nodeK e.1 ≠ nodeK n := fun z => c (nodeK_inj z)
      simp [c, c2]
def valP (s : Sto) (pl sg : Int) (n : Node) (d : Int) : Int := sg * row4 (dayRow s n.s d) pl
abbrev LevB (s : Sto) (x : Int) (b : Bd) (pl sg : Int) (k : Nat) (M : List (Cnd Node)) : Prop := Lev (stepN s b) (alN b) (begN s x) (valP s pl sg) k M
theorem sumN_rows (s : Sto) (b : Bd) (pl sg : Int) : ∀ (n : Node) (ds : List Int), sumN (stepN s b) (valP s pl sg) n ds = sg * sumBy (fun r => row4 r pl) (rowsS s n.s ds)
  | n, [] => by simp [sumN, rowsS, sumBy]
  | n, d :: r => by
    show valP s pl sg n d + sumN (stepN s b) (valP s pl sg) (stepN s b n d) r = sg * sumBy (fun r => row4 r pl) (dayRow s n.s d :: rowsS s (dayS s n.s d) r)
    rw [sumN_rows s b pl sg (stepN s b n d) r, sumBy_cons, Int.mul_add]
    rfl
/-- the greatest sum (times a sign) over so many days -/
structure GS (s : Sto) (x : Int) (b : Bd) (k : Nat) (pl sg v : Int) : Prop where
  some : ∃ ds, fitB b ds = true ∧ ds.length = k ∧ sumBy (fun r => row4 r pl) (rowsS s (begunS s x) ds) = v
  all : ∀ ds, fitB b ds = true → ds.length = k → sg * sumBy (fun r => row4 r pl) (rowsS s (begunS s x) ds) ≤ sg * v
theorem fit_any {b : Bd} (hb : b.ok) : ∀ k : Nat, ∃ ds, fitB b ds = true ∧ ds.length = k
  | 0 => ⟨[], fit_nil b, rfl⟩
  | k + 1 => by
    obtain ⟨ds, h1, h2⟩ := fit_any hb k
    exact ⟨ds ++ [b.low], fit_low hb h1, by simp [h2]⟩
theorem levB_ok {s : Sto} {x : Int} {b : Bd} {pl sg : Int} {k : Nat} {M : List (Cnd Node)} (ha : Arg3 s x b) (h : LevB s x b pl sg k M) : ∀ e ∈ M, NodeOk s b e.1 := fun e he => by
  obtain ⟨ds, h1, _, h3, _⟩ := h.ok e he
  rw [← h3]; exact okN_node ha.hs ha.hb ha.x0 ha.x1 ds h1
theorem levB_few {s : Sto} {x : Int} {b : Bd} {M : List (Cnd Node)} (ha : Arg3 s x b) (hn : (M.map (·.1)).Nodup) (h : ∀ e ∈ M, NodeOk s b e.1) : M.length ≤ maxN := by
  have := nodes_few ha.hs ha.hb hn fun n hm => by
    obtain ⟨e, he, rfl⟩ := List.mem_map.mp hm
    exact h e he
  rwa [List.length_map] at this
def cndB (s : Sto) (b : Bd) (pl sg : Int) (e : Cnd Node) : List (Cnd Node) := cand2 (stepN s b) (alN b) (valP s pl sg) e
theorem cndB_take {s : Sto} {b : Bd} {pl sg : Int} {M : List (Cnd Node)} {i : Nat} {e : Cnd Node} (h : M[i]? = some e) : (M.take (i + 1)).flatMap (cndB s b pl sg) = (M.take i).flatMap (cndB s b pl sg) ++ cndB s b pl sg e := by
  rw [take_step h, List.flatMap_append, List.flatMap_cons, List.flatMap_nil, List.append_nil]
theorem cndB_ok {s : Sto} {x : Int} {b : Bd} {pl sg : Int} {M : List (Cnd Node)} (ha : Arg3 s x b) (h : ∀ e ∈ M, NodeOk s b e.1) {C : List (Cnd Node)} (hC : ∀ c ∈ C, c ∈ M.flatMap (cndB s b pl sg)) : ∀ e ∈ bumps C [], NodeOk s b e.1 := fun e he => by
  rcases bumps_from C he with q | q
  · cases q
  · obtain ⟨z, hz, q⟩ := List.mem_flatMap.mp (hC e q)
    obtain ⟨d, hd, rfl⟩ := List.mem_map.mp q
    have := mem_irange.mp (List.mem_filter.mp hd).1
    exact stepN_ok ha.hs ha.hb (h z hz) this.1 this.2
def S_greatest_sum : SpT := fun ds W O _ => ∃ (s : Sto) (x : Int) (b : Bd) (k : Nat) (pl sg : Int), ds = [s.d, .int x, b.d, .int k, .int pl, .int sg] ∧ Arg3 s x b ∧ k ≤ 10 ∧ (pl = 1 ∨ pl = 2 ∨ pl = 3) ∧ (sg = 1 ∨ sg = -1) ∧ ∀ v, GS s x b k pl sg v → O (.int v) W
theorem ok_greatest_sum (B : Bi mg) (c0 : Cal P w K mg base 1 "is_between" ["value", "low", "high"] S_is_between) (c1 : Cal P w K mg base 4 "check_three" ["store", "start", "bounds"] S_check_three) (c2 : Cal P w K mg base 4 "first_node" ["store", "start"] S_first_node) (c3 : Cal P w K mg base 4 "steps_from" ["store", "bounds", "node"] S_steps_from)
    (F : Fun K "greatest_sum" "greatest_sum" s_greatest_sum f fd) (hm : mg "greatest_sum" = some (.ref f)) (hb : Binds K fd ["store", "start", "bounds", "days", "place", "sign"] []) : Cal P w K mg base 5 "greatest_sum" ["store", "start", "bounds", "days", "place", "sign"] S_greatest_sum := by
  refine cal_mk F hm hb sc_greatest_sum (fun ds W O XC h => ?_) (fun cdv A outer s H E ds W O XC hr h => ?_)
  · obtain ⟨st, x, b, k, pl, sg, rfl, _⟩ := h
    rfl
  · obtain ⟨st, x, b, k, pl, sg, rfl, ha, hk, hpl, hsg, h⟩ := h
    have hu := hr.units
    refine xb_cons (xs_expr (xe_call c1 hr passX (xa_cons (xe_name 0 rfl (xa_cons (xe_name 1 rfl (xa_cons (xe_name 2 rfl (xa_nil ⟨st, x, b, rfl, ha, ?_⟩)))))))))
    refine xb_cons (xs_if (xt_not (xt_val (xe_call c0 (hr.mono (by decide)) passX (xa_cons (xe_name 3 rfl (xa_cons (xe_int (xa_cons (xe_int (xa_nil ⟨.int k, 0, 10, rfl, rfl, _, rfl, fun e => ?_, fun _ => xb_nil ?_⟩)))))))))))
    · have : betw (.int k) 0 10 = true := by simp [betw]; omega
      rw [this] at e; cases e
    refine xb_nox (E' := E0) (xb_cons (xs_set 6 sc_greatest_sum.nd (xe_kone (u9 hu) (fun p0 hp0 => xe_call c2 hr pass0X (xa_cons (xe_name 0 rfl (xa_cons (xe_name 1 rfl (xa_nil ⟨st, x, rfl, ha.hs, xe_int ⟨nodeK (begN st x), keyD_node _, updO_same, ?_⟩⟩)))))))))
    rw [updO_updO]
    refine xb_cons (xs_for (fun i g' W' => ∃ (M : List (Cnd Node)) (p : Addr) (y7 y8 y9 y10 y11 y12 y13 y14 : Option D), g' = [some st.d, some (.int x), some b.d, some (.int k), some (.int pl), some (.int sg), some (.p p), y7, y8, y9, y10, y11, y12, y13, y14] ∧ LevB st x b pl sg i M ∧ (M.map (·.1)).Nodup ∧ SR.Sub W W' ∧ W p = none ∧ W' p = some (.dic w (ent2 M))) (xi_range1 B.range (xe_name 3 rfl ⟨_, rfl, by omega, by omega, ⟨[(begN st x, 0)], p0, _, _, _, _, _, _, _, _, rfl, lev_start _ _ _ _, by simp, Sub.new hp0, hp0, by rw [updO_same]; rfl⟩, fun _ _ _ _ => trivial, ?_, ?_⟩)))
    · rintro i d g' W' hd ⟨M, p, y7, y8, y9, y10, y11, y12, y13, y14, rfl, lev, nd, hsub, hpW, hp⟩
      obtain ⟨hi, rfl⟩ := mem_rangeD hd
      have noks := levB_ok ha lev
      have few := levB_few ha nd noks
      refine xg_name 7 sc_greatest_sum.nd (xb_cons (xs_set 8 sc_greatest_sum.nd (xe_knew (fun p2 hp2 => ?_))))
      have n12 : p ≠ p2 := neO hp hp2
      have hp2W : W p2 = none := hsub.free hp2
      have hp' : updO W' p2 (.dic w []) p = some (.dic w (ent2 M)) := by rw [updO_ne n12]; exact hp
      refine xb_cons (xs_lock p (ent2 M) hp' (xs_for (fun j g' W2 => ∃ (y9 y10 y11 y12 y13 y14 : Option D), g' = [some st.d, some (.int x), some b.d, some (.int k), some (.int pl), some (.int sg), some (.p p), some (.int i), some (.p p2), y9, y10, y11, y12, y13, y14] ∧ SR.Sub W W2 ∧ W2 p2 = some (.dic w (ent2 (bumps ((M.take j).flatMap (cndB st b pl sg)) [])))) (xi_items (xe_name 6 rfl ⟨p, ent2 M, rfl, updO_same, ⟨_, _, _, _, _, _, rfl, ?_, ?_⟩, fun _ _ _ _ => trivial, ?_, ?_⟩))))
      · exact sub_in (sub_in hsub hp2W) hpW
      · rw [updO_ne (Ne.symm n12), updO_same]; rfl
      · rintro j d g' W2 hd2 ⟨y9, y10, y11, y12, y13, y14, rfl, hsub2, q⟩
        obtain ⟨⟨n, tot⟩, he, rfl⟩ : ∃ e, M[j]? = some e ∧ d = .tup [e.1.d, .int e.2] := by
          unfold ent2 at hd2
          rw [List.map_map] at hd2
          obtain ⟨e, h1, h2⟩ := get_map hd2
          exact ⟨e, h1, by rw [h2]; show D.tup [kD (nodeK e.1), _] = _; rw [kD_node]⟩
        have hmem := List.mem_of_getElem? he
        refine xg_tup rfl (xgs_cons (xg_name 9 sc_greatest_sum.nd (xgs_cons (xg_name 10 sc_greatest_sum.nd (xgs_nil ?_)))))
        refine xb_one (xs_forL (xi_lst (xe_call c3 hr pass0X (xa_cons (xe_name 0 rfl (xa_cons (xe_name 2 rfl (xa_cons (xe_name 9 rfl (xa_nil ⟨st, b, n, rfl, ha.hs, ha.hb, noks _ hmem, fun ls hls => ?_⟩))))))))))
        have p2ls : p2 ≠ ls := neO q hls
        refine ⟨ls, _, rfl, updO_same, fun i2 g' W3 => ∃ (y11 y12 y13 y14 : Option D), g' = [some st.d, some (.int x), some b.d, some (.int k), some (.int pl), some (.int sg), some (.p p), some (.int i), some (.p p2), some n.d, some (.int tot), y11, y12, y13, y14] ∧ SR.Sub W W3 ∧ W3 p2 = some (.dic w (ent2 (bumps ((M.take j).flatMap (cndB st b pl sg) ++ (cndB st b pl sg (n, tot)).take i2) []))) ∧ W3 ls = some (.lst ((alN b n).map (stepD st b n))), ⟨_, _, _, _, rfl, sub_in hsub2 (hsub2.free hls), by rw [updO_ne p2ls, List.take_zero, List.append_nil]; exact q, updO_same⟩, fun i2 g' W3 ⟨_, _, _, _, _, _, _, q⟩ => q, ?_, ?_⟩
        · rintro i2 dd g' W3 hd3 ⟨y11, y12, y13, y14, rfl, hsub3, q3, q4⟩
          obtain ⟨dm, hdm, rfl⟩ := get_map hd3
          have hcj : (cndB st b pl sg (n, tot))[i2]? = some (stepN st b n dm, tot + valP st pl sg n dm) := by
            unfold cndB cand2
            rw [List.getElem?_map, hdm]; rfl
          have est : bumps ((M.take j).flatMap (cndB st b pl sg) ++ (cndB st b pl sg (n, tot)).take (i2 + 1)) [] = SR.bump (bumps ((M.take j).flatMap (cndB st b pl sg) ++ (cndB st b pl sg (n, tot)).take i2) []) (stepN st b n dm) (tot + valP st pl sg n dm) := by
            unfold bumps
            rw [take_step hcj, ← List.append_assoc, List.foldl_append]
            rfl
          have hC : ∀ c ∈ (M.take j).flatMap (cndB st b pl sg) ++ (cndB st b pl sg (n, tot)).take i2, c ∈ M.flatMap (cndB st b pl sg) := fun c hc => by
            rcases List.mem_append.mp hc with hc | hc
            · obtain ⟨z, hz, hc⟩ := List.mem_flatMap.mp hc
              exact List.mem_flatMap.mpr ⟨z, List.mem_of_mem_take hz, hc⟩
            · exact List.mem_flatMap.mpr ⟨_, hmem, List.mem_of_mem_take hc⟩
          have nd3 := bumps_keys ((M.take j).flatMap (cndB st b pl sg) ++ (cndB st b pl sg (n, tot)).take i2) (M := []) (by simp)
          have few3 := levB_few ha nd3 (cndB_ok ha noks hC)
          generalize bumps ((M.take j).flatMap (cndB st b pl sg) ++ (cndB st b pl sg (n, tot)).take i2) [] = M3 at q3 est nd3 few3
          obtain ⟨u, hu1, hu2⟩ := put2_ent nd3 (stepN st b n dm) (tot + valP st pl sg n dm)
          refine xg_tup rfl (xgs_cons (xg_name 11 sc_greatest_sum.nd (xgs_cons (xg_name 12 sc_greatest_sum.nd (xgs_cons (xg_name 13 sc_greatest_sum.nd (xgs_nil ?_)))))))
          refine xb_cons (xs_set 14 sc_greatest_sum.nd (xe_add (xe_name 10 rfl (xe_mul (xe_name 5 rfl (xe_ix (xe_name 13 rfl (xe_name 4 rfl ⟨_, row4_ok hpl, _, _, rfl, rfl, .inl ⟨by omega, by omega⟩, ?_⟩))))))))
          refine xb_one (xs_kput (u9 hu) (xe_max2 B.max (xe_kget2 (u9 hu) (xe_name 8 rfl ⟨p2, _, rfl, .inl q3, xe_name 12 rfl (xe_name 14 rfl ⟨_, nodeK (stepN st b n dm), keyD_node _, .inl q3, xe_name 14 rfl ⟨u, _, hu1, rfl, xe_name 8 rfl (xe_name 12 rfl ⟨p2, _, nodeK (stepN st b n dm), rfl, keyD_node _, q3, ?_, ?_⟩)⟩⟩)⟩))))
          · have := max_line few3
            unfold ent2; rw [List.length_map]; omega
          · refine ⟨_, _, _, _, rfl, sub_in hsub3 hp2W, ?_, by rw [updO_ne (Ne.symm p2ls)]; exact q4⟩
            rw [updO_same, est, ← hu2]
            rfl
        · rintro g' W3 ⟨y11, y12, y13, y14, rfl, hsub3, q3, q4⟩
          have el : ((alN b n).map (stepD st b n)).length = (cndB st b pl sg (n, tot)).length := by unfold cndB cand2; rw [List.length_map, List.length_map]
          rw [el, List.take_length, ← cndB_take he] at q3
          exact ⟨_, _, _, _, _, _, rfl, hsub3, q3⟩
      · rintro g' W2 ⟨y9, y10, y11, y12, y13, y14, rfl, hsub2, q⟩
        unfold ent2 at q
        rw [List.length_map, List.length_map, List.take_length] at q
        exact xb_one (xs_set 6 sc_greatest_sum.nd (xe_name 8 rfl ⟨_, p2, _, _, _, _, _, _, _, _, rfl, lev_step _ _ _ _ lev, bumps_keys _ (by simp), hsub2, hp2W, q⟩))
    · rintro g' W' ⟨M, p, y7, y8, y9, y10, y11, y12, y13, y14, rfl, lev, nd, hsub, hpW, hp⟩
      rw [rangeD_len, show ((k : Nat) : Int).toNat = k by omega] at lev
      have noks := levB_ok ha lev
      have few := levB_few ha nd noks
      refine xb_one (xs_ret (xe_shr (xe_lock p (ent2 M) hp (xe_mul (xe_name 5 rfl (xe_maxL B.max (xe_lc [("node", 9), ("total", 10)] sc_greatest_sum.nd (lcTg_two 9 10 sc_greatest_sum.nd) (blkOk_by (N := n_greatest_sum) (sc := defScope s_greatest_sum) (by decide +kernel)) (xi_items (xe_name 6 rfl ⟨p, ent2 M, rfl, updO_same, fun l hl => ?_⟩)))))))))
      refine ⟨fun i acc W2 => acc = (M.take i).map (fun e => D.int e.2) ∧ W2 = updO (updO W' p (.fdic w (ent2 M))) l (.lst acc), ⟨rfl, rfl⟩, fun i acc W2 ⟨e1, e2⟩ => ⟨trivial, by rw [e2, updO_same], by rw [e1, List.length_map, List.length_take]; omega⟩, by rw [List.length_map]; unfold ent2; rw [List.length_map]; have := max_line few; omega, fun i d acc W2 hd ⟨e1, e2⟩ => ?_, fun acc W2 ⟨e1, e2⟩ => ?_⟩
      · obtain ⟨⟨n, tot⟩, he, rfl⟩ : ∃ e, M[i]? = some e ∧ d = .tup [kD (nodeK e.1), .int e.2] := by
          unfold ent2 at hd
          rw [List.map_map] at hd
          exact get_map hd
        subst e2
        refine ⟨_, rfl, fun s H C cl fp => ⟨fun _ s H C cl fp => xe_name 10 rfl ⟨updO_same, ?_, ?_⟩, fun z => by cases z⟩⟩
        · rw [take_step he, List.map_append, e1]; rfl
        · rw [updO_updO]
      · unfold ent2 at e1
        rw [List.length_map, List.length_map, List.take_length] at e1
        subst e1 e2
        refine ⟨l, M.map (·.2), rfl, by rw [updO_same, List.map_map]; rfl, ?_, fun m hm1 hm2 => ⟨_, _, rfl, rfl, .inl ⟨by omega, by omega⟩, W, ?_, ?_⟩⟩
        · obtain ⟨ds, h1, h2⟩ := fit_any ha.hb k
          obtain ⟨v, h3, _⟩ := lev.all ds ((okN_iff ha.hb ds).mpr h1) h2
          rw [List.length_map]
          exact List.length_pos_of_mem h3
        · have : W l = none := hsub.free (by
            by_cases hlp : l = p
            · rw [hlp, updO_same] at hl; cases hl
            · rw [updO_ne hlp] at hl; exact hl)
          exact sub_in (sub_in hsub hpW) this
        · refine h _ ⟨?_, fun ds hf hl2 => ?_⟩
          · obtain ⟨⟨n, v⟩, he, rfl⟩ := List.mem_map.mp hm1
            obtain ⟨ds, h1, h2, _, h4⟩ := lev.ok _ he
            refine ⟨ds, (okN_iff ha.hb ds).mp h1, h2, ?_⟩
            rw [sumN_rows] at h4
            rw [← h4]
            show _ = sg * (sg * sumBy (fun r => row4 r pl) (rowsS st (begunS st x) ds))
            rcases hsg with rfl | rfl <;> omega
          · obtain ⟨v, h3, h4⟩ := lev.all ds ((okN_iff ha.hb ds).mpr hf) hl2
            rw [sumN_rows] at h4
            have h5 := hm2 v (List.mem_map.mpr ⟨_, h3, rfl⟩)
            have h6 : sg * sumBy (fun r => row4 r pl) (rowsS st (begunS st x) ds) ≤ v := h4
            rcases hsg with rfl | rfl <;> omega
def S_span (pl sg : Int) : SpT := fun ds W O _ => ∃ (s : Sto) (x : Int) (b : Bd) (k : Nat), ds = [s.d, .int x, b.d, .int k] ∧ Arg3 s x b ∧ k ≤ 10 ∧ ∀ v, GS s x b k pl sg v → O (.int v) W

end Law
namespace Law
open PySem PySem.Spec PyProof.Rows L2 SR
variable {P : Program} {w : World} {K : PySem.W.Frag} {mg : Str → Option Value} {base : Heap} {f : Addr} {fd : FuncData}
theorem ok_most_spilled (c1 : Cal P w K mg base 5 "greatest_sum" ["store", "start", "bounds", "days", "place", "sign"] S_greatest_sum) (F : Fun K "most_spilled" "most_spilled" s_most_spilled f fd) (hm : mg "most_spilled" = some (.ref f)) (hb : Binds K fd ["store", "start", "bounds", "days"] []) : Cal P w K mg base 6 "most_spilled" ["store", "start", "bounds", "days"] (S_span 1 1) := by
  refine cal_mk F hm hb sc_most_spilled (fun ds W O XC h => ?_) (fun cdv A outer s H E ds W O XC hr h => ?_)
  · obtain ⟨st, x, b, k, rfl, _⟩ := h
    rfl
  · obtain ⟨st, x, b, k, rfl, ha, hk, h⟩ := h
    exact xb_one (xs_ret (xe_call c1 hr passX (xa_cons (xe_name 0 rfl (xa_cons (xe_name 1 rfl (xa_cons (xe_name 2 rfl (xa_cons (xe_name 3 rfl (xa_cons (xe_int (xa_cons (xe_int (xa_nil ⟨st, x, b, k, 1, 1, rfl, ha, hk, by omega, by omega, h⟩)))))))))))))))

end Law
namespace Law
open PySem PySem.Spec PyProof.Rows L2 SR
variable {P : Program} {w : World} {K : PySem.W.Frag} {mg : Str → Option Value} {base : Heap} {f : Addr} {fd : FuncData}
/-! ### check_demands -/
def isDm : D → Bool
  | .tup xs => decide (xs.length ≤ 30) && xs.all fun x => betw x 0 9
  | _ => false
def S_check_demands (CD : Addr) : SpT := fun ds W O XC => ∃ d, ds = [d] ∧ KnD W d ∧ (isDm d = true → O .non W) ∧ (isDm d = false → XC CD W)
theorem ok_check_demands {CD : Addr} (B : Bi mg) (cD : ExC K mg "InvalidDemands" CD) (c1 : Cal P w K mg base 1 "is_between" ["value", "low", "high"] S_is_between) (F : Fun K "check_demands" "check_demands" s_check_demands f fd) (hm : mg "check_demands" = some (.ref f)) (hb : Binds K fd ["demands"] []) : Cal P w K mg base 2 "check_demands" ["demands"] (S_check_demands CD) := by
  refine cal_mk F hm hb sc_check_demands (fun ds W O XC h => ?_) (fun cdv A outer s H E ds W O XC hr h => ?_)
  · obtain ⟨d, rfl, _⟩ := h
    rfl
  · obtain ⟨d, rfl, hk, h1, h2⟩ := h
    obtain ⟨t, ht, hkt⟩ := kit_tu hk.ty
    refine xb_one (xs_if (xt_or3 (xt_not (xt_val (xe_isi B.isinstance (xe_name 0 rfl (xe_ty B.tuple (by decide +kernel) ⟨"tuple", t, _, rfl, ht, hkt, _, rfl, fun e1 => ?_, fun e1 => ⟨fun _ => ?_, fun e2 => by cases e2⟩⟩)))))))
    · cases d with
      | tup xs =>
        have hall := hk.all _ rfl
        refine xt_cmp (by simp) (xe_len B.len (xe_name 0 rfl ⟨xs, rfl, xe_int ⟨_, _, _, rfl, rfl, rfl, _, rfl, fun e2 => ?_, fun e2 => ⟨fun _ => ?_, fun z => by cases z⟩⟩⟩))
        · have e2 : xs.length ≤ 30 := by simp at e2; omega
          refine xt_not (xt_val (xe_all B.all (xe_lcP [("one", 1)] sc_check_demands.nd (lcTg_name 1 sc_check_demands.nd) (blkOk_by (N := n_check_demands) (sc := defScope s_check_demands) (by decide +kernel)) (xi_tup (xe_name 0 rfl ⟨xs, rfl, fun _ _ => trivial, le1000 (by omega), fun x => some (.bl (betw x 0 9)), fun i x W2 hx hs => ?_, fun l hl => ?_⟩)))))
          · refine ⟨_, rfl, fun s H C cl fp => ⟨Sub.refl _, fun _ s H C cl fp => ?_, fun z => by cases z⟩⟩
            have hx2 : (tyD W2 x).isSome = true := by
              have q := hall x (List.mem_of_getElem? hx)
              cases x with
              | p a =>
                simp only [tyD] at q ⊢
                split at q
                · rename_i ds' q'; rw [hs _ _ q']; rfl
                · cases q
              | _ => exact q
            exact xe_call c1 hr pass0X (xa_cons (xe_name 1 rfl (xa_cons (xe_int (xa_cons (xe_int (xa_nil ⟨x, 0, 9, rfl, hx2, Sub.refl _, rfl⟩)))))))
          · refine ⟨l, xs.map fun x => betw x 0 9, rfl, ?_, _, rfl, fun e => ?_, fun e => ?_⟩
            · rw [updO_same, filterMap_some', List.map_map]
              rfl
            · refine xb_sub (Sub.new hl) (xb_one (xs_raise cD (takes_of rfl rfl rfl rfl) (h2 ?_)))
              rw [all_map_id] at e
              simpa [isDm, e2] using e
            · refine xb_sub (Sub.new hl) (xb_nil (h1 ?_))
              rw [all_map_id] at e
              simpa [isDm, e2] using e
        · have e2 : ¬ xs.length ≤ 30 := by simp at e2; omega
          refine xb_one (xs_raise cD (takes_of rfl rfl rfl rfl) (h2 ?_))
          simp [isDm, e2]
      | _ => simp [isTu] at e1
    · refine xb_one (xs_raise cD (takes_of rfl rfl rfl rfl) (h2 ?_))
      cases d with
      | tup xs => simp [isTu] at e1
      | _ => rfl
theorem isDm_of {ms : List Int} (hl : ms.length ≤ 30) (h : ∀ m ∈ ms, 0 ≤ m ∧ m ≤ 9) : isDm (tupI ms) = true := by
  simp only [isDm, List.length_map, hl, decide_true, Bool.true_and, List.all_map, List.all_eq_true]
  intro m hm
  have := h m hm
  simp only [Function.comp, betw, Bool.and_eq_true, decide_eq_true_eq]
  exact this

end Law
namespace Law
open PySem PySem.Spec PyProof.Rows L2 SR
variable {P : Program} {w : World} {K : PySem.W.Frag} {mg : Str → Option Value} {base : Heap} {f : Addr} {fd : FuncData}
/-! ### given demands -/
theorem XI.imp {X : Cx} {E : XK} {XC : XCt} {g : Ga} {W : Om} {tg iter : Expr} {O O' : List D → (Om → Prop) → Om → Prop} (h : XI X E XC tg iter g W O) (i : ∀ ds ok W', O ds ok W' → O' ds ok W') : XI X E XC tg iter g W O' := by
  obtain ⟨wi, h1, h2⟩ := h
  exact ⟨wi, h1, fun σ H r k el R q => h2 σ H r k el R fun J H' ds ok W' k1 o1 it h3 => q J H' ds ok W' k1 o1 it (i ds ok W' h3)⟩
/-- a store, a start, demands: what is wrong first, or what they are -/
theorem Sto.d_inj {s t : Sto} (h : s.d = t.d) : s = t := by
  obtain ⟨a, b, c, d, e⟩ := s
  obtain ⟨a', b', c', d', e'⟩ := t
  simp only [Sto.d, D.tup.injEq, List.cons.injEq, D.int.injEq, D.str.injEq, and_true] at h
  obtain ⟨rfl, rfl, hk, rfl, rfl⟩ := h
  have : c = c' := by
    cases c <;> cases c' <;> first | rfl | exact absurd hk lots_fill | exact absurd hk.symm lots_fill
  rw [this]
theorem ints_inj : ∀ {a b : List Int}, a.map D.int = b.map D.int → a = b
  | [], [], _ => rfl
  | [], _ :: _, h => by cases h
  | _ :: _, [], h => by cases h
  | x :: a, y :: b, h => by
    rw [List.map_cons, List.map_cons, List.cons.injEq, D.int.injEq] at h
    rw [h.1, ints_inj h.2]
theorem tupI_inj {a b : List Int} (h : tupI a = tupI b) : a = b := ints_inj (D.tup.inj h)
theorem dayS_len {s : Sto} (h : s.ok) {x : Sit} (k : x.coming.length = s.wait.toNat) (d : Int) : (dayS s x d).coming.length = s.wait.toNat := by
  have := h.w1
  show (x.coming.tail ++ [_]).length = _
  rw [List.length_append, List.length_tail, k]
  show s.wait.toNat - 1 + 1 = _
  omega
theorem begunS_len {s : Sto} (h : s.ok) (x : Int) : (begunS s x).coming.length = s.wait.toNat := by
  have := h.w1
  show (List.replicate _ _ ++ [_]).length = _
  rw [List.length_append, List.length_replicate]
  show (s.wait - 1).toNat + 1 = _
  omega
theorem runS_len {s : Sto} (h : s.ok) : ∀ {x : Sit} (ms : List Int), x.coming.length = s.wait.toNat → (runS s x ms).coming.length = s.wait.toNat
  | _, [], k => k
  | x, d :: r, k => runS_len h (x := dayS s x d) r (dayS_len h k d)
theorem tupI_noscr {ms : List Int} (a : Addr) (ns : List Int) : tupI ms ≠ .scr a ns := by intro e; cases e

end Law
namespace Law
open PySem PySem.Spec PyProof.Rows L2 SR
variable {P : Program} {w : World} {K : PySem.W.Frag} {mg : Str → Option Value} {base : Heap} {f : Addr} {fd : FuncData}
def ArgR (CS CI CD : Addr) (W : Om) (XC : XCt) (d1 d2 d3 : D) (k : Sto → Int → List Int → Prop) : Prop :=
  KnD W d1 ∧ (isSt d1 = false → XC CS W) ∧ ∀ s : Sto, s.ok → d1 = s.d → (tyD W d2).isSome = true ∧ (betw d2 0 s.room = false → XC CI W) ∧
    ∀ x, 0 ≤ x → x ≤ s.room → d2 = .int x → KnD W d3 ∧ (isDm d3 = false → XC CD W) ∧ ∀ ms : List Int, ms.length ≤ 30 → (∀ m ∈ ms, 0 ≤ m ∧ m ≤ 9) → d3 = tupI ms → k s x ms
theorem ArgR.imp {CS CI CD : Addr} {W : Om} {XC : XCt} {d1 d2 d3 : D} {k k' : Sto → Int → List Int → Prop} (h : ArgR CS CI CD W XC d1 d2 d3 k)
    (i : ∀ (s : Sto) (x : Int) (ms : List Int), s.ok → 0 ≤ x → x ≤ s.room → ms.length ≤ 30 → (∀ m ∈ ms, 0 ≤ m ∧ m ≤ 9) → d1 = s.d → d2 = .int x → d3 = tupI ms → k s x ms → k' s x ms) : ArgR CS CI CD W XC d1 d2 d3 k' := by
  obtain ⟨h1, h2, h3⟩ := h
  refine ⟨h1, h2, fun s hs e1 => ?_⟩
  obtain ⟨a1, a2, a3⟩ := h3 s hs e1
  refine ⟨a1, a2, fun x hx0 hx1 e2 => ?_⟩
  obtain ⟨b1, b2, b3⟩ := a3 x hx0 hx1 e2
  exact ⟨b1, b2, fun ms hl hm e3 => i s x ms hs hx0 hx1 hl hm e1 e2 e3 (b3 ms hl hm e3)⟩
theorem argR_ok {CS CI CD : Addr} {W : Om} {XC : XCt} {k : Sto → Int → List Int → Prop} {s : Sto} {x : Int} {ms : List Int} (hs : s.ok) (h0 : 0 ≤ x) (h1 : x ≤ s.room) (hl : ms.length ≤ 30) (hm : ∀ m ∈ ms, 0 ≤ m ∧ m ≤ 9) (h : k s x ms) : ArgR CS CI CD W XC s.d (.int x) (tupI ms) k := by
  refine ⟨s.kn W, fun e => (by rw [Sto.is hs] at e; cases e), fun t ht e => ?_⟩
  cases Sto.d_inj e
  refine ⟨rfl, fun e => ?_, fun y _ _ e => ?_⟩
  · have : betw (.int x) 0 s.room = true := by simp [betw]; omega
    rw [this] at e; cases e
  · cases e
    refine ⟨knI ms W, fun e => (by rw [isDm_of hl hm] at e; cases e), fun ns _ _ e => ?_⟩
    rw [← tupI_inj e]
    exact h
theorem isDm_inv {d : D} (h : isDm d = true) : ∃ ms : List Int, ms.length ≤ 30 ∧ (∀ m ∈ ms, 0 ≤ m ∧ m ≤ 9) ∧ d = tupI ms := by
  unfold isDm at h
  split at h
  · rename_i xs
    simp only [Bool.and_eq_true, decide_eq_true_eq, List.all_eq_true] at h
    refine ⟨xs.map iv, by rw [List.length_map]; exact h.1, fun m hm => ?_, ?_⟩
    · obtain ⟨x, hx, rfl⟩ := List.mem_map.mp hm
      exact (betw_int (h.2 x hx)).2
    · show D.tup xs = D.tup _
      rw [List.map_map]
      congr 1
      have : ∀ x ∈ xs, (D.int ∘ iv) x = x := fun x hx => (betw_int (h.2 x hx)).1.symm
      rw [List.map_congr_left this]
      exact (List.map_id' _).symm
  · cases h
def S_check_run (CS CI CD : Addr) : SpT := fun ds W O XC => ∃ d1 d2 d3, ds = [d1, d2, d3] ∧ ArgR CS CI CD W XC d1 d2 d3 fun _ _ _ => O .non W
theorem ok_check_run {CS CI CD : Addr} (c1 : Cal P w K mg base 3 "check_store" ["value"] (S_check_store CS)) (c2 : Cal P w K mg base 2 "check_start" ["store", "start"] (S_check_start CI)) (c3 : Cal P w K mg base 2 "check_demands" ["demands"] (S_check_demands CD))
    (F : Fun K "check_run" "check_run" s_check_run f fd) (hm : mg "check_run" = some (.ref f)) (hb : Binds K fd ["store", "start", "demands"] []) : Cal P w K mg base 4 "check_run" ["store", "start", "demands"] (S_check_run CS CI CD) := by
  refine cal_mk F hm hb sc_check_run (fun ds W O XC h => ?_) (fun cdv A outer s H E ds W O XC hr h => ?_)
  · obtain ⟨d1, d2, d3, rfl, _⟩ := h
    rfl
  · obtain ⟨d1, d2, d3, rfl, h1, h2, h3⟩ := h
    refine xb_cons (xs_expr (xe_call c1 hr passX (xa_cons (xe_name 0 rfl (xa_nil ⟨d1, rfl, h1, fun e => ?_, h2⟩)))))
    obtain ⟨st, hs, rfl⟩ := isSt_of e
    obtain ⟨a1, a2, a3⟩ := h3 st hs rfl
    refine xb_cons (xs_expr (xe_call c2 (hr.mono (by decide)) passX (xa_cons (xe_name 0 rfl (xa_cons (xe_name 1 rfl (xa_nil ⟨st, d2, rfl, a1, fun e2 => ?_, a2⟩)))))))
    obtain ⟨ed, hx0, hx1⟩ := betw_int e2
    obtain ⟨b1, b2, b3⟩ := a3 _ hx0 hx1 ed
    refine xb_one (xs_expr (xe_call c3 (hr.mono (by decide)) passX (xa_cons (xe_name 2 rfl (xa_nil ⟨d3, rfl, b1, fun e3 => ?_, b2⟩)))))
    obtain ⟨ms, hl, hm, rfl⟩ := isDm_inv e3
    exact b3 ms hl hm rfl

end Law
namespace Law
open PySem PySem.Spec PyProof.Rows L2 SR
variable {P : Program} {w : World} {K : PySem.W.Frag} {mg : Str → Option Value} {base : Heap} {f : Addr} {fd : FuncData}
def S_days_of : SpT := fun ds W O _ => ∃ (s : Sto) (x : Int) (dm : D) (ms : List Int), ds = [s.d, .int x, dm] ∧ s.ok ∧ SeqD W dm (ms.map D.int) ∧ (∀ a ns, dm ≠ .scr a ns) ∧ ms.length ≤ 1000 ∧
  ∀ l, W l = none → O (.tup [.p l, (runS s (begunS s x) ms).d]) (updO W l (.lst ((rowsS s (begunS s x) ms).map DRow.d)))
theorem ok_days_of (c1 : Cal P w K mg base 3 "begun" ["store", "start"] S_begun) (c2 : Cal P w K mg base 3 "next_day" ["store", "situation", "demand"] S_next_day)
    (F : Fun K "days_of" "days_of" s_days_of f fd) (hm : mg "days_of" = some (.ref f)) (hb : Binds K fd ["store", "start", "demands"] []) : Cal P w K mg base 4 "days_of" ["store", "start", "demands"] S_days_of := by
  refine cal_mk F hm hb sc_days_of (fun ds W O XC h => ?_) (fun cdv A outer s H E ds W O XC hr h => ?_)
  · obtain ⟨st, x, dm, ms, rfl, _⟩ := h
    rfl
  · obtain ⟨st, x, dm, ms, rfl, hs, hq, hns, hl, h⟩ := h
    refine xb_nox (E' := E0) (xb_cons (xs_par 3 4 sc_days_of.nd (xa_cons (xe_call c1 hr pass0X (xa_cons (xe_name 0 rfl (xa_cons (xe_name 1 rfl (xa_nil ⟨st, x, rfl, hs, xa_cons (xe_lst (xa_nil ⟨by simp, fun l hl2 => xa_nil ⟨_, _, rfl, ?_⟩⟩))⟩)))))))))
    refine xb_cons (xs_for (fun i g' W' => ∃ y5 y6 y7 y8 y9, g' = [some st.d, some (.int x), some dm, some (runS st (begunS st x) (ms.take i)).d, some (.p l), y5, y6, y7, y8, y9] ∧ W' = updO W l (.lst ((rowsS st (begunS st x) (ms.take i)).map DRow.d))) ?_)
    refine XI.imp (O := fun ds ok W' => ds = ms.map D.int ∧ (∀ i : Nat, ok (updO W l (.lst ((rowsS st (begunS st x) (ms.take i)).map DRow.d)))) ∧ W' = updO W l (.lst [])) ?_ ?_
    · cases dm with
      | tup xs =>
        cases (show ms.map D.int = xs from hq)
        exact xi_tup (xe_name 2 rfl ⟨_, rfl, rfl, fun _ => trivial, rfl⟩)
      | p a =>
        have ha : W a = some (.lst (ms.map D.int)) := hq
        have hne : a ≠ l := neO ha hl2
        exact xi_lst (xe_name 2 rfl ⟨a, _, rfl, by rw [updO_ne hne]; exact ha, rfl, fun _ => by show updO _ _ _ _ = _; rw [updO_ne hne]; exact ha, rfl⟩)
      | scr a ns => exact (hns a ns rfl).elim
      | _ => exact False.elim hq
    · rintro ds ok W' ⟨rfl, hok, rfl⟩
      refine ⟨⟨_, _, _, _, _, rfl, rfl⟩, fun i g' W' ⟨_, _, _, _, _, _, e⟩ => by rw [e]; exact hok i, ?_, ?_⟩
      · rintro i d g' W' hd ⟨y5, y6, y7, y8, y9, rfl, rfl⟩
        obtain ⟨m, hm2, rfl⟩ : ∃ m, ms[i]? = some m ∧ d = .int m := by
          rw [List.getElem?_map] at hd
          cases q : ms[i]? with
          | none => rw [q] at hd; cases hd
          | some m => rw [q] at hd; exact ⟨m, rfl, (Option.some.inj hd).symm⟩
        have et : ms.take (i + 1) = ms.take i ++ [m] := by rw [List.take_add_one, hm2]; rfl
        have hlen := runS_len hs (x := begunS st x) (ms.take i) (begunS_len hs x)
        refine xg_name 5 sc_days_of.nd (xb_cons (xs_asg (xe_call c2 hr pass0X (xa_cons (xe_name 0 rfl (xa_cons (xe_name 3 rfl (xa_cons (xe_name 5 rfl (xa_nil ⟨st, _, m, rfl, hs, hlen, ?_⟩))))))))))
        refine xg_tup rfl (xgs_cons (xg_name 3 sc_days_of.nd (xgs_cons (xg_tup rfl (xgs_cons (xg_name 6 sc_days_of.nd (xgs_cons (xg_name 7 sc_days_of.nd (xgs_cons (xg_name 8 sc_days_of.nd (xgs_cons (xg_name 9 sc_days_of.nd (xgs_nil (xgs_nil ?_))))))))))))))
        refine xb_one (xs_expr (xe_append (xe_name 4 rfl ⟨l, _, rfl, updO_same, xe_tup (xa_cons (xe_name 6 rfl (xa_cons (xe_name 7 rfl (xa_cons (xe_name 8 rfl (xa_cons (xe_ix (xe_name 3 rfl (xe_int ⟨_, rfl, xa_cons (xe_name 9 rfl (xa_nil ⟨by simp, _, updO_same, ?_, ?_⟩))⟩))))))))))⟩)))
        · rw [List.length_map, rowsS_len, List.length_take]
          exact small1000 (Nat.le_trans (Nat.min_le_right _ _) (by omega))
        · rw [updO_updO]
          rw [et, runS_snoc, rowsS_snoc, List.map_append]
          exact ⟨_, _, _, _, _, rfl, rfl⟩
      · rintro g' W' ⟨y5, y6, y7, y8, y9, rfl, rfl⟩
        rw [List.length_map, List.take_length]
        exact xb_one (xs_ret (xe_tup (xa_cons (xe_name 4 rfl (xa_cons (xe_name 3 rfl (xa_nil ⟨by simp, h l hl2⟩)))))))
/-! ### run, situation_after, totals -/

end Law
namespace Law
open PySem PySem.Spec PyProof.Rows L2 SR
variable {P : Program} {w : World} {K : PySem.W.Frag} {mg : Str → Option Value} {base : Heap} {f : Addr} {fd : FuncData}
def S_run (CS CI CD : Addr) : SpT := fun ds W O XC => ∃ d1 d2 d3, ds = [d1, d2, d3] ∧ ArgR CS CI CD W XC d1 d2 d3 fun s x ms => O (.tup ((rowsS s (begunS s x) ms).map DRow.d)) W
theorem ok_run {CS CI CD : Addr} (B : Bi mg) (c1 : Cal P w K mg base 4 "check_run" ["store", "start", "demands"] (S_check_run CS CI CD)) (c2 : Cal P w K mg base 4 "days_of" ["store", "start", "demands"] S_days_of)
    (F : Fun K "run" "run" s_run f fd) (hm : mg "run" = some (.ref f)) (hb : Binds K fd ["store", "start", "demands"] []) : Cal P w K mg base 5 "run" ["store", "start", "demands"] (S_run CS CI CD) := by
  refine cal_mk F hm hb sc_run (fun ds W O XC h => ?_) (fun cdv A outer s H E ds W O XC hr h => ?_)
  · obtain ⟨d1, d2, d3, rfl, _⟩ := h
    rfl
  · obtain ⟨d1, d2, d3, rfl, h⟩ := h
    refine xb_cons (xs_expr (xe_call c1 hr passX (xa_cons (xe_name 0 rfl (xa_cons (xe_name 1 rfl (xa_cons (xe_name 2 rfl (xa_nil ⟨d1, d2, d3, rfl, h.imp fun st x ms hs hx0 hx1 hl hm e1 e2 e3 hk => ?_⟩)))))))))
    subst e1 e2 e3
    refine xb_one (xs_ret (xe_shr (xe_tuple B.tuple (xe_ix (xe_call c2 hr passX (xa_cons (xe_name 0 rfl (xa_cons (xe_name 1 rfl (xa_cons (xe_name 2 rfl (xa_nil ⟨st, x, _, ms, rfl, hs, rfl, tupI_noscr, by omega, fun l hl2 => xe_int ⟨_, rfl, _, updO_same, W, Sub.new hl2, hk⟩⟩))))))))))))

end Law
namespace Law
open PySem PySem.Spec PyProof.Rows L2 SR
variable {P : Program} {w : World} {K : PySem.W.Frag} {mg : Str → Option Value} {base : Heap} {f : Addr} {fd : FuncData}
def S_situation_after (CS CI CD : Addr) : SpT := fun ds W O XC => ∃ d1 d2 d3, ds = [d1, d2, d3] ∧ ArgR CS CI CD W XC d1 d2 d3 fun s x ms => O (runS s (begunS s x) ms).d W
theorem ok_situation_after {CS CI CD : Addr} (c1 : Cal P w K mg base 4 "check_run" ["store", "start", "demands"] (S_check_run CS CI CD)) (c2 : Cal P w K mg base 4 "days_of" ["store", "start", "demands"] S_days_of)
    (F : Fun K "situation_after" "situation_after" s_situation_after f fd) (hm : mg "situation_after" = some (.ref f)) (hb : Binds K fd ["store", "start", "demands"] []) : Cal P w K mg base 5 "situation_after" ["store", "start", "demands"] (S_situation_after CS CI CD) := by
  refine cal_mk F hm hb sc_situation_after (fun ds W O XC h => ?_) (fun cdv A outer s H E ds W O XC hr h => ?_)
  · obtain ⟨d1, d2, d3, rfl, _⟩ := h
    rfl
  · obtain ⟨d1, d2, d3, rfl, h⟩ := h
    refine xb_cons (xs_expr (xe_call c1 hr passX (xa_cons (xe_name 0 rfl (xa_cons (xe_name 1 rfl (xa_cons (xe_name 2 rfl (xa_nil ⟨d1, d2, d3, rfl, h.imp fun st x ms hs hx0 hx1 hl hm e1 e2 e3 hk => ?_⟩)))))))))
    subst e1 e2 e3
    refine xb_one (xs_ret (xe_shr (xe_ix (xe_call c2 hr passX (xa_cons (xe_name 0 rfl (xa_cons (xe_name 1 rfl (xa_cons (xe_name 2 rfl (xa_nil ⟨st, x, _, ms, rfl, hs, rfl, tupI_noscr, by omega, fun l hl2 => xe_int ⟨_, rfl, W, Sub.new hl2, hk⟩⟩)))))))))))

end Law
namespace Law
open PySem PySem.Spec PyProof.Rows L2 SR
variable {P : Program} {w : World} {K : PySem.W.Frag} {mg : Str → Option Value} {base : Heap} {f : Addr} {fd : FuncData}
/-- an entry of a row by its place -/
def rowAt (r : DRow) (i : Int) : Int := if i = 0 then r.came else if i = 1 then r.spilled else if i = 2 then r.missed else if i = 3 then r.stock else r.ordered
theorem rowAt_ok {r : DRow} {i : Int} (h0 : 0 ≤ i) (h1 : i ≤ 4) : atI [D.int r.came, .int r.spilled, .int r.missed, .int r.stock, .int r.ordered] i = some (.int (rowAt r i)) := by
  have : i = 0 ∨ i = 1 ∨ i = 2 ∨ i = 3 ∨ i = 4 := by omega
  rcases this with rfl | rfl | rfl | rfl | rfl <;> rfl
def irow : D → Int → Int
  | .tup xs, i => iv ((atI xs i).getD .non)
  | _, _ => 0
theorem irow_ok {r : DRow} {i : Int} (h0 : 0 ≤ i) (h1 : i ≤ 4) : irow r.d i = rowAt r i := by
  show iv ((atI [D.int r.came, .int r.spilled, .int r.missed, .int r.stock, .int r.ordered] i).getD .non) = _
  rw [rowAt_ok h0 h1]
  rfl

end Law
namespace Law
open PySem PySem.Spec PyProof.Rows L2 SR
variable {P : Program} {w : World} {K : PySem.W.Frag} {mg : Str → Option Value} {base : Heap} {f : Addr} {fd : FuncData}
/-! ### sums -/
abbrev sumOf (f : DRow → Int) (rs : List DRow) : Int := sumBy f rs
def totD (rs : List DRow) : D := .tup [.int (sumOf DRow.spilled rs), .int (sumOf DRow.missed rs), .int (sumOf DRow.ordered rs)]
def S_sums_of : SpT := fun ds W O _ => ∃ (s : Sto) (x : Int) (dm : D) (ms : List Int), ds = [s.d, .int x, dm] ∧ s.ok ∧ SeqD W dm (ms.map D.int) ∧ (∀ a ns, dm ≠ .scr a ns) ∧ ms.length ≤ 1000 ∧ O (totD (rowsS s (begunS s x) ms)) W
theorem ok_sums_of (B : Bi mg) (c1 : Cal P w K mg base 4 "days_of" ["store", "start", "demands"] S_days_of)
    (F : Fun K "sums_of" "sums_of" s_sums_of f fd) (hm : mg "sums_of" = some (.ref f)) (hb : Binds K fd ["store", "start", "demands"] []) : Cal P w K mg base 5 "sums_of" ["store", "start", "demands"] S_sums_of := by
  refine cal_mk F hm hb sc_sums_of (fun ds W O XC h => ?_) (fun cdv A outer s H E ds W O XC hr h => ?_)
  · obtain ⟨st, x, dm, ms, rfl, _⟩ := h
    rfl
  · obtain ⟨st, x, dm, ms, rfl, hs, hq, hns, hl, h⟩ := h
    refine xb_cons (xs_set 3 sc_sums_of.nd (xe_ix (xe_call c1 hr passX (xa_cons (xe_name 0 rfl (xa_cons (xe_name 1 rfl (xa_cons (xe_name 2 rfl (xa_nil ⟨st, x, dm, ms, rfl, hs, hq, hns, hl, fun l hl2 => xe_int ⟨_, rfl, ?_⟩⟩))))))))))
    generalize hrs : rowsS st (begunS st x) ms = rs at *
    have hrl : rs.length ≤ 1000 := by rw [← hrs, rowsS_len]; exact hl
    refine xb_one (xs_ret (xe_shr (xe_tuple B.tuple (xe_lcP [("place", 5)] sc_sums_of.nd (lcTg_name 5 sc_sums_of.nd) (blkOk_by (N := n_sums_of) (sc := defScope s_sums_of) (by decide +kernel)) (xi_tup (xe_tup (xa_cons (xe_int (xa_cons (xe_int (xa_cons (xe_int (xa_nil ⟨by simp, _, rfl, fun _ _ => trivial, le1000 (by simp), fun d => some (.int (sumOf (fun r => rowAt r (iv d)) rs)), fun i d W2 hd hs2 => ?_, fun l5 h5 => ?_⟩)))))))))))))
    · have hd : ∃ k : Int, d = .int k ∧ 0 ≤ k ∧ k ≤ 4 := by
        have := List.mem_of_getElem? hd
        simp only [List.mem_cons, List.not_mem_nil, or_false] at this
        rcases this with rfl | rfl | rfl
        · exact ⟨1, rfl, by decide, by decide⟩
        · exact ⟨2, rfl, by decide, by decide⟩
        · exact ⟨4, rfl, by decide, by decide⟩
      obtain ⟨k, rfl, hk0, hk4⟩ := hd
      refine ⟨_, rfl, fun s H C cl fp => ⟨Sub.refl _, fun _ s H C cl fp => ?_, fun z => by cases z⟩⟩
      have h3 : W2 l = some (.lst (rs.map DRow.d)) := hs2 _ _ updO_same
      refine xe_sum B.sum (xe_lcP [("row", 4)] sc_sums_of.nd (lcTg_name 4 sc_sums_of.nd) (blkOk_by (by rfl)) (xi_lst (xe_name 3 rfl ⟨l, _, rfl, h3, fun W3 hs3 => hs3 _ _ h3, by rw [List.length_map]; exact le1000 hrl, fun r => some (.int (irow r k)), fun j r W3 hr3 hs3 => ?_, fun l6 h6 => ?_⟩)))
      · obtain ⟨row, _, rfl⟩ := List.mem_map.mp (List.mem_of_getElem? hr3)
        refine ⟨_, rfl, fun s H C cl fp => ⟨Sub.refl _, fun _ s H C cl fp => ?_, fun z => by cases z⟩⟩
        refine xe_ix (xe_name 4 rfl (xe_name 5 rfl ⟨_, rowAt_ok hk0 hk4, Sub.refl _, ?_⟩))
        show some (D.int (irow row.d k)) = _
        rw [irow_ok hk0 hk4]
      · refine ⟨rs.map fun r => rowAt r k, ?_, Sub.new h6, rfl⟩
        show updO _ _ _ _ = _
        rw [updO_same, filterMap_some', List.map_map, List.map_map]
        congr 2
        refine List.map_congr_left fun r _ => ?_
        show D.int (irow r.d k) = D.int _
        rw [irow_ok hk0 hk4]
    · exact ⟨_, updO_same, W, (Sub.new hl2).trans (Sub.new h5), h⟩

end Law
namespace Law
open PySem PySem.Spec PyProof.Rows L2 SR
variable {P : Program} {w : World} {K : PySem.W.Frag} {mg : Str → Option Value} {base : Heap} {f : Addr} {fd : FuncData}
def S_totals (CS CI CD : Addr) : SpT := fun ds W O XC => ∃ d1 d2 d3, ds = [d1, d2, d3] ∧ ArgR CS CI CD W XC d1 d2 d3 fun s x ms => O (totD (rowsS s (begunS s x) ms)) W
theorem ok_totals {CS CI CD : Addr} (c1 : Cal P w K mg base 4 "check_run" ["store", "start", "demands"] (S_check_run CS CI CD)) (c2 : Cal P w K mg base 5 "sums_of" ["store", "start", "demands"] S_sums_of)
    (F : Fun K "totals" "totals" s_totals f fd) (hm : mg "totals" = some (.ref f)) (hb : Binds K fd ["store", "start", "demands"] []) : Cal P w K mg base 6 "totals" ["store", "start", "demands"] (S_totals CS CI CD) := by
  refine cal_mk F hm hb sc_totals (fun ds W O XC h => ?_) (fun cdv A outer s H E ds W O XC hr h => ?_)
  · obtain ⟨d1, d2, d3, rfl, _⟩ := h
    rfl
  · obtain ⟨d1, d2, d3, rfl, h⟩ := h
    refine xb_cons (xs_expr (xe_call c1 (hr.mono (by decide)) passX (xa_cons (xe_name 0 rfl (xa_cons (xe_name 1 rfl (xa_cons (xe_name 2 rfl (xa_nil ⟨d1, d2, d3, rfl, h.imp fun st x ms hs hx0 hx1 hl hm e1 e2 e3 hk => ?_⟩)))))))))
    subst e1 e2 e3
    exact xb_one (xs_ret (xe_call c2 hr passX (xa_cons (xe_name 0 rfl (xa_cons (xe_name 1 rfl (xa_cons (xe_name 2 rfl (xa_nil ⟨st, x, _, ms, rfl, hs, rfl, tupI_noscr, by omega, hk⟩)))))))))

end Law
namespace Law
open PySem PySem.Spec PyProof.Rows L2 SR
variable {P : Program} {w : World} {K : PySem.W.Frag} {mg : Str → Option Value} {base : Heap} {f : Addr} {fd : FuncData}
theorem isBd_of {d : D} (h : isBd d = true) : ∃ b : Bd, b.ok ∧ d = b.d := by
  unfold isBd at h
  split at h
  · rename_i l hi dy m
    simp only [Bool.and_eq_true] at h
    obtain ⟨h1, h2, h3, h4⟩ := h
    obtain ⟨e1, a1, a2⟩ := betw_int h1
    obtain ⟨e2, b1, b2⟩ := betw_int h2
    obtain ⟨e3, c1, c2⟩ := betw_int h3
    obtain ⟨e4, g1, g2⟩ := betw_int h4
    exact ⟨⟨iv l, iv hi, iv dy, iv m⟩, ⟨b1, b2, a2, c1, c2, g1, g2⟩, by rw [e1, e2, e3, e4]; rfl⟩
  · cases h
theorem _root_.SR.Bd.d_inj {a b : Bd} (h : a.d = b.d) : a = b := by
  obtain ⟨l, hi, dy, m⟩ := a
  obtain ⟨l2, hi2, dy2, m2⟩ := b
  simp only [Bd.d, D.tup.injEq, List.cons.injEq, D.int.injEq, and_true] at h
  obtain ⟨rfl, rfl, rfl, rfl⟩ := h
  rfl

end Law
namespace Law
open PySem PySem.Spec PyProof.Rows L2 SR
variable {P : Program} {w : World} {K : PySem.W.Frag} {mg : Str → Option Value} {base : Heap} {f : Addr} {fd : FuncData}
/-! ### wrong arguments -/
def Rs3 (CS CI CB : Addr) (W : Om) (XC : XCt) (d1 d2 d3 : D) (k : Prop) : Prop :=
  KnD W d1 ∧ (isSt d1 = false → XC CS W) ∧ ∀ s : Sto, s.ok → d1 = s.d → (tyD W d2).isSome = true ∧ (betw d2 0 s.room = false → XC CI W) ∧ (betw d2 0 s.room = true → KnD W d3 ∧ (isBd d3 = false → XC CB W) ∧ (isBd d3 = true → k))
theorem Rs3.imp {CS CI CB : Addr} {W : Om} {XC : XCt} {d1 d2 d3 : D} {k k' : Prop} (h : Rs3 CS CI CB W XC d1 d2 d3 k) (i : k → k') : Rs3 CS CI CB W XC d1 d2 d3 k' :=
  ⟨h.1, h.2.1, fun s hs e => ⟨(h.2.2 s hs e).1, (h.2.2 s hs e).2.1, fun e2 => ⟨((h.2.2 s hs e).2.2 e2).1, ((h.2.2 s hs e).2.2 e2).2.1, fun e3 => i (((h.2.2 s hs e).2.2 e2).2.2 e3)⟩⟩⟩
def S_check_threeX (CS CI CB : Addr) : SpT := fun ds W O XC => ∃ d1 d2 d3, ds = [d1, d2, d3] ∧ Rs3 CS CI CB W XC d1 d2 d3 (O .non W)
theorem ok_check_threeX {CS CI CB : Addr} (c1 : Cal P w K mg base 3 "check_store" ["value"] (S_check_store CS)) (c2 : Cal P w K mg base 2 "check_start" ["store", "start"] (S_check_start CI)) (c3 : Cal P w K mg base 3 "check_bounds" ["value"] (S_check_bounds CB))
    (F : Fun K "check_three" "check_three" s_check_three f fd) (hm : mg "check_three" = some (.ref f)) (hb : Binds K fd ["store", "start", "bounds"] []) : Cal P w K mg base 4 "check_three" ["store", "start", "bounds"] (S_check_threeX CS CI CB) := by
  refine cal_mk F hm hb sc_check_three (fun ds W O XC h => ?_) (fun cdv A outer s H E ds W O XC hr h => ?_)
  · obtain ⟨d1, d2, d3, rfl, _⟩ := h
    rfl
  · obtain ⟨d1, d2, d3, rfl, a1, a2, a3⟩ := h
    refine xb_cons (xs_expr (xe_call c1 hr passX (xa_cons (xe_name 0 rfl (xa_nil ⟨d1, rfl, a1, fun e => ?_, a2⟩)))))
    obtain ⟨st, hs, rfl⟩ := isSt_of e
    obtain ⟨b1, b2, b3⟩ := a3 st hs rfl
    refine xb_cons (xs_expr (xe_call c2 (hr.mono (by decide)) passX (xa_cons (xe_name 0 rfl (xa_cons (xe_name 1 rfl (xa_nil ⟨st, d2, rfl, b1, fun e => ?_, b2⟩)))))))
    obtain ⟨k1, k2, k3⟩ := b3 e
    exact xb_one (xs_expr (xe_call c3 hr passX (xa_cons (xe_name 2 rfl (xa_nil ⟨d3, rfl, k1, k3, k2⟩)))))
def S_r3 (CS CI CB : Addr) : SpT := fun ds W O XC => ∃ d1 d2 d3, ds = [d1, d2, d3] ∧ Rs3 CS CI CB W XC d1 d2 d3 False
def S_r3s (CS CI CB : Addr) : SpT := fun ds W O XC => ∃ d1 d2 d3 d4, ds = [d1, d2, d3, d4] ∧ Rs3 CS CI CB W XC d1 d2 d3 False
theorem ok_first_shortX {CS CI CB : Addr} (c1 : Cal P w K mg base 4 "check_three" ["store", "start", "bounds"] (S_check_threeX CS CI CB))
    (F : Fun K "first_short" "first_short" s_first_short f fd) (hm : mg "first_short" = some (.ref f)) (hb : Binds K fd ["store", "start", "bounds"] []) : Cal P w K mg base 5 "first_short" ["store", "start", "bounds"] (S_r3 CS CI CB) := by
  refine cal_mk F hm hb sc_first_short (fun ds W O XC h => ?_) (fun cdv A outer s H E ds W O XC hr h => ?_)
  · obtain ⟨d1, d2, d3, rfl, _⟩ := h
    rfl
  · obtain ⟨d1, d2, d3, rfl, h⟩ := h
    exact xb_cons (xs_expr (xe_call c1 hr passX (xa_cons (xe_name 0 rfl (xa_cons (xe_name 1 rfl (xa_cons (xe_name 2 rfl (xa_nil ⟨d1, d2, d3, rfl, h.imp False.elim⟩)))))))))
theorem ok_first_spillX {CS CI CB : Addr} (c1 : Cal P w K mg base 4 "check_three" ["store", "start", "bounds"] (S_check_threeX CS CI CB))
    (F : Fun K "first_spill" "first_spill" s_first_spill f fd) (hm : mg "first_spill" = some (.ref f)) (hb : Binds K fd ["store", "start", "bounds"] []) : Cal P w K mg base 5 "first_spill" ["store", "start", "bounds"] (S_r3 CS CI CB) := by
  refine cal_mk F hm hb sc_first_spill (fun ds W O XC h => ?_) (fun cdv A outer s H E ds W O XC hr h => ?_)
  · obtain ⟨d1, d2, d3, rfl, _⟩ := h
    rfl
  · obtain ⟨d1, d2, d3, rfl, h⟩ := h
    exact xb_cons (xs_expr (xe_call c1 hr passX (xa_cons (xe_name 0 rfl (xa_cons (xe_name 1 rfl (xa_cons (xe_name 2 rfl (xa_nil ⟨d1, d2, d3, rfl, h.imp False.elim⟩)))))))))
theorem ok_is_safeX {CS CI CB : Addr} (c1 : Cal P w K mg base 4 "check_three" ["store", "start", "bounds"] (S_check_threeX CS CI CB))
    (F : Fun K "is_safe" "is_safe" s_is_safe f fd) (hm : mg "is_safe" = some (.ref f)) (hb : Binds K fd ["store", "start", "bounds"] []) : Cal P w K mg base 5 "is_safe" ["store", "start", "bounds"] (S_r3 CS CI CB) := by
  refine cal_mk F hm hb sc_is_safe (fun ds W O XC h => ?_) (fun cdv A outer s H E ds W O XC hr h => ?_)
  · obtain ⟨d1, d2, d3, rfl, _⟩ := h
    rfl
  · obtain ⟨d1, d2, d3, rfl, h⟩ := h
    exact xb_cons (xs_expr (xe_call c1 hr passX (xa_cons (xe_name 0 rfl (xa_cons (xe_name 1 rfl (xa_cons (xe_name 2 rfl (xa_nil ⟨d1, d2, d3, rfl, h.imp False.elim⟩)))))))))
theorem ok_count_situationsX {CS CI CB : Addr} (c1 : Cal P w K mg base 4 "check_three" ["store", "start", "bounds"] (S_check_threeX CS CI CB))
    (F : Fun K "count_situations" "count_situations" s_count_situations f fd) (hm : mg "count_situations" = some (.ref f)) (hb : Binds K fd ["store", "start", "bounds"] []) : Cal P w K mg base 5 "count_situations" ["store", "start", "bounds"] (S_r3 CS CI CB) := by
  refine cal_mk F hm hb sc_count_situations (fun ds W O XC h => ?_) (fun cdv A outer s H E ds W O XC hr h => ?_)
  · obtain ⟨d1, d2, d3, rfl, _⟩ := h
    rfl
  · obtain ⟨d1, d2, d3, rfl, h⟩ := h
    exact xb_cons (xs_expr (xe_call c1 hr passX (xa_cons (xe_name 0 rfl (xa_cons (xe_name 1 rfl (xa_cons (xe_name 2 rfl (xa_nil ⟨d1, d2, d3, rfl, h.imp False.elim⟩)))))))))
theorem ok_least_levelX {CS CI CB : Addr} (c1 : Cal P w K mg base 4 "check_three" ["store", "start", "bounds"] (S_check_threeX CS CI CB))
    (F : Fun K "least_level" "least_level" s_least_level f fd) (hm : mg "least_level" = some (.ref f)) (hb : Binds K fd ["store", "start", "bounds"] []) : Cal P w K mg base 5 "least_level" ["store", "start", "bounds"] (S_r3 CS CI CB) := by
  refine cal_mk F hm hb sc_least_level (fun ds W O XC h => ?_) (fun cdv A outer s H E ds W O XC hr h => ?_)
  · obtain ⟨d1, d2, d3, rfl, _⟩ := h
    rfl
  · obtain ⟨d1, d2, d3, rfl, h⟩ := h
    exact xb_cons (xs_expr (xe_call c1 hr passX (xa_cons (xe_name 0 rfl (xa_cons (xe_name 1 rfl (xa_cons (xe_name 2 rfl (xa_nil ⟨d1, d2, d3, rfl, h.imp False.elim⟩)))))))))
theorem ok_extremeX {CS CI CB : Addr} (c1 : Cal P w K mg base 4 "check_three" ["store", "start", "bounds"] (S_check_threeX CS CI CB))
    (F : Fun K "extreme" "extreme" s_extreme f fd) (hm : mg "extreme" = some (.ref f)) (hb : Binds K fd ["store", "start", "bounds", "sign"] []) : Cal P w K mg base 5 "extreme" ["store", "start", "bounds", "sign"] (S_r3s CS CI CB) := by
  refine cal_mk F hm hb sc_extreme (fun ds W O XC h => ?_) (fun cdv A outer s H E ds W O XC hr h => ?_)
  · obtain ⟨d1, d2, d3, d4, rfl, _⟩ := h
    rfl
  · obtain ⟨d1, d2, d3, d4, rfl, h⟩ := h
    exact xb_cons (xs_expr (xe_call c1 hr passX (xa_cons (xe_name 0 rfl (xa_cons (xe_name 1 rfl (xa_cons (xe_name 2 rfl (xa_nil ⟨d1, d2, d3, rfl, h.imp False.elim⟩)))))))))
theorem ok_highestX {CS CI CB : Addr} (c1 : Cal P w K mg base 5 "extreme" ["store", "start", "bounds", "sign"] (S_r3s CS CI CB))
    (F : Fun K "highest" "highest" s_highest f fd) (hm : mg "highest" = some (.ref f)) (hb : Binds K fd ["store", "start", "bounds"] []) : Cal P w K mg base 6 "highest" ["store", "start", "bounds"] (S_r3 CS CI CB) := by
  refine cal_mk F hm hb sc_highest (fun ds W O XC h => ?_) (fun cdv A outer s H E ds W O XC hr h => ?_)
  · obtain ⟨d1, d2, d3, rfl, _⟩ := h
    rfl
  · obtain ⟨d1, d2, d3, rfl, h⟩ := h
    exact xb_one (xs_ret (xe_call c1 hr passX (xa_cons (xe_name 0 rfl (xa_cons (xe_name 1 rfl (xa_cons (xe_name 2 rfl (xa_cons (xe_int (xa_nil ⟨d1, d2, d3, _, rfl, h⟩)))))))))))
theorem ok_lowestX {CS CI CB : Addr} (c1 : Cal P w K mg base 5 "extreme" ["store", "start", "bounds", "sign"] (S_r3s CS CI CB))
    (F : Fun K "lowest" "lowest" s_lowest f fd) (hm : mg "lowest" = some (.ref f)) (hb : Binds K fd ["store", "start", "bounds"] []) : Cal P w K mg base 6 "lowest" ["store", "start", "bounds"] (S_r3 CS CI CB) := by
  refine cal_mk F hm hb sc_lowest (fun ds W O XC h => ?_) (fun cdv A outer s H E ds W O XC hr h => ?_)
  · obtain ⟨d1, d2, d3, rfl, _⟩ := h
    rfl
  · obtain ⟨d1, d2, d3, rfl, h⟩ := h
    exact xb_one (xs_ret (xe_call c1 hr passX (xa_cons (xe_name 0 rfl (xa_cons (xe_name 1 rfl (xa_cons (xe_name 2 rfl (xa_cons (xe_neg (xe_int ⟨_, rfl, xa_nil ⟨d1, d2, d3, _, rfl, h⟩⟩)))))))))))
def S_r2 (CS CB : Addr) : SpT := fun ds W O XC => ∃ d1 d3, ds = [d1, d3] ∧ KnD W d1 ∧ (isSt d1 = false → XC CS W) ∧ (isSt d1 = true → KnD W d3 ∧ (isBd d3 = false → XC CB W) ∧ (isBd d3 = true → False))
theorem ok_found_startsX {CS CB : Addr} (c1 : Cal P w K mg base 3 "check_store" ["value"] (S_check_store CS)) (c2 : Cal P w K mg base 3 "check_bounds" ["value"] (S_check_bounds CB))
    (F : Fun K "found_starts" "found_starts" s_found_starts f fd) (hm : mg "found_starts" = some (.ref f)) (hb : Binds K fd ["store", "bounds"] []) : Cal P w K mg base 4 "found_starts" ["store", "bounds"] (S_r2 CS CB) := by
  refine cal_mk F hm hb sc_found_starts (fun ds W O XC h => ?_) (fun cdv A outer s H E ds W O XC hr h => ?_)
  · obtain ⟨d1, d3, rfl, _⟩ := h
    rfl
  · obtain ⟨d1, d3, rfl, a1, a2, a3⟩ := h
    refine xb_cons (xs_expr (xe_call c1 hr passX (xa_cons (xe_name 0 rfl (xa_nil ⟨d1, rfl, a1, fun e => ?_, a2⟩)))))
    obtain ⟨k1, k2, k3⟩ := a3 e
    exact xb_cons (xs_expr (xe_call c2 hr passX (xa_cons (xe_name 1 rfl (xa_nil ⟨d3, rfl, k1, fun e => (k3 e).elim, k2⟩)))))
theorem ok_least_startX {CS CB : Addr} (c1 : Cal P w K mg base 4 "found_starts" ["store", "bounds"] (S_r2 CS CB))
    (F : Fun K "least_start" "least_start" s_least_start f fd) (hm : mg "least_start" = some (.ref f)) (hb : Binds K fd ["store", "bounds"] []) : Cal P w K mg base 5 "least_start" ["store", "bounds"] (S_r2 CS CB) := by
  refine cal_mk F hm hb sc_least_start (fun ds W O XC h => ?_) (fun cdv A outer s H E ds W O XC hr h => ?_)
  · obtain ⟨d1, d3, rfl, _⟩ := h
    rfl
  · obtain ⟨d1, d3, rfl, h⟩ := h
    exact xb_cons (xs_set 2 sc_least_start.nd (xe_call c1 hr passX (xa_cons (xe_name 0 rfl (xa_cons (xe_name 1 rfl (xa_nil ⟨d1, d3, rfl, h⟩)))))))
theorem ok_safe_startsX {CS CB : Addr} (B : Bi mg) (c1 : Cal P w K mg base 4 "found_starts" ["store", "bounds"] (S_r2 CS CB))
    (F : Fun K "safe_starts" "safe_starts" s_safe_starts f fd) (hm : mg "safe_starts" = some (.ref f)) (hb : Binds K fd ["store", "bounds"] []) : Cal P w K mg base 5 "safe_starts" ["store", "bounds"] (S_r2 CS CB) := by
  refine cal_mk F hm hb sc_safe_starts (fun ds W O XC h => ?_) (fun cdv A outer s H E ds W O XC hr h => ?_)
  · obtain ⟨d1, d3, rfl, _⟩ := h
    rfl
  · obtain ⟨d1, d3, rfl, h⟩ := h
    exact xb_one (xs_ret (xe_tuple B.tuple (xe_call c1 hr passX (xa_cons (xe_name 0 rfl (xa_cons (xe_name 1 rfl (xa_nil ⟨d1, d3, rfl, h⟩))))))))
/-! ### wrong days -/
def Rs4 (CS CI CB CY : Addr) (W : Om) (XC : XCt) (d1 d2 d3 d4 : D) : Prop := Rs3 CS CI CB W XC d1 d2 d3 ((tyD W d4).isSome = true ∧ betw d4 0 10 = false ∧ XC CY W)
def S_r6 (CS CI CB CY : Addr) : SpT := fun ds W O XC => ∃ d1 d2 d3 d4 d5 d6, ds = [d1, d2, d3, d4, d5, d6] ∧ Rs4 CS CI CB CY W XC d1 d2 d3 d4
def S_r4 (CS CI CB CY : Addr) : SpT := fun ds W O XC => ∃ d1 d2 d3 d4, ds = [d1, d2, d3, d4] ∧ Rs4 CS CI CB CY W XC d1 d2 d3 d4
theorem ok_greatest_sumX {CS CI CB CY : Addr} (cY : ExC K mg "InvalidDays" CY) (c0 : CBetw P w K mg base) (c1 : Cal P w K mg base 4 "check_three" ["store", "start", "bounds"] (S_check_threeX CS CI CB))
    (F : Fun K "greatest_sum" "greatest_sum" s_greatest_sum f fd) (hm : mg "greatest_sum" = some (.ref f)) (hb : Binds K fd ["store", "start", "bounds", "days", "place", "sign"] []) : Cal P w K mg base 5 "greatest_sum" ["store", "start", "bounds", "days", "place", "sign"] (S_r6 CS CI CB CY) := by
  refine cal_mk F hm hb sc_greatest_sum (fun ds W O XC h => ?_) (fun cdv A outer s H E ds W O XC hr h => ?_)
  · obtain ⟨d1, d2, d3, d4, d5, d6, rfl, _⟩ := h
    rfl
  · obtain ⟨d1, d2, d3, d4, d5, d6, rfl, h⟩ := h
    refine xb_cons (xs_expr (xe_call c1 hr passX (xa_cons (xe_name 0 rfl (xa_cons (xe_name 1 rfl (xa_cons (xe_name 2 rfl (xa_nil ⟨d1, d2, d3, rfl, h.imp fun ⟨t1, t2, t3⟩ => ?_⟩)))))))))
    refine xb_cons (xs_if (xt_not (xt_val (xe_call c0 (hr.mono (by decide)) passX (xa_cons (xe_name 3 rfl (xa_cons (xe_int (xa_cons (xe_int (xa_nil ⟨d4, 0, 10, rfl, t1, _, rfl, fun e => ?_, fun e => ?_⟩)))))))))))
    · exact xb_one (xs_raise cY (takes_of rfl rfl rfl rfl) t3)
    · rw [t2] at e; cases e
theorem ok_most_missedX {CS CI CB CY : Addr} (c1 : Cal P w K mg base 5 "greatest_sum" ["store", "start", "bounds", "days", "place", "sign"] (S_r6 CS CI CB CY))
    (F : Fun K "most_missed" "most_missed" s_most_missed f fd) (hm : mg "most_missed" = some (.ref f)) (hb : Binds K fd ["store", "start", "bounds", "days"] []) : Cal P w K mg base 6 "most_missed" ["store", "start", "bounds", "days"] (S_r4 CS CI CB CY) := by
  refine cal_mk F hm hb sc_most_missed (fun ds W O XC h => ?_) (fun cdv A outer s H E ds W O XC hr h => ?_)
  · obtain ⟨d1, d2, d3, d4, rfl, _⟩ := h
    rfl
  · obtain ⟨d1, d2, d3, d4, rfl, h⟩ := h
    exact xb_one (xs_ret (xe_call c1 hr passX (xa_cons (xe_name 0 rfl (xa_cons (xe_name 1 rfl (xa_cons (xe_name 2 rfl (xa_cons (xe_name 3 rfl (xa_cons (xe_int (xa_cons (xe_int (xa_nil ⟨d1, d2, d3, d4, _, _, rfl, h⟩)))))))))))))))
theorem ok_most_orderedX {CS CI CB CY : Addr} (c1 : Cal P w K mg base 5 "greatest_sum" ["store", "start", "bounds", "days", "place", "sign"] (S_r6 CS CI CB CY))
    (F : Fun K "most_ordered" "most_ordered" s_most_ordered f fd) (hm : mg "most_ordered" = some (.ref f)) (hb : Binds K fd ["store", "start", "bounds", "days"] []) : Cal P w K mg base 6 "most_ordered" ["store", "start", "bounds", "days"] (S_r4 CS CI CB CY) := by
  refine cal_mk F hm hb sc_most_ordered (fun ds W O XC h => ?_) (fun cdv A outer s H E ds W O XC hr h => ?_)
  · obtain ⟨d1, d2, d3, d4, rfl, _⟩ := h
    rfl
  · obtain ⟨d1, d2, d3, d4, rfl, h⟩ := h
    exact xb_one (xs_ret (xe_call c1 hr passX (xa_cons (xe_name 0 rfl (xa_cons (xe_name 1 rfl (xa_cons (xe_name 2 rfl (xa_cons (xe_name 3 rfl (xa_cons (xe_int (xa_cons (xe_int (xa_nil ⟨d1, d2, d3, d4, _, _, rfl, h⟩)))))))))))))))
theorem ok_most_spilledX {CS CI CB CY : Addr} (c1 : Cal P w K mg base 5 "greatest_sum" ["store", "start", "bounds", "days", "place", "sign"] (S_r6 CS CI CB CY))
    (F : Fun K "most_spilled" "most_spilled" s_most_spilled f fd) (hm : mg "most_spilled" = some (.ref f)) (hb : Binds K fd ["store", "start", "bounds", "days"] []) : Cal P w K mg base 6 "most_spilled" ["store", "start", "bounds", "days"] (S_r4 CS CI CB CY) := by
  refine cal_mk F hm hb sc_most_spilled (fun ds W O XC h => ?_) (fun cdv A outer s H E ds W O XC hr h => ?_)
  · obtain ⟨d1, d2, d3, d4, rfl, _⟩ := h
    rfl
  · obtain ⟨d1, d2, d3, d4, rfl, h⟩ := h
    exact xb_one (xs_ret (xe_call c1 hr passX (xa_cons (xe_name 0 rfl (xa_cons (xe_name 1 rfl (xa_cons (xe_name 2 rfl (xa_cons (xe_name 3 rfl (xa_cons (xe_int (xa_cons (xe_int (xa_nil ⟨d1, d2, d3, d4, _, _, rfl, h⟩)))))))))))))))
theorem ok_fewest_orderedX {CS CI CB CY : Addr} (c1 : Cal P w K mg base 5 "greatest_sum" ["store", "start", "bounds", "days", "place", "sign"] (S_r6 CS CI CB CY))
    (F : Fun K "fewest_ordered" "fewest_ordered" s_fewest_ordered f fd) (hm : mg "fewest_ordered" = some (.ref f)) (hb : Binds K fd ["store", "start", "bounds", "days"] []) : Cal P w K mg base 6 "fewest_ordered" ["store", "start", "bounds", "days"] (S_r4 CS CI CB CY) := by
  refine cal_mk F hm hb sc_fewest_ordered (fun ds W O XC h => ?_) (fun cdv A outer s H E ds W O XC hr h => ?_)
  · obtain ⟨d1, d2, d3, d4, rfl, _⟩ := h
    rfl
  · obtain ⟨d1, d2, d3, d4, rfl, h⟩ := h
    exact xb_one (xs_ret (xe_call c1 hr passX (xa_cons (xe_name 0 rfl (xa_cons (xe_name 1 rfl (xa_cons (xe_name 2 rfl (xa_cons (xe_name 3 rfl (xa_cons (xe_int (xa_cons (xe_neg (xe_int ⟨_, rfl, xa_nil ⟨d1, d2, d3, d4, _, _, rfl, h⟩⟩)))))))))))))))
/-! ### order_for, first_situation -/
def S_order_forX (CS CP : Addr) : SpT := fun ds W O XC => ∃ d1 d2, ds = [d1, d2] ∧ KnD W d1 ∧ (isSt d1 = false → XC CS W) ∧ ∀ s : Sto, s.ok → d1 = s.d → (tyD W d2).isSome = true ∧ (betw d2 0 40 = true → O (.int (amount s (iv d2))) W) ∧ (betw d2 0 40 = false → XC CP W)
theorem ok_order_forX {CS CP : Addr} (cP : ExC K mg "InvalidPosition" CP) (c1 : Cal P w K mg base 3 "check_store" ["value"] (S_check_store CS)) (c2 : CBetw P w K mg base) (c3 : Cal P w K mg base 1 "amount_for" ["store", "position"] S_amount_for)
    (F : Fun K "order_for" "order_for" s_order_for f fd) (hm : mg "order_for" = some (.ref f)) (hb : Binds K fd ["store", "position"] []) : Cal P w K mg base 4 "order_for" ["store", "position"] (S_order_forX CS CP) := by
  refine cal_mk F hm hb sc_order_for (fun ds W O XC h => ?_) (fun cdv A outer s H E ds W O XC hr h => ?_)
  · obtain ⟨d1, d2, rfl, _⟩ := h
    rfl
  · obtain ⟨d1, d, rfl, a1, a2, a3⟩ := h
    refine xb_cons (xs_expr (xe_call c1 hr passX (xa_cons (xe_name 0 rfl (xa_nil ⟨d1, rfl, a1, fun e => ?_, a2⟩)))))
    obtain ⟨st, hs, rfl⟩ := isSt_of e
    obtain ⟨ht, h1, h2⟩ := a3 st hs rfl
    refine xb_cons (xs_if (xt_not (xt_val (xe_call c2 (hr.mono (by decide)) passX (xa_cons (xe_name 1 rfl (xa_cons (xe_int (xa_cons (xe_int (xa_nil ⟨d, 0, 40, rfl, ht, _, rfl, fun e => ?_, fun e => xb_nil ?_⟩)))))))))))
    · exact xb_one (xs_raise cP (takes_of rfl rfl rfl rfl) (h2 (by simpa using e)))
    · have e : betw d 0 40 = true := by simpa using e
      obtain ⟨ed, _, _⟩ := betw_int e
      exact xb_one (xs_ret (xe_call c3 (hr.mono (by decide)) passX (xa_cons (xe_name 0 rfl (xa_cons (xe_name 1 rfl (xa_nil ⟨st, iv d, by rw [← ed], hs, h1 e⟩)))))))
def S_r1 (CS CI : Addr) : SpT := fun ds W O XC => ∃ d1 d2, ds = [d1, d2] ∧ KnD W d1 ∧ (isSt d1 = false → XC CS W) ∧ ∀ s : Sto, s.ok → d1 = s.d → (tyD W d2).isSome = true ∧ betw d2 0 s.room = false ∧ XC CI W
theorem ok_first_situationX {CS CI : Addr} (c1 : Cal P w K mg base 3 "check_store" ["value"] (S_check_store CS)) (c2 : Cal P w K mg base 2 "check_start" ["store", "start"] (S_check_start CI))
    (F : Fun K "first_situation" "first_situation" s_first_situation f fd) (hm : mg "first_situation" = some (.ref f)) (hb : Binds K fd ["store", "start"] []) : Cal P w K mg base 4 "first_situation" ["store", "start"] (S_r1 CS CI) := by
  refine cal_mk F hm hb sc_first_situation (fun ds W O XC h => ?_) (fun cdv A outer s H E ds W O XC hr h => ?_)
  · obtain ⟨d1, d2, rfl, _⟩ := h
    rfl
  · obtain ⟨d1, d, rfl, a1, a2, a3⟩ := h
    refine xb_cons (xs_expr (xe_call c1 hr passX (xa_cons (xe_name 0 rfl (xa_nil ⟨d1, rfl, a1, fun e => ?_, a2⟩)))))
    obtain ⟨st, hs, rfl⟩ := isSt_of e
    obtain ⟨t1, t2, t3⟩ := a3 st hs rfl
    exact xb_cons (xs_expr (xe_call c2 (hr.mono (by decide)) passX (xa_cons (xe_name 0 rfl (xa_cons (xe_name 1 rfl (xa_nil ⟨st, d, rfl, t1, fun e => (by rw [t2] at e; cases e), fun _ => t3⟩)))))))

end Law
namespace Law
open PySem PySem.Spec PyProof.Rows L2 SR
variable {P : Program} {w : World} {K : PySem.W.Frag} {mg : Str → Option Value} {base : Heap} {f : Addr} {fd : FuncData}
/-! ### the town -/
def S_law_town : SpT := fun ds W O _ => ∃ a ns, ds = [.scr a ns] ∧ ns.length ≤ 63 ∧ ∀ l, W l = none → O (.p l) (updO W l (.lst (.int 0 :: ns.map D.int)))
theorem ok_law_town (B : Bi mg) (F : Fun K "_law_town" "_law_town" s__law_town f fd) (hm : mg "_law_town" = some (.ref f)) (hb : Binds K fd ["script"] []) : Cal P w K mg base 1 "_law_town" ["script"] S_law_town := by
  refine cal_mk F hm hb sc__law_town (fun ds W O XC h => ?_) (fun cdv A outer s H E ds W O XC hr h => ?_)
  · obtain ⟨a, ns, rfl, _⟩ := h
    rfl
  · obtain ⟨a, ns, rfl, hl, h⟩ := h
    refine xb_one (xs_ret (xe_shr (xe_add (xe_lst (xa_cons (xe_int (xa_nil ⟨by simp, fun l1 h1 => ?_⟩)))))))
    refine xe_list B.list (xe_name 0 rfl ⟨ns.map D.int, rfl, fun l2 h2 => ?_⟩)
    have ne : l1 ≠ l2 := fun e => by subst e; rw [updO_same] at h2; cases h2
    refine ⟨[.int 0], ns.map D.int, by rw [updO_ne ne, updO_same], updO_same, le1000 (by simp; omega), fun p hp => ?_⟩
    have hp1 : W p = none := by
      have q := hp
      unfold updO at q
      split at q
      · cases q
      · split at q
        · cases q
        · exact q
    refine ⟨updO W p (.lst (.int 0 :: ns.map D.int)), fun b o e => ?_, h p hp1⟩
    by_cases hb : b = p
    · subst hb; rw [updO_same] at e ⊢; exact e
    · rw [updO_ne hb] at e ⊢
      have h1' : W l1 = none := h1
      rw [updO_ne (fun z => by subst z; rw [updO_ne (show b ≠ l1 from neO e h1')] at h2; rw [h2] at e; cases e), updO_ne (neO e h1')]
      exact e
/-! ### a draw -/
/-- the town behind at most n draws -/
def TwO (ns : List Int) (n : Nat) (ob : Ob) : Prop := ∃ (t : Int) (ls : List Int), ob = .lst (.int t :: ls.map D.int) ∧ ls.length = ns.length ∧ 0 ≤ t ∧ t ≤ n
theorem TwO.mono {ns : List Int} {n m : Nat} {ob : Ob} (h : TwO ns n ob) (hm : n ≤ m) : TwO ns m ob := by
  obtain ⟨t, ls, e, hl, h0, h1⟩ := h
  exact ⟨t, ls, e, hl, h0, by omega⟩
def S_law_draw : SpT := fun ds W O _ => ∃ a ns tw lim n ob, ds = [.scr a ns, .p tw, .int lim] ∧ ns.length ≤ 63 ∧ 0 < lim ∧ lim ≤ 1000 ∧ W tw = some ob ∧ TwO ns n ob ∧ n ≤ 100000 ∧ ∀ r ob', 0 ≤ r → r < lim → TwO ns (n + 1) ob' → O (.int r) (updO W tw ob')
theorem ok_law_draw (B : Bi mg) (F : Fun K "_law_draw" "_law_draw" s__law_draw f fd) (hm : mg "_law_draw" = some (.ref f)) (hb : Binds K fd ["script", "town", "limit"] []) : Cal P w K mg base 1 "_law_draw" ["script", "town", "limit"] S_law_draw := by
  refine cal_mk F hm hb sc__law_draw (fun ds W O XC h => ?_) (fun cdv A outer s H E ds W O XC hr h => ?_)
  · obtain ⟨a, ns, tw, lim, n, ob, rfl, _⟩ := h
    rfl
  · obtain ⟨a, ns, tw, lim, n, ob, rfl, hl, hp, hq, htw, ⟨t, ls, rfl, hls, h0, h1⟩, hn, h⟩ := h
    have cm : ∀ x : Int, CMul x 7 := fun x => .inr ⟨by decide, by decide⟩
    have ct : CMul (t + 1) (t + 1) := .inl ⟨by omega, by omega⟩
    -- town[0] = town[0] + 1
    refine xb_cons (xs_asg (xe_add (xe_ix (xe_name 1 rfl (xe_int ⟨_, .int t, htw, at0 _ _, xe_int (xg_sub (xe_name 1 rfl (xe_int ⟨tw, _, 0, 0, rfl, rfl, htw, ix0 _ _, ?_⟩)))⟩)))))
    rw [show (D.int t :: ls.map D.int).set 0 (.int (t + 1)) = .int (t + 1) :: ls.map D.int from rfl]
    have ht1 : ∀ W', updO W tw (.lst (.int (t + 1) :: ls.map D.int)) = W' → W' tw = some (.lst (.int (t + 1) :: ls.map D.int)) := fun W' e => by rw [← e, updO_same]
    have TT : TwO ns (n + 1) (.lst (.int (t + 1) :: ls.map D.int)) := ⟨t + 1, ls, rfl, hls, by omega, by omega⟩
    -- if script == []
    refine xb_cons (xs_if (xt_eq hr.units (xe_name 0 rfl (xe_lst (xa_nil ⟨by simp, fun l hl2 => ?_⟩)))))
    have hne : tw ≠ l := neO updO_same hl2
    refine ⟨_, .list [], rfl, by simp [topP, updO_same, toPs], shaped_ints ns, by rfl, _, rfl, fun e => ?_, fun e => ?_⟩
    · rw [eqv_nil] at e
      refine xb_sub (Sub.new hl2) ?_
      refine xb_one (xs_ret (xe_mod (xe_div (xe_mul (xe_mul (xe_ix (xe_name 1 rfl (xe_int ⟨_, _, updO_same, at0 _ _, xe_ix (xe_name 1 rfl (xe_int ⟨_, _, updO_same, at0 _ _, _, _, rfl, rfl, ct, ?_⟩))⟩))))))))
      refine xe_int ⟨_, _, rfl, rfl, cm _, xe_int ⟨_, _, rfl, rfl, ⟨by decide, by decide⟩, xe_name 2 rfl ⟨_, _, rfl, rfl, hp, ?_⟩⟩⟩
      exact h _ _ (Int.emod_nonneg _ (by omega)) (Int.emod_lt_of_pos _ hp) TT
    · rw [eqv_nil] at e
      refine xb_sub (Sub.new hl2) (xb_nil ?_)
      have hpos : 0 < ns.length := by
        cases ns with
        | nil => simp at e
        | cons a b => simp
      -- at = town[0] % len(script)
      refine xb_cons (xs_set 3 sc__law_draw.nd (xe_mod (xe_ix (xe_name 1 rfl (xe_int ⟨_, _, updO_same, at0 _ _, xe_len B.len (xe_name 0 rfl ⟨_, rfl, _, _, rfl, rfl, by simp; omega, ?_⟩)⟩)))))
      rw [List.length_map]
      have a0 : 0 ≤ (t + 1) % (ns.length : Int) := Int.emod_nonneg _ (by omega)
      have a1 : (t + 1) % (ns.length : Int) < ns.length := Int.emod_lt_of_pos _ (by omega)
      generalize hat : (t + 1) % (ns.length : Int) = k at *
      have gs : ∃ x, atI ns k = some x := ⟨ns[k.toNat]'(by omega), by
        have := atI_nat (xs := ns) (j := k.toNat) (List.getElem?_eq_getElem (by omega))
        rw [show ((k.toNat : Nat) : Int) = k by omega] at this
        exact this⟩
      obtain ⟨x, hx⟩ := gs
      have gl : ∃ y, ls[k.toNat]? = some y := ⟨ls[k.toNat]'(by omega), List.getElem?_eq_getElem (by omega)⟩
      obtain ⟨y, hy⟩ := gl
      have hy1 : atI (D.int (t + 1) :: ls.map D.int) (1 + k) = some (.int y) := by
        have := atI_nat (xs := D.int (t + 1) :: ls.map D.int) (j := k.toNat + 1) (v := .int y) (by rw [List.getElem?_cons_succ, List.getElem?_map, hy]; rfl)
        rw [show ((k.toNat + 1 : Nat) : Int) = 1 + k by omega] at this
        exact this
      -- left = town[1 + at]
      refine xb_cons (xs_set 4 sc__law_draw.nd (xe_ix (xe_name 1 rfl (xe_add (xe_int (xe_name 3 rfl ⟨_, _, updO_same, hy1, ?_⟩))))))
      -- number = ..
      have last : ∀ W', W' = updO W tw (.lst (.int (t + 1) :: ls.map D.int)) → XB (cxOf (L2.CX P w) P w K mg base n__law_draw "_law_draw" (defScope s__law_draw) f cdv A outer s H E) E XC ((defBody s__law_draw).drop 5) [some (.scr a ns), some (.p tw), some (.int lim), some (.int k), some (.int y), none] W' { nx := fun _ W' => O .non W', rt := O } := by
        intro W' eW
        subst eW
        refine xb_cons (xs_set 5 sc__law_draw.nd (xe_mod (xe_add (xe_ix (xe_name 0 rfl (xe_name 3 rfl ⟨x, hx, xe_mul (xe_int (xe_ix (xe_name 1 rfl (xe_int ⟨_, _, updO_same, at0 _ _, _, _, rfl, rfl, .inl ⟨by decide, by decide⟩, xe_int ⟨_, _, rfl, rfl, by decide, ?_⟩⟩))))⟩))))))
        have b0 : 0 ≤ (x + 104729 * (t + 1)) % 4294967291 := Int.emod_nonneg _ (by decide)
        have b1 : (x + 104729 * (t + 1)) % 4294967291 < 4294967291 := Int.emod_lt_of_pos _ (by decide)
        generalize (x + 104729 * (t + 1)) % 4294967291 = z at *
        refine xb_cons (xs_set 5 sc__law_draw.nd (xe_mod (xe_pow (xe_name 5 rfl (xe_int ⟨_, _, rfl, rfl, ⟨by decide, by decide, by omega⟩, xe_int ⟨_, _, rfl, rfl, by decide, ?_⟩⟩)))))
        refine xb_one (xs_ret (xe_mod (xe_div (xe_mod (xe_add (xe_mul (xe_div (xe_name 5 rfl (xe_int ⟨_, _, rfl, rfl, ⟨by decide, by decide⟩, xe_int ⟨_, _, rfl, rfl, .inr ⟨by decide, by decide⟩, xe_name 5 rfl (xe_int ⟨_, _, rfl, rfl, by decide, xe_int ⟨_, _, rfl, rfl, ⟨by decide, by decide⟩, xe_name 2 rfl ⟨_, _, rfl, rfl, hp, ?_⟩⟩⟩)⟩⟩)))))))))
        exact h _ _ (Int.emod_nonneg _ (by omega)) (Int.emod_lt_of_pos _ hp) TT
      -- if script[at] >= 10 ** 18 and left > 0
      refine xb_cons (xs_if (xt_and2 (xt_cmp (by simp) (xe_ix (xe_name 0 rfl (xe_name 3 rfl ⟨x, hx, xe_pow (xe_int (xe_int ⟨_, _, rfl, rfl, ⟨by decide, by decide, by decide⟩, _, _, _, rfl, rfl, rfl, _, rfl, fun e1 => ?_, fun e1 => ⟨fun z => (by cases z), fun _ => xb_nil (last _ rfl)⟩⟩))⟩))))))
      refine xt_cmp (by simp) (xe_name 4 rfl (xe_int ⟨_, _, _, rfl, rfl, rfl, _, rfl, fun e2 => ?_, fun e2 => xb_nil (last _ rfl)⟩))
      refine xb_cons (xs_asg (xe_div (xe_name 4 rfl (xe_name 2 rfl ⟨_, _, rfl, rfl, ⟨hp, by omega⟩, xg_sub (xe_name 1 rfl (xe_add (xe_int (xe_name 3 rfl ⟨tw, _, 1 + k, k.toNat + 1, rfl, rfl, updO_same, ?_, ?_⟩))))⟩))))
      · unfold ixN
        rw [if_pos (by omega), if_pos (by rw [List.length_cons, List.length_map]; omega)]
        congr 1
        omega
      · rw [updO_updO]
        refine xb_one (xs_ret (xe_mod (xe_name 4 rfl (xe_name 2 rfl ⟨_, _, rfl, rfl, hp, ?_⟩))))
        refine h _ _ (Int.emod_nonneg _ (by omega)) (Int.emod_lt_of_pos _ hp) ⟨t + 1, ls.set k.toNat (y / lim), ?_, by rw [List.length_set]; exact hls, by omega, by omega⟩
        rw [List.set_cons_succ, List.map_set]
abbrev CDraw (P : Program) (w : World) (K : PySem.W.Frag) (mg : Str → Option Value) (base : Heap) : Prop := Cal P w K mg base 1 "_law_draw" ["script", "town", "limit"] S_law_draw

end Law
namespace Law
open PySem PySem.Spec PyProof.Rows L2 SR
variable {P : Program} {w : World} {K : PySem.W.Frag} {mg : Str → Option Value} {base : Heap} {f : Addr} {fd : FuncData}
/-! ### a pick -/
def S_law_pick : SpT := fun ds W O _ => ∃ a ns tw ch cs n ob, ds = [.scr a ns, .p tw, .p ch] ∧ ns.length ≤ 63 ∧ W ch = some (.lst cs) ∧ ch ≠ tw ∧ 0 < cs.length ∧ cs.length ≤ 1000 ∧ W tw = some ob ∧ TwO ns n ob ∧ n ≤ 100000 ∧ ∀ c ob', c ∈ cs → TwO ns (n + 1) ob' → O c (updO W tw ob')
theorem ok_law_pick (B : Bi mg) (c1 : CDraw P w K mg base) (F : Fun K "_law_pick" "_law_pick" s__law_pick f fd) (hm : mg "_law_pick" = some (.ref f)) (hb : Binds K fd ["script", "town", "choices"] []) : Cal P w K mg base 2 "_law_pick" ["script", "town", "choices"] S_law_pick := by
  refine cal_mk F hm hb sc__law_pick (fun ds W O XC h => ?_) (fun cdv A outer s H E ds W O XC hr h => ?_)
  · obtain ⟨a, ns, tw, ch, cs, n, ob, rfl, _⟩ := h
    rfl
  · obtain ⟨a, ns, tw, ch, cs, n, ob, rfl, hl, hch, hne, hc0, hc1, htw, ht, hn, h⟩ := h
    refine xb_one (xs_ret (xe_ix (xe_name 2 rfl (xe_call c1 hr passX (xa_cons (xe_name 0 rfl (xa_cons (xe_name 1 rfl (xa_cons (xe_len B.len (xe_name 2 rfl ⟨cs, hch, xa_nil ⟨a, ns, tw, _, n, ob, rfl, hl, by omega, by omega, htw, ht, hn, fun r ob' h0 h1 ht' => ?_⟩⟩)))))))))))
    have hr : ∃ v, cs[r.toNat]? = some v := ⟨cs[r.toNat]'(by omega), List.getElem?_eq_getElem (by omega)⟩
    obtain ⟨v, hv⟩ := hr
    refine ⟨cs, v, by rw [updO_ne hne]; exact hch, ?_, h v ob' (List.mem_of_getElem? hv) ht'⟩
    have := atI_nat hv
    rw [show ((r.toNat : Nat) : Int) = r by omega] at this
    exact this

end Law
namespace Law
open PySem PySem.Spec PyProof.Rows L2 SR
variable {P : Program} {w : World} {K : PySem.W.Frag} {mg : Str → Option Value} {base : Heap} {f : Addr} {fd : FuncData}
/-! ### a store, drawn -/
def S_law_store : SpT := fun ds W O _ => ∃ a ns tw top n ob, ds = [.scr a ns, .p tw, .int top] ∧ ns.length ≤ 63 ∧ 1 ≤ top ∧ top ≤ 12 ∧ W tw = some ob ∧ TwO ns n ob ∧ n ≤ 99990 ∧ ∀ (s : Sto) ob', s.ok → s.room ≤ top → s.level ≤ 8 → TwO ns (n + 5) ob' → O s.d (updO W tw ob')
def S_law_storeF : SpT := fun ds W O _ => ∃ a ns tw top n ob, ds = [.scr a ns, .p tw, .int top] ∧ ns.length ≤ 63 ∧ 1 ≤ top ∧ top ≤ 12 ∧ W tw = some ob ∧ TwO ns n ob ∧ n ≤ 99990 ∧ ∀ (s : Sto) ob', s.ok → s.room ≤ top → s.level ≤ 8 → (s.fill = true → s.size ≤ s.level + 4) → TwO ns (n + 5) ob' → O s.d (updO W tw ob')
theorem ok_law_storeF (c1 : CDraw P w K mg base) (F : Fun K "_law_store" "_law_store" s__law_store f fd) (hm : mg "_law_store" = some (.ref f)) (hb : Binds K fd ["script", "town", "room"] []) : Cal P w K mg base 2 "_law_store" ["script", "town", "room"] S_law_storeF := by
  refine cal_mk F hm hb sc__law_store (fun ds W O XC h => ?_) (fun cdv A outer s H E ds W O XC hr h => ?_)
  · obtain ⟨a, ns, tw, top, n, ob, rfl, _⟩ := h
    rfl
  · obtain ⟨a, ns, tw, top, n, ob, rfl, hl, ht0, ht4, htw, ht, hn, h⟩ := h
    refine xb_cons (xs_set 3 sc__law_store.nd (xe_add (xe_int (xe_call c1 hr passX (xa_cons (xe_name 0 rfl (xa_cons (xe_name 1 rfl (xa_cons (xe_name 2 rfl (xa_nil ⟨a, ns, tw, top, n, ob, rfl, hl, by omega, by omega, htw, ht, by omega, fun r1 ob1 h10 h11 ht1 => ?_⟩)))))))))))
    refine xb_cons (xs_par 4 5 sc__law_store.nd (xa_cons (xe_add (xe_int (xe_call c1 hr passX (xa_cons (xe_name 0 rfl (xa_cons (xe_name 1 rfl (xa_cons (xe_int (xa_nil ⟨a, ns, tw, 3, n + 1, ob1, rfl, hl, by omega, by omega, updO_same, ht1, by omega, fun r2 ob2 h20 h21 ht2 => ?_⟩))))))))))))
    rw [updO_updO]
    refine xa_cons (xe_call c1 hr passX (xa_cons (xe_name 0 rfl (xa_cons (xe_name 1 rfl (xa_cons (xe_int (xa_nil ⟨a, ns, tw, 9, n + 2, ob2, rfl, hl, by omega, by omega, updO_same, ht2, by omega, fun r3 ob3 h30 h31 ht3 => xa_nil ⟨_, _, rfl, ?_⟩⟩))))))))
    rw [updO_updO]
    refine xb_cons (xs_if (xt_eqS (xe_call c1 hr passX (xa_cons (xe_name 0 rfl (xa_cons (xe_name 1 rfl (xa_cons (xe_int (xa_nil ⟨a, ns, tw, 2, n + 3, ob3, rfl, hl, by omega, by omega, updO_same, ht3, by omega, fun r4 ob4 h40 h41 ht4 => xe_int ⟨_, rfl, _, rfl, fun _ => ?_, fun _ => xb_nil ?_⟩⟩))))))))))
    · rw [updO_updO]
      refine xb_one (xs_ret (xe_tup (xa_cons (xe_name 3 rfl (xa_cons (xe_name 4 rfl (xa_cons (xe_str (xa_cons (xe_name 5 rfl (xa_cons (xe_add (xe_int (xe_call c1 hr passX (xa_cons (xe_name 0 rfl (xa_cons (xe_name 1 rfl (xa_cons (xe_int (xa_nil ⟨a, ns, tw, 6, n + 4, ob4, rfl, hl, by omega, by omega, updO_same, ht4, by omega, fun r5 ob5 h50 h51 ht5 => xa_nil ⟨by simp, ?_⟩⟩)))))))))))))))))))))
      rw [updO_updO]
      exact h ⟨1 + r1, 1 + r2, false, r3, 1 + r5⟩ ob5 ⟨by show 1 ≤ 1 + r1; omega, by show 1 + r1 ≤ 12; omega, by show 1 ≤ 1 + r2; omega, by show 1 + r2 ≤ 3; omega, h30, by show r3 ≤ 12; omega, ⟨by show 1 ≤ 1 + r5; omega, by show 1 + r5 ≤ 6; omega⟩⟩ (by show 1 + r1 ≤ top; omega) (by show r3 ≤ 8; omega) (fun z => by cases z) ht5
    · rw [updO_updO]
      refine xb_one (xs_ret (xe_tup (xa_cons (xe_name 3 rfl (xa_cons (xe_name 4 rfl (xa_cons (xe_str (xa_cons (xe_name 5 rfl (xa_cons (xe_add (xe_add (xe_name 5 rfl (xe_int (xe_call c1 hr passX (xa_cons (xe_name 0 rfl (xa_cons (xe_name 1 rfl (xa_cons (xe_int (xa_nil ⟨a, ns, tw, 4, n + 4, ob4, rfl, hl, by omega, by omega, updO_same, ht4, by omega, fun r5 ob5 h50 h51 ht5 => xa_nil ⟨by simp, ?_⟩⟩)))))))))))))))))))))))
      rw [updO_updO]
      exact h ⟨1 + r1, 1 + r2, true, r3, r3 + 1 + r5⟩ ob5 ⟨by show 1 ≤ 1 + r1; omega, by show 1 + r1 ≤ 12; omega, by show 1 ≤ 1 + r2; omega, by show 1 + r2 ≤ 3; omega, h30, by show r3 ≤ 12; omega, ⟨by show r3 + 1 ≤ r3 + 1 + r5; omega, by show r3 + 1 + r5 ≤ 18; omega⟩⟩ (by show 1 + r1 ≤ top; omega) (by show r3 ≤ 8; omega) (fun _ => by show r3 + 1 + r5 ≤ r3 + 4; omega) ht5
theorem ok_law_store (c1 : CDraw P w K mg base) (F : Fun K "_law_store" "_law_store" s__law_store f fd) (hm : mg "_law_store" = some (.ref f)) (hb : Binds K fd ["script", "town", "room"] []) : Cal P w K mg base 2 "_law_store" ["script", "town", "room"] S_law_store :=
  (ok_law_storeF c1 F hm hb).imp fun ds W O XC ⟨a, ns, tw, top, n, ob, h1, h2, h3, h4, h5, h6, h7, h⟩ => ⟨a, ns, tw, top, n, ob, h1, h2, h3, h4, h5, h6, h7, fun s ob' hs hr hl _ T => h s ob' hs hr hl T⟩

end Law
namespace Law
open PySem PySem.Spec PyProof.Rows L2 SR
variable {P : Program} {w : World} {K : PySem.W.Frag} {mg : Str → Option Value} {base : Heap} {f : Addr} {fd : FuncData}
/-! ### bounds, drawn -/
theorem sub_keep {W : Om} {l tw : Addr} {o ob : Ob} (h : W l = none) (hne : l ≠ tw) : SR.Sub (updO W tw ob) (updO (updO W l o) tw ob) := fun b x e => by
  by_cases hb : b = tw
  · subst hb; rw [updO_same] at e ⊢; exact e
  · rw [updO_ne hb] at e ⊢
    rw [updO_ne (neO e h)]
    exact e
def S_law_bounds : SpT := fun ds W O _ => ∃ a ns tw top n ob, ds = [.scr a ns, .p tw, .int top] ∧ ns.length ≤ 63 ∧ 0 ≤ top ∧ top ≤ 4 ∧ W tw = some ob ∧ TwO ns n ob ∧ n ≤ 99990 ∧ ∀ (b : Bd) ob', b.ok → b.low ≤ 1 → b.high ≤ top → TwO ns (n + 4) ob' → O b.d (updO W tw ob')
theorem ok_law_bounds (B : Bi mg) (c1 : CDraw P w K mg base) (c2 : Cal P w K mg base 2 "_law_pick" ["script", "town", "choices"] S_law_pick) (F : Fun K "_law_bounds" "_law_bounds" s__law_bounds f fd) (hm : mg "_law_bounds" = some (.ref f)) (hb : Binds K fd ["script", "town", "most"] []) : Cal P w K mg base 3 "_law_bounds" ["script", "town", "most"] S_law_bounds := by
  refine cal_mk F hm hb sc__law_bounds (fun ds W O XC h => ?_) (fun cdv A outer s H E ds W O XC hr h => ?_)
  · obtain ⟨a, ns, tw, top, n, ob, rfl, _⟩ := h
    rfl
  · obtain ⟨a, ns, tw, top, n, ob, rfl, hl, ht0, ht4, htw, ht, hn, h⟩ := h
    -- high
    refine xb_cons (xs_set 3 sc__law_bounds.nd (xe_call c1 (hr.mono (by decide)) passX (xa_cons (xe_name 0 rfl (xa_cons (xe_name 1 rfl (xa_cons (xe_add (xe_name 2 rfl (xe_int (xa_nil ⟨a, ns, tw, top + 1, n, ob, rfl, hl, by omega, by omega, htw, ht, by omega, fun high ob1 hh0 hh1 ht1 => ?_⟩)))))))))))
    -- low
    refine xb_cons (xs_set 4 sc__law_bounds.nd (xe_shr (xe_call c2 hr passX (xa_cons (xe_name 0 rfl (xa_cons (xe_name 1 rfl (xa_cons (xe_lst (xa_cons (xe_int (xa_cons (xe_int (xa_cons (xe_min2 B.min (xe_int (xe_name 3 rfl ⟨1, high, rfl, rfl, xa_nil ⟨by simp, fun l hl2 => ?_⟩⟩)))))))))))))))))
    have hne : l ≠ tw := (neO updO_same hl2).symm
    have hlW : W l = none := by rw [updO_ne hne] at hl2; exact hl2
    refine xa_nil ⟨a, ns, tw, l, _, n + 1, ob1, rfl, hl, updO_same, hne, by simp, by simp, by rw [updO_ne hne.symm, updO_same], ht1, by omega, fun c ob2 hc ht2 => ?_⟩
    refine ⟨updO W tw ob2, ?_, ?_⟩
    · have := sub_keep (W := updO W tw ob1) (o := .lst [D.int 0, D.int 0, D.int (min 1 high)]) (ob := ob2) hl2 hne
      rw [updO_updO] at this
      exact this
    have hcl : ∃ low, c = .int low ∧ 0 ≤ low ∧ low ≤ high ∧ low ≤ 1 := by
      simp only [List.mem_cons, List.not_mem_nil, or_false] at hc
      rcases hc with rfl | rfl | rfl
      · exact ⟨0, rfl, by omega, by omega, by omega⟩
      · exact ⟨0, rfl, by omega, by omega, by omega⟩
      · exact ⟨_, rfl, by omega, by omega, by omega⟩
    obtain ⟨low, rfl, hl0, hlh, hl1⟩ := hcl
    -- days
    refine xb_cons (xs_set 5 sc__law_bounds.nd (xe_add (xe_int (xe_call c1 (hr.mono (by decide)) passX (xa_cons (xe_name 0 rfl (xa_cons (xe_name 1 rfl (xa_cons (xe_int (xa_nil ⟨a, ns, tw, 3, n + 2, ob2, rfl, hl, by omega, by omega, updO_same, ht2, by omega, fun r ob3 hr0 hr1 ht3 => ?_⟩)))))))))))
    rw [updO_updO]
    refine xb_one (xs_ret (xe_tup (xa_cons (xe_name 4 rfl (xa_cons (xe_name 3 rfl (xa_cons (xe_name 5 rfl (xa_cons (xe_min2 B.min (xe_int (xe_add (xe_mul (xe_name 5 rfl (xe_name 4 rfl ⟨_, _, rfl, rfl, .inl ⟨by omega, by omega⟩, ?_⟩)))))))))))))))
    refine xe_call c1 (hr.mono (by decide)) passX (xa_cons (xe_name 0 rfl (xa_cons (xe_name 1 rfl (xa_cons (xe_int (xa_nil ⟨a, ns, tw, 6, n + 3, ob3, rfl, hl, by omega, by omega, updO_same, ht3, by omega, fun q ob4 hq0 hq1 ht4' => ⟨_, _, rfl, rfl, xa_nil ⟨by simp, ?_⟩⟩⟩)))))))
    rw [updO_updO]
    have hp : 0 ≤ (1 + r) * low := Int.mul_nonneg (by omega) hl0
    have hp2 : (1 + r) * low ≤ 3 := by
      have : (1 + r) * low ≤ (1 + r) * 1 := Int.mul_le_mul_of_nonneg_left hl1 (by omega)
      omega
    exact h ⟨low, high, 1 + r, min 12 ((1 + r) * low + q)⟩ ob4 ⟨hl0, hlh, by show high ≤ 4; omega, by show 1 ≤ 1 + r; omega, by show 1 + r ≤ 3; omega, by show (1 + r) * low ≤ min 12 ((1 + r) * low + q); omega, by show min 12 ((1 + r) * low + q) ≤ 12; omega⟩ hl1 (by show high ≤ top; omega) ht4'

end Law
namespace Law
open PySem PySem.Spec PyProof.Rows L2 SR
variable {P : Program} {w : World} {K : PySem.W.Frag} {mg : Str → Option Value} {base : Heap} {f : Addr} {fd : FuncData}
/-! ### wrong values -/
def scB : D → Bool
  | .non => true | .bl _ => true | .int _ => true | .str _ => true | .tup _ => true | _ => false
def knB : D → Bool
  | .tup xs => xs.all scB
  | .non => true | .bl _ => true | .int _ => true | .str _ => true | _ => false
theorem ty_of {W : Om} {d : D} (h : scB d = true) : (tyD W d).isSome = true := by
  cases d <;> first | rfl | cases h
theorem kn_of {W : Om} {d : D} (h : knB d = true) : KnD W d := by
  cases d with
  | tup xs => exact ⟨rfl, fun ys e x hx => by cases e; exact ty_of (List.all_eq_true.mp h x hx)⟩
  | non => exact ⟨rfl, fun _ e => by cases e⟩
  | bl b => exact ⟨rfl, fun _ e => by cases e⟩
  | int i => exact ⟨rfl, fun _ e => by cases e⟩
  | str x => exact ⟨rfl, fun _ e => by cases e⟩
  | _ => cases h
theorem kn_lst {W : Om} {a : Addr} {ds : List D} (h : W a = some (.lst ds)) : KnD W (.p a) := ⟨by simp [tyD, h], fun _ e => by cases e⟩
def badS (la : Addr) : List D := (((([.non, .int 5, .tup [], .tup [.int 6, .int 1, .str "lots", .int 2], .tup [.int 0, .int 1, .str "lots", .int 2, .int 3], .tup [.int 13, .int 1, .str "lots", .int 2, .int 3], .tup [.int 6, .int 0, .str "lots", .int 2, .int 3]] ++ [.tup [.int 6, .int 4, .str "lots", .int 2, .int 3], .tup [.int 6, .int 1, .str "lot", .int 2, .int 3], .tup [.int 6, .int 1, .str "lots", .int (-1), .int 3], .tup [.int 6, .int 1, .str "lots", .int 13, .int 3]]) ++ [.tup [.int 6, .int 1, .str "lots", .int 2, .int 0], .tup [.int 6, .int 1, .str "lots", .int 2, .int 7], .tup [.int 6, .int 1, .str "fill", .int 2, .int 2], .tup [.int 6, .int 1, .str "fill", .int 2, .int 19]]) ++ [.tup [.bl true, .int 1, .str "lots", .int 2, .int 3], .tup [.int 6, .int 1, .non, .int 2, .int 3], .p la, .tup [.int 6, .int 1, .str "lots", .int 2, .int 3, .int 0]]) ++ [.tup [.int 6, .int 1, .str "lots", .int 2, .non], .tup [.int 6, .str "1", .str "lots", .int 2, .int 3], .str "lots"])
theorem badS_ok {W : Om} {la : Addr} {xs : List D} (hla : W la = some (.lst xs)) : ∀ d ∈ badS la, KnD W d ∧ isSt d = false := fun d hd => by
  unfold badS at hd
  simp only [List.mem_append, List.mem_cons, List.not_mem_nil, or_false] at hd
  have fin : (d = .p la) ∨ (knB d = true ∧ isSt d = false) := by
    rcases hd with ((((rfl | rfl | rfl | rfl | rfl | rfl | rfl) | (rfl | rfl | rfl | rfl)) | (rfl | rfl | rfl | rfl)) | (rfl | rfl | rfl | rfl)) | (rfl | rfl | rfl) <;> first | exact .inl rfl | exact .inr ⟨by decide +kernel, by decide +kernel⟩
  rcases fin with rfl | ⟨h1, h2⟩
  · exact ⟨kn_lst hla, rfl⟩
  · exact ⟨kn_of h1, h2⟩
theorem badS_len (la : Addr) : (badS la).length = 22 := rfl
def S_law_bad_stores : SpT := fun ds W O _ => ds = [] ∧ ∀ W' l la, SR.Sub W W' → W l = none → W' l = some (.lst (badS la)) → (∃ xs, W' la = some (.lst xs)) → O (.p l) W'
theorem ok_law_bad_stores (F : Fun K "_law_bad_stores" "_law_bad_stores" s__law_bad_stores f fd) (hm : mg "_law_bad_stores" = some (.ref f)) (hb : Binds K fd [] []) : Cal P w K mg base 1 "_law_bad_stores" [] S_law_bad_stores := by
  refine cal_mk F hm hb sc__law_bad_stores (fun ds W O XC h => ?_) (fun cdv A outer s H E ds W O XC hr h => ?_)
  · obtain ⟨rfl, _⟩ := h
    rfl
  · obtain ⟨rfl, h⟩ := h
    refine xb_cons ?_
    refine xs_asg ?_
    refine xe_lst ?_
    refine xa_cons ?_
    refine xe_non ?_
    refine xa_cons ?_
    refine xe_int ?_
    refine xa_cons ?_
    refine xe_tup ?_
    refine xa_nil ⟨by simp, ?_⟩
    refine xa_cons ?_
    refine xe_tup ?_
    refine xa_cons ?_
    refine xe_int ?_
    refine xa_cons ?_
    refine xe_int ?_
    refine xa_cons ?_
    refine xe_str ?_
    refine xa_cons ?_
    refine xe_int ?_
    refine xa_nil ⟨by simp, ?_⟩
    refine xa_cons ?_
    refine xe_tup ?_
    refine xa_cons ?_
    refine xe_int ?_
    refine xa_cons ?_
    refine xe_int ?_
    refine xa_cons ?_
    refine xe_str ?_
    refine xa_cons ?_
    refine xe_int ?_
    refine xa_cons ?_
    refine xe_int ?_
    refine xa_nil ⟨by simp, ?_⟩
    refine xa_cons ?_
    refine xe_tup ?_
    refine xa_cons ?_
    refine xe_int ?_
    refine xa_cons ?_
    refine xe_int ?_
    refine xa_cons ?_
    refine xe_str ?_
    refine xa_cons ?_
    refine xe_int ?_
    refine xa_cons ?_
    refine xe_int ?_
    refine xa_nil ⟨by simp, ?_⟩
    refine xa_cons ?_
    refine xe_tup ?_
    refine xa_cons ?_
    refine xe_int ?_
    refine xa_cons ?_
    refine xe_int ?_
    refine xa_cons ?_
    refine xe_str ?_
    refine xa_cons ?_
    refine xe_int ?_
    refine xa_cons ?_
    refine xe_int ?_
    refine xa_nil ⟨by simp, ?_⟩
    refine xa_nil ⟨by simp, fun l1 h_l1 => ?_⟩
    refine xg_name 0 sc__law_bad_stores.nd ?_
    refine xb_cons ?_
    refine xs_asg ?_
    refine xe_add ?_
    refine xe_name 0 rfl ?_
    refine xe_lst ?_
    refine xa_cons ?_
    refine xe_tup ?_
    refine xa_cons ?_
    refine xe_int ?_
    refine xa_cons ?_
    refine xe_int ?_
    refine xa_cons ?_
    refine xe_str ?_
    refine xa_cons ?_
    refine xe_int ?_
    refine xa_cons ?_
    refine xe_int ?_
    refine xa_nil ⟨by simp, ?_⟩
    refine xa_cons ?_
    refine xe_tup ?_
    refine xa_cons ?_
    refine xe_int ?_
    refine xa_cons ?_
    refine xe_int ?_
    refine xa_cons ?_
    refine xe_str ?_
    refine xa_cons ?_
    refine xe_int ?_
    refine xa_cons ?_
    refine xe_int ?_
    refine xa_nil ⟨by simp, ?_⟩
    refine xa_cons ?_
    refine xe_tup ?_
    refine xa_cons ?_
    refine xe_int ?_
    refine xa_cons ?_
    refine xe_int ?_
    refine xa_cons ?_
    refine xe_str ?_
    refine xa_cons ?_
    refine xe_neg (xe_int ⟨_, rfl, ?_⟩)
    refine xa_cons ?_
    refine xe_int ?_
    refine xa_nil ⟨by simp, ?_⟩
    refine xa_cons ?_
    refine xe_tup ?_
    refine xa_cons ?_
    refine xe_int ?_
    refine xa_cons ?_
    refine xe_int ?_
    refine xa_cons ?_
    refine xe_str ?_
    refine xa_cons ?_
    refine xe_int ?_
    refine xa_cons ?_
    refine xe_int ?_
    refine xa_nil ⟨by simp, ?_⟩
    refine xa_nil ⟨by simp, fun l2 h_l2 => ?_⟩
    refine ⟨_, _, Sub.new h_l2 _ _ (updO_same), updO_same, le1000 (by simp), fun s1 h_s1 => ?_⟩
    refine xg_name 0 sc__law_bad_stores.nd ?_
    refine xb_cons ?_
    refine xs_asg ?_
    refine xe_add ?_
    refine xe_name 0 rfl ?_
    refine xe_lst ?_
    refine xa_cons ?_
    refine xe_tup ?_
    refine xa_cons ?_
    refine xe_int ?_
    refine xa_cons ?_
    refine xe_int ?_
    refine xa_cons ?_
    refine xe_str ?_
    refine xa_cons ?_
    refine xe_int ?_
    refine xa_cons ?_
    refine xe_int ?_
    refine xa_nil ⟨by simp, ?_⟩
    refine xa_cons ?_
    refine xe_tup ?_
    refine xa_cons ?_
    refine xe_int ?_
    refine xa_cons ?_
    refine xe_int ?_
    refine xa_cons ?_
    refine xe_str ?_
    refine xa_cons ?_
    refine xe_int ?_
    refine xa_cons ?_
    refine xe_int ?_
    refine xa_nil ⟨by simp, ?_⟩
    refine xa_cons ?_
    refine xe_tup ?_
    refine xa_cons ?_
    refine xe_int ?_
    refine xa_cons ?_
    refine xe_int ?_
    refine xa_cons ?_
    refine xe_str ?_
    refine xa_cons ?_
    refine xe_int ?_
    refine xa_cons ?_
    refine xe_int ?_
    refine xa_nil ⟨by simp, ?_⟩
    refine xa_cons ?_
    refine xe_tup ?_
    refine xa_cons ?_
    refine xe_int ?_
    refine xa_cons ?_
    refine xe_int ?_
    refine xa_cons ?_
    refine xe_str ?_
    refine xa_cons ?_
    refine xe_int ?_
    refine xa_cons ?_
    refine xe_int ?_
    refine xa_nil ⟨by simp, ?_⟩
    refine xa_nil ⟨by simp, fun l3 h_l3 => ?_⟩
    refine ⟨_, _, Sub.new h_l3 _ _ (updO_same), updO_same, le1000 (by simp), fun s2 h_s2 => ?_⟩
    refine xg_name 0 sc__law_bad_stores.nd ?_
    refine xb_cons ?_
    refine xs_asg ?_
    refine xe_add ?_
    refine xe_name 0 rfl ?_
    refine xe_lst ?_
    refine xa_cons ?_
    refine xe_tup ?_
    refine xa_cons ?_
    refine xe_bl ?_
    refine xa_cons ?_
    refine xe_int ?_
    refine xa_cons ?_
    refine xe_str ?_
    refine xa_cons ?_
    refine xe_int ?_
    refine xa_cons ?_
    refine xe_int ?_
    refine xa_nil ⟨by simp, ?_⟩
    refine xa_cons ?_
    refine xe_tup ?_
    refine xa_cons ?_
    refine xe_int ?_
    refine xa_cons ?_
    refine xe_int ?_
    refine xa_cons ?_
    refine xe_non ?_
    refine xa_cons ?_
    refine xe_int ?_
    refine xa_cons ?_
    refine xe_int ?_
    refine xa_nil ⟨by simp, ?_⟩
    refine xa_cons ?_
    refine xe_lst ?_
    refine xa_cons ?_
    refine xe_int ?_
    refine xa_cons ?_
    refine xe_int ?_
    refine xa_cons ?_
    refine xe_str ?_
    refine xa_cons ?_
    refine xe_int ?_
    refine xa_cons ?_
    refine xe_int ?_
    refine xa_nil ⟨by simp, fun l4 h_l4 => ?_⟩
    refine xa_cons ?_
    refine xe_tup ?_
    refine xa_cons ?_
    refine xe_int ?_
    refine xa_cons ?_
    refine xe_int ?_
    refine xa_cons ?_
    refine xe_str ?_
    refine xa_cons ?_
    refine xe_int ?_
    refine xa_cons ?_
    refine xe_int ?_
    refine xa_cons ?_
    refine xe_int ?_
    refine xa_nil ⟨by simp, ?_⟩
    refine xa_nil ⟨by simp, fun l5 h_l5 => ?_⟩
    refine ⟨_, _, Sub.new h_l5 _ _ (Sub.new h_l4 _ _ (updO_same)), updO_same, le1000 (by simp), fun s3 h_s3 => ?_⟩
    refine xg_name 0 sc__law_bad_stores.nd ?_
    refine xb_one (xs_ret (xe_add ?_))
    refine xe_name 0 rfl ?_
    refine xe_lst ?_
    refine xa_cons ?_
    refine xe_tup ?_
    refine xa_cons ?_
    refine xe_int ?_
    refine xa_cons ?_
    refine xe_int ?_
    refine xa_cons ?_
    refine xe_str ?_
    refine xa_cons ?_
    refine xe_int ?_
    refine xa_cons ?_
    refine xe_non ?_
    refine xa_nil ⟨by simp, ?_⟩
    refine xa_cons ?_
    refine xe_tup ?_
    refine xa_cons ?_
    refine xe_int ?_
    refine xa_cons ?_
    refine xe_str ?_
    refine xa_cons ?_
    refine xe_str ?_
    refine xa_cons ?_
    refine xe_int ?_
    refine xa_cons ?_
    refine xe_int ?_
    refine xa_nil ⟨by simp, ?_⟩
    refine xa_cons ?_
    refine xe_str ?_
    refine xa_nil ⟨by simp, fun l6 h_l6 => ?_⟩
    refine ⟨_, _, Sub.new h_l6 _ _ (updO_same), updO_same, le1000 (by simp), fun s4 h_s4 => ?_⟩
    exact h _ s4 l4 ((((((((((Sub.new h_l1).trans (Sub.new h_l2)).trans (Sub.new h_s1)).trans (Sub.new h_l3)).trans (Sub.new h_s2)).trans (Sub.new h_l4)).trans (Sub.new h_l5)).trans (Sub.new h_s3)).trans (Sub.new h_l6)).trans (Sub.new h_s4)) (updO_free (updO_free (updO_free (updO_free (updO_free (updO_free (updO_free (updO_free (updO_free (h_s4)))))))))) updO_same ⟨_, Sub.new h_s4 _ _ (Sub.new h_l6 _ _ (Sub.new h_s3 _ _ (Sub.new h_l5 _ _ (updO_same))))⟩

end Law
namespace Law
open PySem PySem.Spec PyProof.Rows L2 SR
variable {P : Program} {w : World} {K : PySem.W.Frag} {mg : Str → Option Value} {base : Heap} {f : Addr} {fd : FuncData}
/-! ### calls that may raise, by the law -/
/-- the classes of exceptions -/
structure Fam (K : PySem.W.Frag) (mg : Str → Option Value) (Cs : Fin 10 → Addr) (SE : Addr) (R : Fin 10 → Prop) : Prop where
  g0 : mg "InvalidStore" = some (.ref (Cs 0))
  g1 : mg "InvalidStart" = some (.ref (Cs 1))
  g2 : mg "InvalidBounds" = some (.ref (Cs 2))
  g3 : mg "InvalidDemands" = some (.ref (Cs 3))
  g4 : mg "InvalidPosition" = some (.ref (Cs 4))
  g5 : mg "InvalidDays" = some (.ref (Cs 5))
  g6 : mg "InvalidDemand" = some (.ref (Cs 6))
  g7 : mg "InvalidText" = some (.ref (Cs 7))
  g8 : mg "TooLong" = some (.ref (Cs 8))
  g9 : mg "NothingToUndo" = some (.ref (Cs 9))
  gS : mg "StockError" = some (.ref SE)
  vN : mg "ValueError" = none
  ec : ∀ i, R i → ExcC K (Cs i)
  kit : ∀ i, R i → ∀ j, PySem.W.kitOne K (.ref (Cs i)) (.ref (Cs j)) = some (decide (i = j))
  ve : ∀ i, R i → PySem.W.kitOne K (.ref (Cs i)) (.type "ValueError") = some true
  ex : ∀ i, R i → PySem.W.exmOne K (.ref (Cs i)) (.ref SE) = some true
def S_law_name (Cs : Fin 10 → Addr) (R : Fin 10 → Prop) : SpT := fun ds W O _ => ∃ a i, ds = [.exc a (Cs i)] ∧ R i ∧ O (.int ((i.val : Nat) : Int)) W
theorem row10 : ∀ i : Fin 10, ([decide (i = 0), decide (i = 1), decide (i = 2), decide (i = 3), decide (i = 4), decide (i = 5), decide (i = 6), decide (i = 7), decide (i = 8), decide (i = 9)].count true = 1) ∧ ([decide (i = 0), decide (i = 1), decide (i = 2), decide (i = 3), decide (i = 4), decide (i = 5), decide (i = 6), decide (i = 7), decide (i = 8), decide (i = 9)][i.val]? = some true) ∧
    ∀ m : Fin 10, m.val < i.val → [decide (i = 0), decide (i = 1), decide (i = 2), decide (i = 3), decide (i = 4), decide (i = 5), decide (i = 6), decide (i = 7), decide (i = 8), decide (i = 9)][m.val]? = some false := by decide +kernel
theorem ok_law_name {Cs : Fin 10 → Addr} {SE : Addr} {R : Fin 10 → Prop} (B : Bi mg) (Fm : Fam K mg Cs SE R) (F : Fun K "_law_name" "_law_name" s__law_name f fd) (hm : mg "_law_name" = some (.ref f)) (hb : Binds K fd ["caught"] []) : Cal P w K mg base 1 "_law_name" ["caught"] (S_law_name Cs R) := by
  refine cal_mk F hm hb sc__law_name (fun ds W O XC h => ?_) (fun cdv A outer s H E ds W O XC hr h => ?_)
  · obtain ⟨a, i, rfl, _⟩ := h
    rfl
  · obtain ⟨a, i, rfl, hR, h⟩ := h
    have EC := Fm.ec i hR
    refine xb_nox (E' := E0) (xb_ifno ?_ ?_)
    · exact xt_not (xt_val (xe_isX B.isinstance (xe_name 0 rfl (xe_ty Fm.vN (by decide +kernel) ⟨a, Cs i, _, _, rfl, EC, .ty _, Fm.ve i hR, _, rfl, rfl, Sub.refl _⟩))))
    refine xb_cons (xs_set 1 sc__law_name.nd (xe_lst (xa_cons (xe_isX B.isinstance (xe_name 0 rfl (xe_glob Fm.g0 ⟨a, Cs i, _, _, rfl, EC, .own _, Fm.kit i hR 0, xa_cons (xe_isX B.isinstance (xe_name 0 rfl (xe_glob Fm.g1 ⟨a, Cs i, _, _, rfl, EC, .own _, Fm.kit i hR 1, xa_nil ⟨by simp, fun l1 h1 => ?_⟩⟩)))⟩))))))
    refine xb_cons (xs_set 1 sc__law_name.nd (xe_add (xe_name 1 rfl (xe_lst (xa_cons (xe_isX B.isinstance (xe_name 0 rfl (xe_glob Fm.g2 ⟨a, Cs i, _, _, rfl, EC, .own _, Fm.kit i hR 2, xa_cons (xe_isX B.isinstance (xe_name 0 rfl (xe_glob Fm.g3 ⟨a, Cs i, _, _, rfl, EC, .own _, Fm.kit i hR 3, xa_nil ⟨by simp, fun l2 h2 => ⟨_, _, Sub.new h2 _ _ updO_same, updO_same, le1000 (by simp), fun l3 h3 => ?_⟩⟩⟩)))⟩))))))))
    refine xb_cons (xs_set 1 sc__law_name.nd (xe_add (xe_name 1 rfl (xe_lst (xa_cons (xe_isX B.isinstance (xe_name 0 rfl (xe_glob Fm.g4 ⟨a, Cs i, _, _, rfl, EC, .own _, Fm.kit i hR 4, xa_cons (xe_isX B.isinstance (xe_name 0 rfl (xe_glob Fm.g5 ⟨a, Cs i, _, _, rfl, EC, .own _, Fm.kit i hR 5, xa_nil ⟨by simp, fun l4 h4 => ⟨_, _, Sub.new h4 _ _ updO_same, updO_same, le1000 (by simp), fun l5 h5 => ?_⟩⟩⟩)))⟩))))))))
    refine xb_cons (xs_set 1 sc__law_name.nd (xe_add (xe_name 1 rfl (xe_lst (xa_cons (xe_isX B.isinstance (xe_name 0 rfl (xe_glob Fm.g6 ⟨a, Cs i, _, _, rfl, EC, .own _, Fm.kit i hR 6, xa_cons (xe_isX B.isinstance (xe_name 0 rfl (xe_glob Fm.g7 ⟨a, Cs i, _, _, rfl, EC, .own _, Fm.kit i hR 7, xa_nil ⟨by simp, fun l6 h6 => ⟨_, _, Sub.new h6 _ _ updO_same, updO_same, le1000 (by simp), fun l7 h7 => ?_⟩⟩⟩)))⟩))))))))
    refine xb_cons (xs_set 1 sc__law_name.nd (xe_add (xe_name 1 rfl (xe_lst (xa_cons (xe_isX B.isinstance (xe_name 0 rfl (xe_glob Fm.g8 ⟨a, Cs i, _, _, rfl, EC, .own _, Fm.kit i hR 8, xa_cons (xe_isX B.isinstance (xe_name 0 rfl (xe_glob Fm.g9 ⟨a, Cs i, _, _, rfl, EC, .own _, Fm.kit i hR 9, xa_nil ⟨by simp, fun l8 h8 => ⟨_, _, Sub.new h8 _ _ updO_same, updO_same, le1000 (by simp), fun l9 h9 => ?_⟩⟩⟩)))⟩))))))))
    obtain ⟨q1, q2, q3⟩ := row10 i
    refine xb_one (xs_ret (xe_shr (xe_if (xt_eqS (xe_countB (xe_name 1 rfl ⟨l9, _, rfl, updO_same, xe_bl ⟨[decide (i = 0), decide (i = 1), decide (i = 2), decide (i = 3), decide (i = 4), decide (i = 5), decide (i = 6), decide (i = 7), decide (i = 8), decide (i = 9)], rfl, updO_same, xe_int ⟨_, rfl, _, rfl, fun _ => ?_, fun e => ?_⟩⟩⟩))))))
    · refine xe_indexB (xe_name 1 rfl ⟨l9, _, rfl, updO_same, xe_bl ⟨[decide (i = 0), decide (i = 1), decide (i = 2), decide (i = 3), decide (i = 4), decide (i = 5), decide (i = 6), decide (i = 7), decide (i = 8), decide (i = 9)], i.val, rfl, updO_same, q2, fun m hm => q3 ⟨m, by omega⟩ hm, W, ((((((((Sub.new h1).trans (Sub.new h2)).trans (Sub.new h3)).trans (Sub.new h4)).trans (Sub.new h5)).trans (Sub.new h6)).trans (Sub.new h7)).trans (Sub.new h8)).trans (Sub.new h9), h⟩⟩)
    · rw [q1] at e; cases e
/-! ### the outcome that is due -/
def exShort : Fin 10 → Str
  | 0 => "store" | 1 => "start" | 2 => "bounds" | 3 => "demands" | 4 => "position" | 5 => "days" | 6 => "demand" | 7 => "text" | 8 => "long" | 9 => "undo"
def raisedD (i : Fin 10) : D := .tup [.str "raised", .int ((i.val : Nat) : Int)]
def shorts : List Str := ["store", "start", "bounds", "demands", "position", "days", "demand", "text", "long", "undo"]
theorem shorts_at : ∀ i : Fin 10, shorts[i.val]? = some (exShort i) ∧ ∀ m : Fin 10, m.val < i.val → shorts[m.val]? ≠ some (exShort i) := by decide +kernel
def S_law_raises : SpT := fun ds W O _ => ∃ i : Fin 10, ds = [.str (exShort i)] ∧ O (raisedD i) W
theorem ok_law_raises (F : Fun K "_law_raises" "_law_raises" s__law_raises f fd) (hm : mg "_law_raises" = some (.ref f)) (hb : Binds K fd ["name"] []) : Cal P w K mg base 1 "_law_raises" ["name"] S_law_raises := by
  refine cal_mk F hm hb sc__law_raises (fun ds W O XC h => ?_) (fun cdv A outer s H E ds W O XC hr h => ?_)
  · obtain ⟨i, rfl, _⟩ := h
    rfl
  · obtain ⟨i, rfl, h⟩ := h
    refine xb_cons (xs_set 1 sc__law_raises.nd (xe_lst (xa_cons (xe_str (xa_cons (xe_str (xa_cons (xe_str (xa_cons (xe_str (xa_cons (xe_str (xa_cons (xe_str (xa_nil ⟨by simp, fun l1 h1 => ?_⟩)))))))))))))))
    refine xb_cons (xs_set 1 sc__law_raises.nd (xe_add (xe_name 1 rfl (xe_lst (xa_cons (xe_str (xa_cons (xe_str (xa_cons (xe_str (xa_cons (xe_str (xa_nil ⟨by simp, fun l2 h2 => ⟨_, _, Sub.new h2 _ _ updO_same, updO_same, le1000 (by simp), fun l3 h3 => ?_⟩⟩)))))))))))))
    obtain ⟨q1, q2⟩ := shorts_at i
    refine xb_one (xs_ret (xe_shr (xe_tup (xa_cons (xe_str (xa_cons (xe_indexS (xe_name 1 rfl ⟨l3, _, rfl, updO_same, xe_name 0 rfl ⟨shorts, i.val, exShort i, rfl, updO_same, q1, fun m z' hm hz e => ?_, xa_nil ⟨by simp, W, ((Sub.new h1).trans (Sub.new h2)).trans (Sub.new h3), h⟩⟩⟩))))))))
    rw [e] at hz
    exact q2 ⟨m, by omega⟩ hm hz
/-! ### the outcome of a call -/
def returnedD (d : D) : D := .tup [.str "returned", d]
def S_law_outcome (Cs : Fin 10 → Addr) (R : Fin 10 → Prop) (S : SpT) : SpT := fun ds W O _ => (∃ d1 d2, ds = [d1, d2]) ∧ S ds W (fun r W' => O (returnedD r) W') (fun C W' => ∃ i, C = Cs i ∧ R i ∧ O (raisedD i) W')
theorem ok_law_outcome {Cs : Fin 10 → Addr} {SE : Addr} {R : Fin 10 → Prop} {S : SpT} {k : Nat} (Fm : Fam K mg Cs SE R) (c1 : Cal P w K mg base (k + 1) "_law_call" ["way", "arguments"] S) (c2 : Cal P w K mg base 1 "_law_name" ["caught"] (S_law_name Cs R))
    (F : Fun K "_law_outcome" "_law_outcome" s__law_outcome f fd) (hm : mg "_law_outcome" = some (.ref f)) (hb : Binds K fd ["way", "arguments"] []) : Cal P w K mg base (k + 2) "_law_outcome" ["way", "arguments"] (S_law_outcome Cs R S) := by
  refine cal_mk F hm hb sc__law_outcome (fun ds W O XC h => ?_) (fun cdv A outer s H E ds W O XC hr h => ?_)
  · obtain ⟨⟨d1, d2, rfl⟩, _⟩ := h
    rfl
  · obtain ⟨⟨d1, d2, rfl⟩, h⟩ := h
    refine xb_nox (E' := E0) (xb_cons (xs_set 2 sc__law_outcome.nd (xe_non (xb_cons (xs_set 3 sc__law_outcome.nd (xe_non ?_))))))
    refine xb_cons (xs_tryK 4 2 (fun C W' => ∃ i, C = Cs i ∧ R i ∧ O (raisedD i) W') sc__law_outcome.nd Fm.gS (fun pn xe Wx tk => ?_) (fun C0 W' hx => ?_))
    · refine xb_one (xs_set 3 sc__law_outcome.nd ?_)
      refine XE.imp (xe_callT c1 hr tk (xa_cons (xe_name 0 rfl (xa_cons (xe_name 1 rfl (xa_nil h)))))) fun r W' hr2 => ?_
      exact xb_cons (xs_if (xt_isN (xe_name 2 rfl (xe_non ⟨rfl, fun _ => xb_one (xs_ret (xe_tup (xa_cons (xe_str (xa_cons (xe_name 3 rfl (xa_nil ⟨by simp, hr2⟩))))))), fun z => by cases z⟩))))
    · obtain ⟨i, rfl, hR, ho⟩ := hx
      refine ⟨Fm.ex i hR, fun a ha => ?_⟩
      refine xb_cons (xs_if (xt_isN (xe_name 2 rfl (xe_non ⟨rfl, fun z => (by cases z), fun _ => xb_nil ?_⟩))))
      exact xb_one (xs_ret (xe_tup (xa_cons (xe_str (xa_cons (xe_call c2 (hr.mono (by omega)) pass0X (xa_cons (xe_name 2 rfl (xa_nil ⟨a, i, rfl, hR, xa_nil ⟨by simp, ho⟩⟩)))))))))
theorem pln_out (i : Fin 10) : Pln 1 (raisedD i) := .tup fun y hy => by
  simp only [List.mem_cons, List.not_mem_nil, or_false] at hy
  rcases hy with rfl | rfl
  · exact .str (by decide +kernel)
  · exact .int _
def csOf (a0 a1 a2 a3 a4 a5 a6 a7 a8 a9 : Addr) : Fin 10 → Addr
  | 0 => a0 | 1 => a1 | 2 => a2 | 3 => a3 | 4 => a4 | 5 => a5 | 6 => a6 | 7 => a7 | 8 => a8 | 9 => a9
theorem kit_same (K : PySem.W.Frag) (C : Addr) : PySem.W.kitOne K (.ref C) (.ref C) = some true := by
  unfold PySem.W.kitOne
  rw [if_pos (beq_self_eq_true _)]
theorem kit_no {C D : Addr} (h1 : PySem.W.subIn K (.ref C) (.ref C) = some true) (h2 : PySem.W.subIn K (.ref C) (.ref D) = some false) (hd : PySem.W.hasDictIn K D = true) (ht : PySem.W.typeIn K (.ref D) = some (.type "type")) : PySem.W.kitOne K (.ref C) (.ref D) = some false := by
  have hne : ¬ ((Value.ref C == Value.ref D) = true) := fun q => by
    have e : C = D := Value.ref.inj (beq_iff_eq.mp q)
    subst e
    rw [h1] at h2; cases h2
  obtain ⟨cd, hc, _⟩ := PySem.W.any_some hd
  have e2 : ((PySem.W.clsIn K D).isSome && PySem.W.typeIn K (.ref D) == some (.type "type")) = true := by rw [hc, ht] <;> rfl
  show (if (Value.ref C == Value.ref D) = true then some true else (if ((PySem.W.clsIn K D).isSome && PySem.W.typeIn K (.ref D) == some (.type "type")) = true then PySem.W.subIn K (.ref C) (.ref D) else none)) = some false
  rw [if_neg hne, if_pos e2]
  exact h2
theorem kit_ve {C : Addr} (h : PySem.W.subIn K (.ref C) (.type "ValueError") = some true) : PySem.W.kitOne K (.ref C) (.type "ValueError") = some true := by
  have hm : PySem.W.kitMeta "ValueError" = true := by decide +kernel
  have hne : ¬ ((Value.ref C == Value.type "ValueError") = true) := fun q => by have := beq_iff_eq.mp q; cases this
  show (if (Value.ref C == Value.type "ValueError") = true then some true else (if PySem.W.kitMeta "ValueError" = true then PySem.W.subIn K (.ref C) (.type "ValueError") else none)) = some true
  rw [if_neg hne, if_pos hm]
  exact h

end Law
namespace Law
open PySem PySem.Spec PyProof.Rows L2 SR
variable {P : Program} {w : World} {K : PySem.W.Frag} {mg : Str → Option Value} {base : Heap} {f : Addr} {fd : FuncData}
/-! ### situations as keys -/
def sitK (s : Sit) : NestedKey := .tup [.num s.stock, .tup (s.coming.map .num)]
theorem sitK_inj {s t : Sit} (h : sitK s = sitK t) : s = t := by
  obtain ⟨x, c⟩ := s
  obtain ⟨x2, c2⟩ := t
  simp only [sitK, NestedKey.tup.injEq, List.cons.injEq, NestedKey.num.injEq, and_true] at h
  obtain ⟨rfl, hc⟩ := h
  rw [num_inj hc]

end Law
namespace Law
open PySem PySem.Spec PyProof.Rows L2 SR
variable {P : Program} {w : World} {K : PySem.W.Frag} {mg : Str → Option Value} {base : Heap} {f : Addr} {fd : FuncData}
/-! ### two stores -/
def _root_.SR.PNode.d (n : PNode) : D := .tup [n.a.d, n.b.d, tupI n.r]
def pnK (n : PNode) : NestedKey := .tup [sitK n.a, sitK n.b, .tup (n.r.map .num)]
theorem kD_pn (n : PNode) : kD (pnK n) = n.d := by
  unfold pnK sitK PNode.d Sit.d tupI
  simp only [kD, kDs, kDs_num]
theorem keyD_pn (n : PNode) : KeyD n.d (pnK n) := by
  refine ⟨(kD_pn n).symm, ?_, _, rfl⟩
  unfold pnK sitK
  simp [NestedKey.depth, NestedKey.depthAll, depth_num]
theorem pnK_inj {n m : PNode} (h : pnK n = pnK m) : n = m := by
  obtain ⟨x, y, r⟩ := n
  obtain ⟨x2, y2, r2⟩ := m
  simp only [pnK, NestedKey.tup.injEq, List.cons.injEq, and_true] at h
  obtain ⟨h1, h2, hr⟩ := h
  rw [sitK_inj h1, sitK_inj h2, num_inj hr]
def entP (M : List (Ent PNode)) : List (NestedKey × D) := M.map fun e => (pnK e.1, .bl true)
def levP (e : Ent PNode) : D := .tup [e.1.d, tupI e.2]
theorem look_entP : ∀ (M : List (Ent PNode)) (n : PNode), (lookN (entP M) (pnK n)).isSome = keyIn M n
  | [], n => rfl
  | e :: M, n => by
    have ih := look_entP M n
    unfold lookN entP keyIn at *
    rw [List.map_cons, List.find?_cons, List.any_cons]
    by_cases h : e.1 = n
    · simp [h]
    · have h2 : pnK e.1 ≠ pnK n := fun z => h (pnK_inj z)
      simp only [decide_eq_false h, decide_eq_false h2, Bool.false_or]
      exact ih
theorem put_entP {M : List (Ent PNode)} {c : Ent PNode} (h : keyIn M c.1 = false) : putN (entP M) (pnK c.1) (.bl true) = entP (M ++ [c]) := by
  unfold putN
  rw [look_entP, h, if_neg Bool.false_ne_true]
  unfold entP
  rw [List.map_append]
  rfl
theorem pln_sitP (x : Sit) : Pln 2 x.d := .tup fun y hy => by
  simp only [List.mem_cons, List.not_mem_nil, or_false] at hy
  rcases hy with rfl | rfl
  · exact .int _
  · exact pln_ints 0 _
theorem levP_pln (e : Ent PNode) : Pln 4 (levP e) := .tup fun x hx => by
  simp only [List.mem_cons, List.not_mem_nil, or_false] at hx
  rcases hx with rfl | rfl
  · refine .tup fun y hy => ?_
    simp only [List.mem_cons, List.not_mem_nil, or_false] at hy
    rcases hy with rfl | rfl | rfl
    · exact pln_sitP _
    · exact pln_sitP _
    · exact pln_ints 1 _
  · exact pln_ints 2 _
/-- what a lambda of two numbers answers -/
structure LamB (P : Program) (w : World) (K : PySem.W.Frag) (mg : Str → Option Value) (base : Heap) (q : Str) (pr : Arguments) (bd : Expr) (sc : Scope) (wf : Int → Int → Bool) : Prop where
  ex : ∃ N ps : List Str, FnScope N ps sc ∧ ps.length = 2 ∧ (∀ (pm cv ctv : Value) (us : List Value), us.length = ps.length → bindArgs (PySem.W.kla_fn "<lambda>" q pr bd sc [] pm cv ctv) ⟨us, []⟩ = pure (ps.zip us)) ∧
    ∀ (i j : Int) (E : XK) (XC : XCt) (W : Om) (O : OD) (f c1 : Addr) (A : Around) (outer : List Env) (s : Shared) (H : Hp), O (.bl (wf i j)) W → SR.XE (cxOf (L2.CX P w) P w K mg base N q sc f (.ref c1) A outer s H E) E XC bd (startD N.length [.int i, .int j]) W O
def ArgP (CS CI CB : Addr) (W : Om) (XC : XCt) (d1 d2 d3 d4 : D) (k : Sto → Sto → Int → Bd → Prop) : Prop :=
  KnD W d1 ∧ (isSt d1 = false → XC CS W) ∧ ∀ s : Sto, s.ok → d1 = s.d → KnD W d2 ∧ (isSt d2 = false → XC CS W) ∧ ∀ t : Sto, t.ok → d2 = t.d → (tyD W d3).isSome = true ∧ (betw d3 0 s.room = false → XC CI W) ∧
    ∀ x, 0 ≤ x → x ≤ s.room → d3 = .int x → (t.room < x → XC CI W) ∧ (x ≤ t.room → KnD W d4 ∧ (isBd d4 = false → XC CB W) ∧ ∀ b : Bd, b.ok → d4 = b.d → k s t x b)
theorem ArgP.imp {CS CI CB : Addr} {W W2 : Om} {XC XC2 : XCt} {d1 d2 d3 d4 : D} {k k' : Sto → Sto → Int → Bd → Prop} (h : ArgP CS CI CB W XC d1 d2 d3 d4 k) (h1 : ∀ d, KnD W d → KnD W2 d) (h2 : ∀ d, (tyD W d).isSome = true → (tyD W2 d).isSome = true) (h3 : ∀ C, XC C W → XC2 C W2)
    (i : ∀ s t x b, k s t x b → k' s t x b) : ArgP CS CI CB W2 XC2 d1 d2 d3 d4 k' := by
  obtain ⟨a1, a2, a3⟩ := h
  refine ⟨h1 _ a1, fun e => h3 _ (a2 e), fun s hs e1 => ?_⟩
  obtain ⟨b1, b2, b3⟩ := a3 s hs e1
  refine ⟨h1 _ b1, fun e => h3 _ (b2 e), fun t ht e2 => ?_⟩
  obtain ⟨c1, c2, c3⟩ := b3 t ht e2
  refine ⟨h2 _ c1, fun e => h3 _ (c2 e), fun x hx0 hx1 e3 => ?_⟩
  obtain ⟨f1, f2⟩ := c3 x hx0 hx1 e3
  refine ⟨fun e => h3 _ (f1 e), fun e => ?_⟩
  obtain ⟨g1, g2, g3⟩ := f2 e
  exact ⟨h1 _ g1, fun e => h3 _ (g2 e), fun b hb e4 => i s t x b (g3 b hb e4)⟩
theorem argP_ok {CS CI CB : Addr} {W : Om} {XC : XCt} {k : Sto → Sto → Int → Bd → Prop} {s t : Sto} {x : Int} {b : Bd} (hs : s.ok) (ht : t.ok) (h0 : 0 ≤ x) (h1 : x ≤ s.room) (h2 : x ≤ t.room) (hb : b.ok) (h : k s t x b) : ArgP CS CI CB W XC s.d t.d (.int x) b.d k := by
  refine ⟨s.kn W, fun e => (by rw [Sto.is hs] at e; cases e), fun s2 hs2 e => ?_⟩
  cases Sto.d_inj e
  refine ⟨t.kn W, fun e => (by rw [Sto.is ht] at e; cases e), fun t2 ht2 e => ?_⟩
  cases Sto.d_inj e
  refine ⟨rfl, fun e => ?_, fun y _ _ e => ?_⟩
  · have : betw (.int x) 0 s.room = true := by simp [betw]; omega
    rw [this] at e; cases e
  · cases e
    refine ⟨fun e => absurd e (by omega), fun _ => ⟨b.kn W, fun e => (by rw [Bd.is hb] at e; cases e), fun b2 hb2 e => ?_⟩⟩
    cases Bd.d_inj e
    exact h
def resP : Option (List Int) → D
  | none => .non
  | some ds => tupI ds
abbrev wnP (wf : Int → Int → Bool) (n : PNode) : Bool := wf n.a.stock n.b.stock
abbrev FirstA (s t : Sto) (x : Int) (b : Bd) (wf : Int → Int → Bool) (r : Option (List Int)) : Prop := FirstP (stepP s t b) (alP b) (begP s t x) (wnP wf) r
def S_first_apart (LB : Str → Arguments → Expr → Scope → (Int → Int → Bool) → Prop) (CS CI CB : Addr) : SpT := fun ds W O XC => ∃ d1 d2 d3 d4 f q pr bd sc wf, ds = [d1, d2, d3, d4, .p f] ∧ W f = some (.fn q pr bd sc) ∧ LB q pr bd sc wf ∧ (∀ x, wf x x = false) ∧
  ArgP CS CI CB W XC d1 d2 d3 d4 fun s t x b => Few s ∧ Few t ∧ ∀ r, FirstA s t x b wf r → (∀ ds, r = some ds → ds.length ≤ maxP + 1) → O (resP r) W
theorem maxP_line {n : Nat} (h : n ≤ maxP) : n + 1 < sizeLine := by rw [sizeLine_eq]; unfold maxP at h; omega
/-- between two levels -/
theorem partP_ok {s t : Sto} (hs : s.ok) (ht : t.ok) (fs : Few s) (ft : Few t) {b : Bd} (hb : b.ok) {x : Int} (h0 : 0 ≤ x) (h1 : x ≤ s.room) (h2 : x ≤ t.room) {M L : List (Ent PNode)} {m : Nat} (bi : BI (stepP s t b) (alP b) (begP s t x) M L m) {C : List (Ent PNode)} (hC : ∀ c ∈ C, c ∈ candsN (stepP s t b) (alP b) L) :
    (∃ N, C.foldl addC M = M ++ N) ∧ ((C.foldl addC M).map (·.1)).Nodup ∧ (∀ e ∈ C.foldl addC M, PNodeOk s t b e.1) ∧ (C.foldl addC M).length ≤ maxP := by
  obtain ⟨N, e, hsb, hn⟩ := foldC_new C M
  have nd := hn bi.nd
  have ok : ∀ e ∈ M ++ N, PNodeOk s t b e.1 := fun y hy => by
    rcases List.mem_append.mp hy with hy | hy
    · obtain ⟨o1, o2⟩ := bi.ok y hy
      rw [← o2]; exact okP_node hs ht hb h0 h1 h2 _ o1
    · obtain ⟨z, hz, hy2⟩ := List.mem_flatMap.mp (hC y (hsb.subset hy))
      obtain ⟨d, hd, rfl⟩ := List.mem_map.mp hy2
      obtain ⟨o1, o2⟩ := bi.ok z (bi.sub z hz)
      have := mem_irange.mp (List.mem_filter.mp hd).1
      exact stepP_ok hs ht hb (by rw [← o2]; exact okP_node hs ht hb h0 h1 h2 _ o1) this.1 this.2
  rw [e]
  refine ⟨⟨N, rfl⟩, nd, ok, ?_⟩
  have := pairs_few hs ht fs ft hb nd fun n hn => by
    obtain ⟨y, hy, rfl⟩ := List.mem_map.mp hn
    exact ok y hy
  rwa [List.length_map] at this
theorem foldC_sub {N : Type} [DecidableEq N] {C M : List (Ent N)} {p : Ent N → Prop} (hM : ∀ e ∈ M, p e) (hC : ∀ e ∈ C, p e) : ∀ e ∈ C.foldl addC M, p e := by
  obtain ⟨L, e, hs, _⟩ := foldC_new C M
  rw [e]
  intro y hy
  rcases List.mem_append.mp hy with hy | hy
  · exact hM y hy
  · exact hC y (hs.subset hy)
theorem cands_take' {N : Type} [DecidableEq N] {nx : N → Int → N} {al : N → List Int} {L : List (Ent N)} {i : Nat} {e : Ent N} (h : L[i]? = some e) : candsN nx al (L.take (i + 1)) = candsN nx al (L.take i) ++ candN nx al e := by
  rw [take_step h]
  unfold candsN
  rw [List.flatMap_append, List.flatMap_cons, List.flatMap_nil, List.append_nil]
theorem cands_split {N : Type} [DecidableEq N] {nx : N → Int → N} {al : N → List Int} {L : List (Ent N)} {i j : Nat} {e c : Ent N} (h : L[i]? = some e) (hc : (candN nx al e)[j]? = some c) :
    ∃ C2, candsN nx al L = (candsN nx al (L.take i) ++ (candN nx al e).take j) ++ c :: C2 := by
  obtain ⟨hi, rfl⟩ := List.getElem?_eq_some_iff.mp h
  obtain ⟨hj, rfl⟩ := List.getElem?_eq_some_iff.mp hc
  refine ⟨(candN nx al L[i]).drop (j + 1) ++ candsN nx al (L.drop (i + 1)), ?_⟩
  have e1 : L = L.take i ++ L[i] :: L.drop (i + 1) := by rw [← List.drop_eq_getElem_cons hi, List.take_append_drop]
  have e2 : candN nx al L[i] = (candN nx al L[i]).take j ++ (candN nx al L[i])[j] :: (candN nx al L[i]).drop (j + 1) := by rw [← List.drop_eq_getElem_cons hj, List.take_append_drop]
  have e3 : candsN nx al L = candsN nx al (L.take i) ++ (candN nx al L[i] ++ candsN nx al (L.drop (i + 1))) := by
    conv => lhs; rw [e1]
    unfold candsN
    rw [List.flatMap_append, List.flatMap_cons]
  rw [e3]
  conv => lhs; rw [e2]
  simp only [List.append_assoc, List.cons_append]
theorem u9' {n : Nat} (h : n + 64 < cLine) : n + 9 < cLine := by omega
set_option maxHeartbeats 2000000 in
theorem ok_first_apart {CS CI CB : Addr} (c1 : Cal P w K mg base 3 "check_store" ["value"] (S_check_store CS)) (c2 : Cal P w K mg base 2 "check_start" ["store", "start"] (S_check_start CI)) (c3 : Cal P w K mg base 3 "check_bounds" ["value"] (S_check_bounds CB)) (c4 : Cal P w K mg base 3 "begun" ["store", "start"] S_begun)
    (c5 : Cal P w K mg base 1 "allowed" ["bounds", "recent"] S_allowed) (c6 : Cal P w K mg base 3 "next_day" ["store", "situation", "demand"] S_next_day) (c7 : Cal P w K mg base 1 "after" ["bounds", "recent", "demand"] S_after)
    (F : Fun K "first_apart" "first_apart" s_first_apart f fd) (hm : mg "first_apart" = some (.ref f)) (hb : Binds K fd ["one", "other", "start", "bounds", "is_wanted"] []) : Cal P w K mg base 4 "first_apart" ["one", "other", "start", "bounds", "is_wanted"] (S_first_apart (LamB P w K mg base) CS CI CB) := by
  refine cal_mk F hm hb sc_first_apart (fun ds W O XC h => ?_) (fun cdv A outer s H E ds W O XC hr h => ?_)
  · obtain ⟨d1, d2, d3, d4, f, q, pr, bd, sc, wf, rfl, _⟩ := h
    rfl
  · obtain ⟨d1, d2, d3, d4, lf, q, pr, bd, lsc, wf, rfl, hlf, LB, hxx, a1, a2, a3⟩ := h
    have hu := hr.units
    have r2 := hr.mono (show 2 ≤ 3 by decide); have r1 := hr.mono (show 1 ≤ 3 by decide)
    refine xb_cons (xs_expr (xe_call c1 hr passX (xa_cons (xe_name 0 rfl (xa_nil ⟨d1, rfl, a1, fun e => ?_, a2⟩)))))
    obtain ⟨st, hs, rfl⟩ := isSt_of e
    obtain ⟨b1, b2, b3⟩ := a3 st hs rfl
    refine xb_cons (xs_expr (xe_call c1 hr passX (xa_cons (xe_name 1 rfl (xa_nil ⟨d2, rfl, b1, fun e => ?_, b2⟩)))))
    obtain ⟨tt, ht, rfl⟩ := isSt_of e
    obtain ⟨e1, e2, e3⟩ := b3 tt ht rfl
    refine xb_cons (xs_expr (xe_call c2 r2 passX (xa_cons (xe_name 0 rfl (xa_cons (xe_name 2 rfl (xa_nil ⟨st, d3, rfl, e1, fun e4 => ?_, e2⟩)))))))
    obtain ⟨ed, hx0, hx1⟩ := betw_int e4
    obtain ⟨f1, f2⟩ := e3 _ hx0 hx1 ed
    generalize iv d3 = x at *
    subst ed
    refine xb_cons (xs_expr (xe_call c2 r2 passX (xa_cons (xe_name 1 rfl (xa_cons (xe_name 2 rfl (xa_nil ⟨tt, .int x, rfl, rfl, fun e4 => ?_, fun e4 => f1 ?_⟩)))))))
    case refine_2 =>
      by_cases hq : tt.room < x
      · exact hq
      · have : betw (.int x) 0 tt.room = true := by simp [betw]; omega
        rw [this] at e4; cases e4
    obtain ⟨_, _, hx2⟩ := betw_int e4
    have hx2 : x ≤ tt.room := hx2
    obtain ⟨g1, g2, g3⟩ := f2 hx2
    refine xb_cons (xs_expr (xe_call c3 hr passX (xa_cons (xe_name 3 rfl (xa_nil ⟨d4, rfl, g1, fun e => ?_, g2⟩)))))
    obtain ⟨b, hB, rfl⟩ := isBd_of e
    obtain ⟨fst, ftt, h⟩ := g3 b hB rfl
    obtain ⟨N, ps, SL, hps2, hbi, hbody⟩ := LB.ex
    refine xb_nox (E' := E0) (xb_cons (xs_set 5 sc_first_apart.nd (xe_tup (xa_cons (xe_call c4 hr pass0X (xa_cons (xe_name 0 rfl (xa_cons (xe_name 2 rfl (xa_nil ⟨st, x, rfl, hs, xa_cons (xe_call c4 hr pass0X (xa_cons (xe_name 1 rfl (xa_cons (xe_name 2 rfl (xa_nil ⟨tt, x, rfl, ht, xa_cons (xe_tup (xa_nil ⟨by simp, xa_nil ⟨by simp, ?_⟩⟩))⟩))))))⟩))))))))))
    show SR.XB _ _ _ _ (List.set _ 5 (some (begP st tt x).d)) _ _
    refine xb_cons (xs_par 6 7 sc_first_apart.nd (xa_cons (xe_kone (u9' hu) (fun pm hpm => xe_name 5 rfl (xe_bl ⟨pnK (begP st tt x), keyD_pn _, updO_same, xa_cons (xe_lst (xa_cons (xe_tup (xa_cons (xe_name 5 rfl (xa_cons (xe_tup (xa_nil ⟨by simp, xa_nil ⟨by simp, xa_nil ⟨by simp, fun pl hpl => xa_nil ⟨_, _, rfl, ?_⟩⟩⟩⟩))))))))⟩)))))
    rw [updO_updO] at hpl ⊢
    have n1 : pm ≠ pl := neO updO_same hpl
    refine xb_cons (xs_while (fun k g' W' => ∃ (M L : List (Ent PNode)) (m : Nat) (pl : Addr) (y8 y9 y10 y11 y12 y13 y14 : Option D), g' = [some st.d, some tt.d, some (.int x), some b.d, some (.p lf), some (begP st tt x).d, some (.p pm), some (.p pl), y8, y9, y10, y11, y12, y13, y14] ∧ BI (stepP st tt b) (alP b) (begP st tt x) M L m ∧ (m ≤ M.length ∧ (L ≠ [] → m < M.length)) ∧ (∀ e ∈ M, wnP wf e.1 = false) ∧ SR.Sub W W' ∧ W' pm = some (.dic w (entP M)) ∧ W' pl = some (.lst (L.map levP)) ∧ k = if L = [] then 0 else maxP + 1 - M.length) maxP ⟨[(begP st tt x, [])], [(begP st tt x, [])], 0, pl, _, _, _, _, _, _, _, rfl, bi_start _ _ _, ⟨by simp, fun _ => by simp⟩, (fun e he => by simp at he; subst he; exact hxx x), (Sub.new hpm).trans (Sub.new hpl), by rw [updO_ne n1, updO_same]; rfl, updO_same, by simp⟩ fun k g' W' ⟨M, L, m, pl, y8, y9, y10, y11, y12, y13, y14, eg, bi, ⟨hm1, hm2⟩, hwM, hsub, hpm', hpl', hk⟩ => ?_)
    subst eg
    refine xt_shr (xt_ne hu (xe_name 7 rfl (xe_lst (xa_nil ⟨by simp, fun l0 hl0 => neD_lst (n := 4) (m := 0) (Sub.new hl0 _ _ hpl') updO_same (fun y hy => ?_) (fun y hy => by cases hy) (by decide) (by decide) (fun e => ⟨_, rfl, W', Sub.new hl0, fun z => (by cases z), fun _ => ?_⟩) (fun e => ⟨_, rfl, W', Sub.new hl0, fun _ => ?_, fun z => by cases z⟩)⟩))))
    · obtain ⟨z, _, rfl⟩ := List.mem_map.mp hy
      exact levP_pln _
    · -- no demands
      have eL : L = [] := List.map_eq_nil_iff.mp e
      subst eL
      exact xb_one (xs_ret (xe_shr (xe_non ⟨W, hsub, h none (first_none _ _ _ _ bi hwM) (fun ds z => by cases z)⟩)))
    · -- a level
      have eL : L ≠ [] := fun z => e (by rw [z]; rfl)
      have hk2 : k = maxP + 1 - M.length := by rw [hk, if_neg eL]
      have pm_pl : pm ≠ pl := fun z => by rw [z, hpl'] at hpm'; cases hpm'
      refine xb_cons (xs_set 8 sc_first_apart.nd (xe_lst (xa_nil ⟨by simp, fun pl2 h2 => ?_⟩)))
      have pm_p2 : pm ≠ pl2 := neO hpm' h2
      have pl_p2 : pl ≠ pl2 := neO hpl' h2
      have free2 : W pl2 = none := hsub.free h2
      refine xb_cons (xs_for (fun i g' W2 => ∃ (y9 y10 y11 y12 y13 y14 : Option D), g' = [some st.d, some tt.d, some (.int x), some b.d, some (.p lf), some (begP st tt x).d, some (.p pm), some (.p pl), some (.p pl2), y9, y10, y11, y12, y13, y14] ∧ SR.Sub W W2 ∧ W2 pm = some (.dic w (entP ((candsN (stepP st tt b) (alP b) (L.take i)).foldl addC M))) ∧ W2 pl = some (.lst (L.map levP)) ∧ W2 pl2 = some (.lst ((((candsN (stepP st tt b) (alP b) (L.take i)).foldl addC M).drop M.length).map levP)) ∧ ∀ e ∈ candsN (stepP st tt b) (alP b) (L.take i), wnP wf e.1 = false) (xi_lst (xe_name 7 rfl ⟨pl, _, rfl, by rw [updO_ne pl_p2]; exact hpl', ⟨_, _, _, _, _, _, rfl, sub_in hsub free2, by rw [updO_ne pm_p2]; exact hpm', by rw [updO_ne pl_p2]; exact hpl', ?_, (fun e he => by simp [candsN] at he)⟩, fun i g' W2 ⟨_, _, _, _, _, _, _, _, _, q, _⟩ => q, ?_, ?_⟩)))
      · rw [updO_same]
        show _ = some (Ob.lst ((M.drop M.length).map levP))
        rw [List.drop_length]
        rfl
      · rintro i d g' W2 hd ⟨y9, y10, y11, y12, y13, y14, rfl, hsub2, q1, q2, q3, hwC⟩
        obtain ⟨⟨n, es⟩, he, rfl⟩ := get_map hd
        have heL : (n, es) ∈ L := List.mem_of_getElem? he
        have heM := bi.sub _ heL
        have hes : es.length = m := bi.lev _ heL
        have nok : PNodeOk st tt b n := (partP_ok hs ht fst ftt hB hx0 hx1 hx2 bi (C := []) (fun c hc => by cases hc)).2.2.1 _ heM
        have hd3 := hB.d3
        have hrl : n.r.length ≤ 30 := by have := nok.rl; omega
        refine xg_tup rfl (xgs_cons (xg_name 9 sc_first_apart.nd (xgs_cons (xg_name 10 sc_first_apart.nd (xgs_nil ?_)))))
        refine xb_one (xs_forL (xi_lst (xe_call c5 r1 pass0X (xa_cons (xe_name 3 rfl (xa_cons (xe_ix (xe_name 9 rfl (xe_int ⟨_, rfl, xa_nil ⟨b, n.r, rfl, hB, hrl, nok.rf, fun ls hls => ?_⟩⟩)))))))))
        have pm_ls : pm ≠ ls := neO q1 hls
        have pl_ls : pl ≠ ls := neO q2 hls
        have p2_ls : pl2 ≠ ls := neO q3 hls
        have cm : ∀ j, ∀ c ∈ candsN (stepP st tt b) (alP b) (L.take i) ++ (candN (stepP st tt b) (alP b) (n, es)).take j, c ∈ candsN (stepP st tt b) (alP b) L := fun j c hc => by
          rcases List.mem_append.mp hc with hc | hc
          · obtain ⟨z, hz, hc⟩ := List.mem_flatMap.mp hc
            exact List.mem_flatMap.mpr ⟨z, List.mem_of_mem_take hz, hc⟩
          · exact List.mem_flatMap.mpr ⟨_, heL, List.mem_of_mem_take hc⟩
        refine ⟨ls, _, rfl, updO_same, fun j g' W3 => ∃ (y11 y12 y13 y14 : Option D), g' = [some st.d, some tt.d, some (.int x), some b.d, some (.p lf), some (begP st tt x).d, some (.p pm), some (.p pl), some (.p pl2), some n.d, some (tupI es), y11, y12, y13, y14] ∧ SR.Sub W W3 ∧ W3 pm = some (.dic w (entP ((candsN (stepP st tt b) (alP b) (L.take i) ++ (candN (stepP st tt b) (alP b) (n, es)).take j).foldl addC M))) ∧ W3 pl = some (.lst (L.map levP)) ∧ W3 pl2 = some (.lst ((((candsN (stepP st tt b) (alP b) (L.take i) ++ (candN (stepP st tt b) (alP b) (n, es)).take j).foldl addC M).drop M.length).map levP)) ∧ W3 ls = some (.lst ((alB b n.r).map D.int)) ∧ ∀ e ∈ candsN (stepP st tt b) (alP b) (L.take i) ++ (candN (stepP st tt b) (alP b) (n, es)).take j, wnP wf e.1 = false, ⟨_, _, _, _, rfl, sub_in hsub2 (hsub2.free hls), ?_, by rw [updO_ne pl_ls]; exact q2, ?_, updO_same, ?_⟩, fun j g' W3 ⟨_, _, _, _, _, _, _, _, _, q, _⟩ => q, ?_, ?_⟩
        · rw [updO_ne pm_ls, List.take_zero, List.append_nil]; exact q1
        · rw [updO_ne p2_ls, List.take_zero, List.append_nil]; exact q3
        · rw [List.take_zero, List.append_nil]; exact hwC
        · rintro j dd g' W3 hd2 ⟨y11, y12, y13, y14, rfl, hsub3, r1', r2', r3', r4', hwJ⟩
          obtain ⟨dm, hdm, rfl⟩ := get_map hd2
          have hcj : (candN (stepP st tt b) (alP b) (n, es))[j]? = some (stepP st tt b n dm, es ++ [dm]) := by
            unfold candN alP
            rw [List.getElem?_map, hdm]; rfl
          obtain ⟨⟨N2, eN⟩, nd, oks, few⟩ := partP_ok hs ht fst ftt hB hx0 hx1 hx2 bi (cm j)
          have est : (candsN (stepP st tt b) (alP b) (L.take i) ++ (candN (stepP st tt b) (alP b) (n, es)).take (j + 1)).foldl addC M = addC ((candsN (stepP st tt b) (alP b) (L.take i) ++ (candN (stepP st tt b) (alP b) (n, es)).take j).foldl addC M) (stepP st tt b n dm, es ++ [dm]) := by
            rw [take_step hcj, ← List.append_assoc, List.foldl_append]
            rfl
          have hwS : ∀ {v : Bool}, wf (dayS st n.a dm).stock (dayS tt n.b dm).stock = false → ∀ e ∈ candsN (stepP st tt b) (alP b) (L.take i) ++ (candN (stepP st tt b) (alP b) (n, es)).take (j + 1), wnP wf e.1 = false := fun {v} hv e he => by
            rw [take_step hcj, ← List.append_assoc] at he
            rcases List.mem_append.mp he with he | he
            · exact hwJ e he
            · simp at he; subst he; exact hv
          obtain ⟨C2, eC2⟩ := cands_split he hcj
          have hit : wf (dayS st n.a dm).stock (dayS tt n.b dm).stock = true → FirstA st tt x b wf (some (es ++ [dm])) := fun hv => first_hit _ _ _ _ (alP_asc b) bi hwM eC2 hwJ hv
          generalize hMij : (candsN (stepP st tt b) (alP b) (L.take i) ++ (candN (stepP st tt b) (alP b) (n, es)).take j).foldl addC M = Mij at r1' r3' est eN nd oks few
          have h3 : M.length ≤ Mij.length := by rw [eN, List.length_append]; omega
          have h4 := hm2 eL
          have hl1 := nok.pa.ok.len; have hl2 := nok.pb.ok.len
          refine xg_name 11 sc_first_apart.nd (xb_cons (xs_par 12 13 sc_first_apart.nd (xa_cons (xe_ix (xe_call c6 hr pass0X (xa_cons (xe_name 0 rfl (xa_cons (xe_ix (xe_name 9 rfl (xe_int ⟨_, rfl, xa_cons (xe_name 11 rfl (xa_nil ⟨st, n.a, dm, rfl, hs, hl1, xe_int ⟨_, rfl, ?_⟩⟩))⟩)))))))))))
          refine xa_cons (xe_ix (xe_call c6 hr pass0X (xa_cons (xe_name 1 rfl (xa_cons (xe_ix (xe_name 9 rfl (xe_int ⟨_, rfl, xa_cons (xe_name 11 rfl (xa_nil ⟨tt, n.b, dm, rfl, ht, hl2, xe_int ⟨_, rfl, xa_nil ⟨_, _, rfl, ?_⟩⟩⟩))⟩))))))))
          have hlf3 := hsub3 _ _ hlf
          refine xb_cons (xs_if (xt_val ?_))
          refine xe_callF 4 SL r1 pass0X rfl hlf3 hbi ?_
          refine xa_cons (xe_ix (xe_name 12 rfl (xe_int ⟨_, rfl, xa_cons (xe_ix (xe_name 13 rfl (xe_int ⟨_, rfl, xa_nil ⟨hlf3, by rw [hps2]; rfl, fun A2 outer2 s2 H2 c2 _ => hbody _ _ _ _ _ _ _ _ _ _ _ _ ⟨_, rfl, fun ev => ?_, fun ev => xb_nil ?_⟩⟩⟩)))⟩)))
          · -- found
            refine xb_one (xs_ret (xe_shr (xe_addT (xe_name 10 rfl (xe_tup (xa_cons (xe_name 11 rfl (xa_nil ⟨by simp, _, _, rfl, rfl, ?_, W, hsub3, ?_⟩))))))))
            · have := maxP_line few
              simp only [List.length_map, List.length_singleton]
              omega
            · have h5 := h _ (hit ev) (fun ds z => by cases z; simp; omega)
              simp only [resP, tupI, List.map_append] at h5
              exact h5
          · -- further
            refine xb_cons (xs_set 14 sc_first_apart.nd (xe_tup (xa_cons (xe_name 12 rfl (xa_cons (xe_name 13 rfl (xa_cons (xe_call c7 r1 pass0X (xa_cons (xe_name 3 rfl (xa_cons (xe_ix (xe_name 9 rfl (xe_int ⟨_, rfl, xa_cons (xe_name 11 rfl (xa_nil ⟨b, n.r, dm, rfl, hB, hrl, xa_nil ⟨by simp, ?_⟩⟩))⟩))))))))))))))
            show SR.XB _ _ _ _ (List.set _ 14 (some (stepP st tt b n dm).d)) _ _
            refine xb_one (xs_if (xt_knotin (u9' hu) (xe_name 14 rfl (xe_name 6 rfl ⟨pm, _, pnK (stepP st tt b n dm), rfl, keyD_pn _, .inl r1', fun e => ?_, fun e => xb_nil ?_⟩))))
            · have hk3 : keyIn Mij (stepP st tt b n dm) = false := by rw [look_entP] at e; simpa using e
              have eadd : addC Mij (stepP st tt b n dm, es ++ [dm]) = Mij ++ [(stepP st tt b n dm, es ++ [dm])] := by
                unfold addC; rw [if_neg (by rw [hk3]; exact Bool.false_ne_true)]
              refine xb_cons (xs_kput (u9' hu) (xe_bl (xe_name 6 rfl (xe_name 14 rfl ⟨pm, _, pnK (stepP st tt b n dm), rfl, keyD_pn _, r1', ?_, ?_⟩))))
              · have := maxP_line few
                unfold entP; rw [List.length_map]; omega
              · refine xb_one (xs_expr (xe_append (xe_name 8 rfl ⟨pl2, _, rfl, by rw [updO_ne (Ne.symm pm_p2)]; exact r3', xe_tup (xa_cons (xe_name 14 rfl (xa_cons (xe_addT (xe_name 10 rfl (xe_tup (xa_cons (xe_name 11 rfl (xa_nil ⟨by simp, _, _, rfl, rfl, ?_, xa_nil ⟨by simp, _, by rw [updO_ne (Ne.symm pm_p2)]; exact r3', ?_, ?_⟩⟩)))))))))⟩)))
                · have := maxP_line few
                  simp only [List.length_map, List.length_singleton]
                  omega
                · have := maxP_line few
                  rw [List.length_map, List.length_drop]; omega
                · refine ⟨_, _, _, _, rfl, sub_in (sub_in hsub3 hpm) free2, ?_, ?_, ?_, ?_, hwS (v := true) ev⟩
                  · rw [updO_ne pm_p2, updO_same, est, eadd, ← put_entP (c := (stepP st tt b n dm, es ++ [dm])) hk3]
                    rfl
                  · rw [updO_ne pl_p2, updO_ne (Ne.symm pm_pl)]; exact r2'
                  · rw [updO_same, est, eadd, List.drop_append_of_le_length h3, List.map_append]
                    simp only [List.map_cons, List.map_nil, levP, tupI, List.map_append]
                  · rw [updO_ne (Ne.symm p2_ls), updO_ne (Ne.symm pm_ls)]; exact r4'
            · have hk3 : keyIn Mij (stepP st tt b n dm) = true := by rw [look_entP] at e; simpa using e
              have eadd : addC Mij (stepP st tt b n dm, es ++ [dm]) = Mij := by
                unfold addC; rw [if_pos hk3]
              refine ⟨_, _, _, _, rfl, hsub3, ?_, r2', ?_, r4', hwS (v := true) ev⟩
              · rw [est, eadd]; exact r1'
              · rw [est, eadd]; exact r3'
        · rintro g' W3 ⟨y11, y12, y13, y14, rfl, hsub3, r1', r2', r3', r4', hwJ⟩
          have ec := cands_take' (nx := stepP st tt b) (al := alP b) he
          have el : ((alB b n.r).map D.int).length = (candN (stepP st tt b) (alP b) (n, es)).length := by unfold candN alP; rw [List.length_map, List.length_map]
          rw [el, List.take_length] at r1' r3' hwJ
          refine ⟨_, _, _, _, _, _, rfl, hsub3, ?_, r2', ?_, ?_⟩
          · rw [ec]; exact r1'
          · rw [ec]; exact r3'
          · rw [ec]; exact hwJ
      · rintro g' W2 ⟨y9, y10, y11, y12, y13, y14, rfl, hsub2, q1, q2, q3, hwC⟩
        rw [List.length_map, List.take_length] at q1 q3 hwC
        have hwN := foldC_sub (p := fun e => wnP wf e.1 = false) hwM hwC
        obtain ⟨L', eL', bi'⟩ := bi_step (stepP st tt b) (alP b) (begP st tt x) (alP_asc b) bi
        rw [eL'] at q1 q3 hwN
        rw [List.drop_left] at q3
        have few := (partP_ok hs ht fst ftt hB hx0 hx1 hx2 bi' (C := []) (fun c hc => by cases hc)).2.2.2
        have few' : (M ++ L').length ≤ maxP := few
        rw [List.length_append] at few'
        have := hm2 eL
        refine xb_one (xs_set 7 sc_first_apart.nd (xe_name 8 rfl ⟨_, ?_, M ++ L', L', m + 1, pl2, _, _, _, _, _, _, _, rfl, bi', ⟨?_, fun hne => ?_⟩, hwN, hsub2, q1, q3, rfl⟩))
        · rw [hk2]
          split
          · omega
          · rename_i hne
            have : 0 < L'.length := List.length_pos_iff.mpr hne
            rw [List.length_append]; omega
        · rw [List.length_append]; omega
        · have : 0 < L'.length := List.length_pos_iff.mpr hne
          rw [List.length_append]; omega

end Law
namespace Law
open PySem PySem.Spec PyProof.Rows L2 SR
variable {P : Program} {w : World} {K : PySem.W.Frag} {mg : Str → Option Value} {base : Heap} {f : Addr} {fd : FuncData}
/-! ### the first demands that fit, of which something is true -/
def FirF (b : Bd) (p : List Int → Bool) (r : Option (List Int)) : Prop := (∀ ds, r = some ds → fitB b ds = true ∧ p ds = true ∧ ∀ es, fitB b es = true → p es = true → sle ds es) ∧ (r = none → ∀ es, fitB b es = true → p es = false)
abbrev stk (s : Sto) (x : Int) (ds : List Int) : Int := (runS s (begunS s x) ds).stock
theorem FirF.unique {b : Bd} {p q : List Int → Bool} {r r2 : Option (List Int)} (hpq : ∀ ds, p ds = q ds) (h : FirF b p r) (k : FirF b q r2) : r = r2 := by
  cases r with
  | none =>
    cases r2 with
    | none => rfl
    | some d =>
      obtain ⟨k1, k2, _⟩ := k.1 d rfl
      have := h.2 rfl d k1
      rw [hpq, k2] at this; cases this
  | some a =>
    obtain ⟨h1, h2, h3⟩ := h.1 a rfl
    cases r2 with
    | none =>
      have := k.2 rfl a h1
      rw [← hpq, h2] at this; cases this
    | some d =>
      obtain ⟨k1, k2, k3⟩ := k.1 d rfl
      rw [sle_anti (h3 d k1 (by rw [hpq]; exact k2)) (k3 a h1 (by rw [← hpq]; exact h2))]
/-- the first of all short ones -/
theorem FirF.short {b : Bd} (hb : b.ok) {p : List Int → Bool} {r : Option (List Int)} (h : FirF b p r) (n : Nat) : (∀ m rest, (SR.allB b n).filter p = m :: rest → r = some m) ∧ ((SR.allB b n).filter p = [] → ∀ ds, r = some ds → n < ds.length) := by
  refine ⟨fun m rest e => ?_, fun e ds er => ?_⟩
  · have hm : m ∈ (SR.allB b n).filter p := by rw [e]; exact List.mem_cons_self
    obtain ⟨h1, h2⟩ := List.mem_filter.mp hm
    obtain ⟨h3, h4⟩ := allB_fit _ _ h1
    cases r with
    | none =>
      have := h.2 rfl m h3
      rw [h2] at this; cases this
    | some ds =>
      obtain ⟨k1, k2, k3⟩ := h.1 ds rfl
      have k4 := k3 m h3 h2
      have hd : ds ∈ (SR.allB b n).filter p := List.mem_filter.mpr ⟨mem_allB hb k1 (by have := sle_len k4; omega), k2⟩
      have asc := (allB_asc (b := b) n).sublist (List.filter_sublist (p := p))
      rw [e] at hd asc
      rcases List.mem_cons.mp hd with rfl | hd
      · rfl
      · have := (List.pairwise_cons.mp asc).1 ds hd
        rw [sle_anti k4 (.inr this)]
  · obtain ⟨k1, k2, _⟩ := h.1 ds er
    apply Decidable.byContradiction
    intro hl
    have : ds ∈ (SR.allB b n).filter p := List.mem_filter.mpr ⟨mem_allB hb k1 (by omega), k2⟩
    rw [e] at this; cases this
def ivs : D → List Int
  | .tup xs => xs.map iv
  | _ => []
theorem ivs_tup (ms : List Int) : ivs (tupI ms) = ms := by
  unfold ivs tupI
  simp only [List.map_map]
  exact (List.map_congr_left fun x _ => rfl).trans (List.map_id _)
theorem fm_tups {p : List Int → Bool} : ∀ L : List (List Int), (L.map tupI).filterMap (fun d => if p (ivs d) = true then some d else none) = (L.filter p).map tupI
  | [] => rfl
  | m :: L => by
    rw [List.map_cons, List.filterMap_cons, fm_tups L, List.filter_cons, ivs_tup]
    by_cases h : p m = true
    · rw [if_pos h, if_pos h]; rfl
    · rw [if_neg h, if_neg h]
theorem pln_tups {L : List (List Int)} : ∀ y ∈ L.map tupI, Pln 1 y := fun y hy => by
  obtain ⟨m, _, rfl⟩ := List.mem_map.mp hy
  exact pln_ints 0 m
theorem cut_lastP {α : Type} (xs : List α) : cutA xs none (some (-1)) = xs.dropLast := by
  unfold cutA
  rw [HT.sIx_none]
  have : HT.sIx xs.length xs.length (some (-1)) = xs.length - 1 := by
    show (if (-1 : Int) < 0 then (-1 + (xs.length : Int)).toNat else min (-1 : Int).toNat xs.length) = _
    rw [if_pos (by decide)]; omega
  rw [this, List.drop_zero, Nat.sub_zero, List.dropLast_eq_take]
theorem xs_midP {X : Cx} {E : XK} {XC : XCt} {g : Ga} {W : Om} {st : Stmt} {C : EndD} (M : Ga → Om → Prop) (h : SR.XS X E XC st g W { C with nx := M }) (h2 : ∀ g1 W1, M g1 W1 → C.nx g1 W1) : SR.XS X E XC st g W C :=
  fun D σ H r k el l => h D σ H r k el ⟨fun σ1 H1 g1 W1 k1 o1 r1 h1 => l.nx σ1 H1 g1 W1 k1 o1 r1 (h2 g1 W1 h1), l.rt, l.bk, l.ct⟩
theorem at_zero {α : Type} (y : α) (xs : List α) : atI (y :: xs) 0 = some y := by
  have e : ixN (y :: xs).length 0 = some 0 := by
    unfold ixN
    rw [if_pos (by decide)]
    simp
  unfold atI
  rw [e]
  rfl

end Law
namespace Law
open PySem PySem.Spec PyProof.Rows L2 SR
variable {P : Program} {w : World} {K : PySem.W.Frag} {mg : Str → Option Value} {base : Heap} {f : Addr} {fd : FuncData}
/-! ### parting, first_more: lambdas -/
theorem xe_shrX {X : Cx} {E : XK} {XC : XCt} {g : Ga} {W : Om} {e : Expr} {O : OD} (h : SR.XE X E (fun C W' => ∃ W0, SR.Sub W0 W' ∧ XC C W0) e g W O) : SR.XE X E XC e g W O :=
  fun σ H r k el Q q => h σ H r k (fun C H' W' k' o' ⟨W0, s, x⟩ => el C H' W0 k' (o'.sub s) x) Q q
theorem tyD_sub {W W2 : Om} (s : SR.Sub W W2) {d : D} (h : (tyD W d).isSome = true) : (tyD W2 d).isSome = true := by
  cases d with
  | p a =>
    unfold tyD at h ⊢
    simp only at h ⊢
    cases e : W a with
    | none => rw [e] at h; cases h
    | some o =>
      rw [s _ _ e]
      rw [e] at h
      exact h
  | _ => exact h
theorem kn_sub {W W2 : Om} (s : SR.Sub W W2) {d : D} (h : KnD W d) : KnD W2 d := ⟨tyD_sub s h.1, fun xs e x hx => tyD_sub s (h.2 xs e x hx)⟩
def qLam (x : Str) : Str := (x ++ ".<locals>.") ++ "<lambda>"
def wNe (i j : Int) : Bool := !decide (i = j)
def wGt (i j : Int) : Bool := decide (j < i)
def S_parts (x : Str) (wf : Int → Int → Bool) (T CS CI CB : Addr) : SpT := fun ds W O XC => ∃ d1 d2 d3 d4, ds = [d1, d2, d3, d4] ∧ W T = some (.tab (qLam x)) ∧
  ArgP CS CI CB W XC d1 d2 d3 d4 fun s t x b => Few s ∧ Few t ∧ ∀ r, FirstA s t x b wf r → (∀ ds, r = some ds → ds.length ≤ maxP + 1) → O (resP r) W
/-! ### the first demands that fit, of which something is true -/
theorem firF_of {s t : Sto} {x : Int} {b : Bd} (hb : b.ok) {wf : Int → Int → Bool} {r : Option (List Int)} (h : FirstA s t x b wf r) : FirF b (fun ds => wf (stk s x ds) (stk t x ds)) r := by
  refine ⟨fun ds e => ?_, fun e es hf => ?_⟩
  · obtain ⟨h1, h2, h3⟩ := h.1 ds e
    rw [goP_eq] at h2
    refine ⟨(okP_iff hb ds).mp h1, h2, fun es hf hp => h3 es ((okP_iff hb es).mpr hf) ?_⟩
    rw [goP_eq]; exact hp
  · have := h.2 e es ((okP_iff hb es).mpr hf)
    rw [goP_eq] at this
    exact this
theorem pln_resP : ∀ r : Option (List Int), Pln 1 (resP r)
  | none => .non
  | some ds => pln_ints 0 ds
/-- a law whose program makes lambdas: their tables -/
def S_lawT (Ts : List (Addr × Str)) : SpT := fun ds W O _ => ∃ a ns, ds = [.scr a ns] ∧ ns.length ≤ 63 ∧ (∀ p ∈ Ts, W p.1 = some (.tab p.2)) ∧ ∀ W', O (.bl true) W'
/-! ### the script, where it is an open list -/
theorem set_selfP {α : Type} {l : List α} {i : Nat} {x : α} (h : l[i]? = some x) : l.set i x = l := by
  obtain ⟨hi, rfl⟩ := List.getElem?_eq_some_iff.mp h
  exact List.set_getElem_self hi
def delO (W : Om) (a : Addr) : Om := fun b => if b = a then none else W b
theorem xb_scr {X : Cx} {E : XK} {XC : XCt} {g : Ga} {W : Om} {C : EndD} {st : List Stmt} (i : Nat) {a : Addr} {ns : List Int} (hg : g[i]? = some (some (.p a))) (ha : W a = some (.lst (ns.map D.int))) (h : SR.XB X E XC st (g.set i (some (.scr a ns))) (delO W a) C) : SR.XB X E XC st g W C := by
  intro D σ H r k el l pins s I
  obtain ⟨xs, hx, rx⟩ := k a _ ha
  rw [rx.ints] at hx
  obtain ⟨od, I2⟩ := I.lock hx True.intro
  have kk : Kp H (upd H a (.frz od (.lst (ns.map V.int)))) := Kp.at hx (fun _ z => by cases z) (fun _ _ z => by cases z)
  obtain ⟨v, hv, rv⟩ := r.get i _ hg
  cases rv
  have r2 : RpS X.K (upd H a (.frz od (.lst (ns.map V.int)))) σ (g.set i (some (.scr a ns))) := by
    have := (r.kp kk).set i (v := .ref a) (d := .scr a ns) (.scr (.inl ⟨od, upd_same⟩))
    rwa [show σ.set i (some (.ref a)) = σ from set_selfP hv] at this
  refine h D σ _ r2 (fun b o e => ?_) (el.kp kk) (l.kp kk) pins s I2
  unfold delO at e
  by_cases hb : b = a
  · rw [if_pos hb] at e; cases e
  · rw [if_neg hb] at e
    exact (k b o e).stay kk (upd_ne hb)
def S_lawT2 (Ts : List (Addr × Str)) : SpT := fun ds W O XC => S_lawT Ts ds W O XC ∨ ∃ (a : Addr) (ns : List Int), ds = [.p a] ∧ ns.length ≤ 63 ∧ W a = some (.lst (ns.map D.int)) ∧ (∀ p ∈ Ts, W p.1 = some (.tab p.2)) ∧ ∀ W', O (.bl true) W'
theorem fnDT {Ts : List (Addr × Str)} {st : Stmt} {N : List Str} {k : Nat} (F : Fun K "law" "law" st f fd) (Sc : FnScope N ["script"] (defScope st))
    (body : ∀ (cdv : Value) (A : Around) (outer : List Env) (s : Shared) (H : Hp) (E : XK) (ds : List D) (W : Om) (O : OD) (XC : XCt), Room k (A.deeper (envOfC "law" (defScope st) s.heap.objs.size f cdv)) → S_lawT Ts ds W O XC →
      SR.XB (cxOf (L2.CX P w) P w K mg base N "law" (defScope st) f cdv A outer s H E) E XC (defBody st) (startD N.length ds) W { nx := fun _ W' => O .non W', rt := O }) : FnOk P w K mg base (L2.CX P w) (k + 1) f fd ["script"] (SpD K (S_lawT2 Ts)) := by
  refine fnD F Sc (fun ds W O XC h => ?_) (fun cdv A outer s H E ds W O XC hr h => ?_)
  · rcases h with ⟨a, ns, rfl, _⟩ | ⟨a, ns, rfl, _⟩ <;> rfl
  · rcases h with h | ⟨a, ns, rfl, hl, ha, hT, h⟩
    · exact body cdv A outer s H E ds W O XC hr h
    · refine xb_scr 0 rfl ha ?_
      refine body cdv A outer s H E [.scr a ns] (delO W a) O XC hr ⟨a, ns, rfl, hl, fun p hp => ?_, h⟩
      have := hT p hp
      unfold delO
      rw [if_neg (fun z => by rw [z, ha] at this; cases this)]
      exact this
/-- the tables at the start -/
def tabW : List (Addr × Str) → Om
  | [] => fun _ => none
  | p :: Ts => fun b => if b = p.1 then some (.tab p.2) else tabW Ts b
theorem tabW_ok {H : Hp} : ∀ {Ts : List (Addr × Str)}, (∀ p ∈ Ts, H p.1 = some (.tbl #[])) → HpOk K H (tabW Ts)
  | [], _ => fun _ _ e => by cases e
  | p :: Ts, h => fun b o e => by
    by_cases hb : b = p.1
    · have e2 : some (Ob.tab p.2) = some o := by
        have e3 : (if b = p.1 then some (Ob.tab p.2) else tabW Ts b) = some o := e
        rwa [if_pos hb] at e3
      cases e2
      refine ⟨#[], by rw [hb]; exact h p List.mem_cons_self, True.intro, fun pos cv hc => ?_⟩
      have z : codeAmong pos [] = some cv := hc
      simp [codeAmong] at z
    · have e3 : (if b = p.1 then some (Ob.tab p.2) else tabW Ts b) = some o := e
      rw [if_neg hb] at e3
      exact tabW_ok (fun q hq => h q (List.mem_cons_of_mem _ hq)) b o e3
theorem law_sp {H : Hp} {a : Addr} {ns : List Int} {Ts : List (Addr × Str)} (hl : ns.length ≤ 63) (hT : ∀ p ∈ Ts, H p.1 = some (.tbl #[])) (hW : ∀ p ∈ Ts, tabW Ts p.1 = some (.tab p.2)) (hS : SqL K H a (ns.map V.int)) :
    SpD K (S_lawT2 Ts) [.ref a] H (fun v _ => v = .bl true) fun _ _ _ => False := by
  have q : QL K H (fun d _ => d = .bl true) (fun v _ => v = .bl true) := fun v H' d W' _ _ r e => by subst e; cases r; rfl
  have fz : Fz K H a (ns.map V.int) → SpD K (S_lawT2 Ts) [.ref a] H (fun v _ => v = .bl true) fun _ _ _ => False := fun hf =>
    ⟨[.scr a ns], tabW Ts, fun d _ => d = .bl true, XC0, .cons (.scr hf) .nil, tabW_ok hT, el0, q, Or.inl ⟨a, ns, rfl, hl, hW, fun _ => rfl⟩⟩
  rcases hS with (h | ⟨o, h⟩) | h
  · have na : ∀ p ∈ Ts, p.1 ≠ a := fun p hp z => by
      have := hT p hp
      rw [z, h] at this; cases this
    refine ⟨[.p a], updO (tabW Ts) a (.lst (ns.map D.int)), fun d _ => d = .bl true, XC0, .cons (.p a) .nil, fun b o e => ?_, el0, q, Or.inr ⟨a, ns, rfl, hl, updO_same, fun p hp => by rw [updO_ne (na p hp)]; exact hW p hp, fun _ => rfl⟩⟩
    by_cases hb : b = a
    · subst hb
      rw [updO_same] at e
      cases e
      exact ⟨_, h, RpAll.ofInts ns⟩
    · rw [updO_ne hb] at e
      exact tabW_ok hT b o e
  · exact fz (.inl ⟨o, h⟩)
  · exact fz (.inr (.inr h))
theorem tabW_one (a : Addr) (q : Str) : tabW [(a, q)] a = some (.tab q) := if_pos rfl

end Law
namespace Law
open PySem PySem.Spec PyProof.Rows L2 SR
variable {P : Program} {w : World} {K : PySem.W.Frag} {mg : Str → Option Value} {base : Heap} {f : Addr} {fd : FuncData}
theorem ok_parting {cc T CS CI CB : Addr} (hcd : fd.code = .ref cc) (TB : LamX.TabB base mg cc T) (c1 : Cal P w K mg base 4 "first_apart" ["one", "other", "start", "bounds", "is_wanted"] (S_first_apart (LamB P w K mg base) CS CI CB))
    (F : Fun K "parting" "parting" s_parting f fd) (hm : mg "parting" = some (.ref f)) (hb : Binds K fd ["one", "other", "start", "bounds"] []) : Cal P w K mg base 5 "parting" ["one", "other", "start", "bounds"] (S_parts "parting" wNe T CS CI CB) := by
  refine cal_mkC F hm hb sc_parting (fun ds W O XC h => ?_) (fun A outer s H E ds W O XC hr h => ?_)
  · obtain ⟨d1, d2, d3, d4, rfl, _⟩ := h
    rfl
  · obtain ⟨d1, d2, d3, d4, rfl, hT, h⟩ := h
    refine xb_one (xs_ret (xe_shr (xe_shrX (xe_call c1 hr passX (xa_cons (xe_name 0 rfl (xa_cons (xe_name 1 rfl (xa_cons (xe_name 2 rfl (xa_cons (xe_name 3 rfl (xa_cons (xe_lam TB hcd hT (by decide +kernel) rfl rfl (fun lf hlf => xa_nil ⟨d1, d2, d3, d4, lf, _, _, _, _, wNe, rfl, updO_same, ?_, fun x => (by simp [wNe]), h.imp (fun d => kn_sub (Sub.new hlf)) (fun d => tyD_sub (Sub.new hlf)) (fun C hC => ⟨W, Sub.new hlf, hC⟩) fun s t x b ⟨f1, f2, h⟩ => ⟨f1, f2, fun r hr hl => ⟨W, Sub.new hlf, h r hr hl⟩⟩⟩)))))))))))))))
    refine ⟨["first", "second"], ["first", "second"], ⟨rfl, rfl, rfl, by decide +kernel, rfl, by decide +kernel, by decide +kernel⟩, rfl, fun pm cv ctv us hl => match us, hl with | [_, _], _ => rfl, fun i j E XC W O f c1 A outer s H h => ?_⟩
    exact xe_neS (xe_name 0 rfl (xe_name 1 rfl ⟨_, rfl, h⟩))

end Law
namespace Law
open PySem PySem.Spec PyProof.Rows L2 SR
variable {P : Program} {w : World} {K : PySem.W.Frag} {mg : Str → Option Value} {base : Heap} {f : Addr} {fd : FuncData}
def S_are_alike (T CS CI CB : Addr) : SpT := fun ds W O XC => ∃ d1 d2 d3 d4, ds = [d1, d2, d3, d4] ∧ W T = some (.tab (qLam "parting")) ∧
  ArgP CS CI CB W XC d1 d2 d3 d4 fun s t x b => Few s ∧ Few t ∧ ∀ r, FirstA s t x b wNe r → O (.bl r.isNone) W
theorem ok_are_alike {T CS CI CB : Addr} (c1 : Cal P w K mg base 5 "parting" ["one", "other", "start", "bounds"] (S_parts "parting" wNe T CS CI CB))
    (F : Fun K "are_alike" "are_alike" s_are_alike f fd) (hm : mg "are_alike" = some (.ref f)) (hb : Binds K fd ["one", "other", "start", "bounds"] []) : Cal P w K mg base 6 "are_alike" ["one", "other", "start", "bounds"] (S_are_alike T CS CI CB) := by
  refine cal_mk F hm hb sc_are_alike (fun ds W O XC h => ?_) (fun cdv A outer s H E ds W O XC hr h => ?_)
  · obtain ⟨d1, d2, d3, d4, rfl, _⟩ := h
    rfl
  · obtain ⟨d1, d2, d3, d4, rfl, hT, h⟩ := h
    refine xb_one (xs_ret (xe_isN (xe_call c1 hr passX (xa_cons (xe_name 0 rfl (xa_cons (xe_name 1 rfl (xa_cons (xe_name 2 rfl (xa_cons (xe_name 3 rfl (xa_nil ⟨d1, d2, d3, d4, rfl, hT, h.imp (fun _ h => h) (fun _ h => h) (fun _ h => h) fun s t x b ⟨f1, f2, h⟩ => ⟨f1, f2, fun r hr hl => xe_non ⟨rfl, ?_⟩⟩⟩))))))))))))
    have e : isNon (resP r) = r.isNone := by cases r <;> rfl
    rw [e]
    exact h r hr

end Law
namespace Law
open PySem PySem.Spec PyProof.Rows L2 SR
variable {P : Program} {w : World} {K : PySem.W.Frag} {mg : Str → Option Value} {base : Heap} {f : Addr} {fd : FuncData}
theorem ok_first_more {cc T CS CI CB : Addr} (hcd : fd.code = .ref cc) (TB : LamX.TabB base mg cc T) (c1 : Cal P w K mg base 4 "first_apart" ["one", "other", "start", "bounds", "is_wanted"] (S_first_apart (LamB P w K mg base) CS CI CB))
    (F : Fun K "first_more" "first_more" s_first_more f fd) (hm : mg "first_more" = some (.ref f)) (hb : Binds K fd ["one", "other", "start", "bounds"] []) : Cal P w K mg base 5 "first_more" ["one", "other", "start", "bounds"] (S_parts "first_more" wGt T CS CI CB) := by
  refine cal_mkC F hm hb sc_first_more (fun ds W O XC h => ?_) (fun A outer s H E ds W O XC hr h => ?_)
  · obtain ⟨d1, d2, d3, d4, rfl, _⟩ := h
    rfl
  · obtain ⟨d1, d2, d3, d4, rfl, hT, h⟩ := h
    refine xb_one (xs_ret (xe_shr (xe_shrX (xe_call c1 hr passX (xa_cons (xe_name 0 rfl (xa_cons (xe_name 1 rfl (xa_cons (xe_name 2 rfl (xa_cons (xe_name 3 rfl (xa_cons (xe_lam TB hcd hT (by decide +kernel) rfl rfl (fun lf hlf => xa_nil ⟨d1, d2, d3, d4, lf, _, _, _, _, wGt, rfl, updO_same, ?_, fun x => (by simp [wGt]), h.imp (fun d => kn_sub (Sub.new hlf)) (fun d => tyD_sub (Sub.new hlf)) (fun C hC => ⟨W, Sub.new hlf, hC⟩) fun s t x b ⟨f1, f2, h⟩ => ⟨f1, f2, fun r hr hl => ⟨W, Sub.new hlf, h r hr hl⟩⟩⟩)))))))))))))))
    refine ⟨["first", "second"], ["first", "second"], ⟨rfl, rfl, rfl, by decide +kernel, rfl, by decide +kernel, by decide +kernel⟩, rfl, fun pm cv ctv us hl => match us, hl with | [_, _], _ => rfl, fun i j E XC W O f c1 A outer s H h => ?_⟩
    exact ex_cmp (by simp) (xe_name 0 rfl (xe_name 1 rfl ⟨_, _, _, rfl, rfl, rfl, h⟩))

end Law
namespace Law
open PySem PySem.Spec PyProof.Rows L2 SR
variable {P : Program} {w : World} {K : PySem.W.Frag} {mg : Str → Option Value} {base : Heap} {f : Addr} {fd : FuncData}
/-! ### k01: calls that raise -/
def S_callX (CS CI CB CD CP CY T1 T2 : Addr) : SpT := fun ds W O XC => ∃ (way : Int) (d1 d2 d3 d4 : D), ds = [.int way, .tup [d1, d2, d3, d4]] ∧ 0 ≤ way ∧ way ≤ 20 ∧ W T1 = some (.tab (qLam "parting")) ∧ W T2 = some (.tab (qLam "first_more")) ∧
  (way = 0 → S_order_forX CS CP [d1, d2] W O XC) ∧ (way = 1 → S_r1 CS CI [d1, d2] W O XC) ∧ (2 ≤ way → way ≤ 4 → ArgR CS CI CD W XC d1 d2 d3 fun _ _ _ => False) ∧
  (5 ≤ way → way ≤ 11 → Rs3 CS CI CB W XC d1 d2 d3 False) ∧ (12 ≤ way → way ≤ 13 → S_r2 CS CB [d1, d3] W O XC) ∧ (14 ≤ way → way ≤ 17 → Rs4 CS CI CB CY W XC d1 d2 d3 d4) ∧
  (18 ≤ way → ArgP CS CI CB W XC d1 d4 d2 d3 fun _ _ _ _ => False)
theorem ok_law_call {CS CI CB CD CP CY T1 T2 : Addr} (k_order_for : Cal P w K mg base 4 "order_for" ["store", "position"] (S_order_forX CS CP)) (k_first_situation : Cal P w K mg base 4 "first_situation" ["store", "start"] (S_r1 CS CI)) (k_run : Cal P w K mg base 5 "run" ["store", "start", "demands"] (S_run CS CI CD)) (k_situation_after : Cal P w K mg base 5 "situation_after" ["store", "start", "demands"] (S_situation_after CS CI CD)) (k_totals : Cal P w K mg base 6 "totals" ["store", "start", "demands"] (S_totals CS CI CD)) (k_first_short : Cal P w K mg base 5 "first_short" ["store", "start", "bounds"] (S_r3 CS CI CB)) (k_first_spill : Cal P w K mg base 5 "first_spill" ["store", "start", "bounds"] (S_r3 CS CI CB)) (k_highest : Cal P w K mg base 6 "highest" ["store", "start", "bounds"] (S_r3 CS CI CB)) (k_lowest : Cal P w K mg base 6 "lowest" ["store", "start", "bounds"] (S_r3 CS CI CB)) (k_count_situations : Cal P w K mg base 5 "count_situations" ["store", "start", "bounds"] (S_r3 CS CI CB)) (k_least_level : Cal P w K mg base 5 "least_level" ["store", "start", "bounds"] (S_r3 CS CI CB)) (k_is_safe : Cal P w K mg base 5 "is_safe" ["store", "start", "bounds"] (S_r3 CS CI CB)) (k_least_start : Cal P w K mg base 5 "least_start" ["store", "bounds"] (S_r2 CS CB)) (k_safe_starts : Cal P w K mg base 5 "safe_starts" ["store", "bounds"] (S_r2 CS CB)) (k_most_missed : Cal P w K mg base 6 "most_missed" ["store", "start", "bounds", "days"] (S_r4 CS CI CB CY)) (k_most_ordered : Cal P w K mg base 6 "most_ordered" ["store", "start", "bounds", "days"] (S_r4 CS CI CB CY)) (k_fewest_ordered : Cal P w K mg base 6 "fewest_ordered" ["store", "start", "bounds", "days"] (S_r4 CS CI CB CY)) (k_most_spilled : Cal P w K mg base 6 "most_spilled" ["store", "start", "bounds", "days"] (S_r4 CS CI CB CY)) (k_parting : Cal P w K mg base 5 "parting" ["one", "other", "start", "bounds"] (S_parts "parting" wNe T1 CS CI CB)) (k_are_alike : Cal P w K mg base 6 "are_alike" ["one", "other", "start", "bounds"] (S_are_alike T1 CS CI CB)) (k_first_more : Cal P w K mg base 5 "first_more" ["one", "other", "start", "bounds"] (S_parts "first_more" wGt T2 CS CI CB))
    (F : Fun K "_law_call" "_law_call" s__law_call f fd) (hm : mg "_law_call" = some (.ref f)) (hb : Binds K fd ["way", "arguments"] []) : Cal P w K mg base 7 "_law_call" ["way", "arguments"] (S_callX CS CI CB CD CP CY T1 T2) := by
  refine cal_mk F hm hb sc__law_call (fun ds W O XC h => ?_) (fun cdv A outer s H E ds W O XC hr h => ?_)
  · obtain ⟨way, d1, d2, d3, d4, rfl, _⟩ := h
    rfl
  · obtain ⟨way, d1, d2, d3, d4, rfl, w0, w20, hT1, hT2, h0, h1, h2, h5, h12, h14, h18⟩ := h
    obtain ⟨f_order_for, g_order_for, q_order_for⟩ := k_order_for.at
    obtain ⟨f_first_situation, g_first_situation, q_first_situation⟩ := k_first_situation.at
    obtain ⟨f_run, g_run, q_run⟩ := k_run.at
    obtain ⟨f_situation_after, g_situation_after, q_situation_after⟩ := k_situation_after.at
    obtain ⟨f_totals, g_totals, q_totals⟩ := k_totals.at
    obtain ⟨f_first_short, g_first_short, q_first_short⟩ := k_first_short.at
    obtain ⟨f_first_spill, g_first_spill, q_first_spill⟩ := k_first_spill.at
    obtain ⟨f_highest, g_highest, q_highest⟩ := k_highest.at
    obtain ⟨f_lowest, g_lowest, q_lowest⟩ := k_lowest.at
    obtain ⟨f_count_situations, g_count_situations, q_count_situations⟩ := k_count_situations.at
    obtain ⟨f_least_level, g_least_level, q_least_level⟩ := k_least_level.at
    obtain ⟨f_is_safe, g_is_safe, q_is_safe⟩ := k_is_safe.at
    obtain ⟨f_least_start, g_least_start, q_least_start⟩ := k_least_start.at
    obtain ⟨f_safe_starts, g_safe_starts, q_safe_starts⟩ := k_safe_starts.at
    obtain ⟨f_most_missed, g_most_missed, q_most_missed⟩ := k_most_missed.at
    obtain ⟨f_most_ordered, g_most_ordered, q_most_ordered⟩ := k_most_ordered.at
    obtain ⟨f_fewest_ordered, g_fewest_ordered, q_fewest_ordered⟩ := k_fewest_ordered.at
    obtain ⟨f_most_spilled, g_most_spilled, q_most_spilled⟩ := k_most_spilled.at
    obtain ⟨f_parting, g_parting, q_parting⟩ := k_parting.at
    obtain ⟨f_are_alike, g_are_alike, q_are_alike⟩ := k_are_alike.at
    obtain ⟨f_first_more, g_first_more, q_first_more⟩ := k_first_more.at
    have r4 := hr.mono (show 4 ≤ 6 by decide); have r5 := hr.mono (show 5 ≤ 6 by decide)
    refine xb_cons (xs_asg (xe_name 1 rfl (xg_tup rfl (xgs_cons (xg_name 2 sc__law_call.nd (xgs_cons (xg_name 3 sc__law_call.nd (xgs_cons (xg_name 4 sc__law_call.nd (xgs_cons (xg_name 5 sc__law_call.nd (xgs_nil ?_))))))))))))
    have hw : way = 0 ∨ way = 1 ∨ way = 2 ∨ way = 3 ∨ way = 4 ∨ way = 5 ∨ way = 6 ∨ way = 7 ∨ way = 8 ∨ way = 9 ∨ way = 10 ∨ way = 11 ∨ way = 12 ∨ way = 13 ∨ way = 14 ∨ way = 15 ∨ way = 16 ∨ way = 17 ∨ way = 18 ∨ way = 19 ∨ way = 20 := by omega
    rcases hw with rfl | rfl | rfl | rfl | rfl | rfl | rfl | rfl | rfl | rfl | rfl | rfl | rfl | rfl | rfl | rfl | rfl | rfl | rfl | rfl | rfl
    · -- order_for
      refine xb_cons (xs_if (xt_cmp (by simp) (xe_name 0 rfl (xe_int ⟨_, _, _, rfl, rfl, rfl, _, rfl, fun _ => ?_, fun z => absurd (of_decide_eq_false z) (by decide)⟩))))
      exact xb_one (xs_ret (xe_callS passX (xe_ix (xe_tup (xa_cons (xe_glob g_order_for (xa_cons (xe_glob g_first_situation (xa_nil ⟨by simp, xe_name 0 rfl ⟨.p f_order_for, rfl, f_order_for, _, _, rfl, q_order_for, r4, xa_cons (xe_name 2 rfl (xa_cons (xe_name 3 rfl (xa_nil (h0 rfl)))))⟩⟩)))))))))
    · -- first_situation
      refine xb_cons (xs_if (xt_cmp (by simp) (xe_name 0 rfl (xe_int ⟨_, _, _, rfl, rfl, rfl, _, rfl, fun _ => ?_, fun z => absurd (of_decide_eq_false z) (by decide)⟩))))
      exact xb_one (xs_ret (xe_callS passX (xe_ix (xe_tup (xa_cons (xe_glob g_order_for (xa_cons (xe_glob g_first_situation (xa_nil ⟨by simp, xe_name 0 rfl ⟨.p f_first_situation, rfl, f_first_situation, _, _, rfl, q_first_situation, r4, xa_cons (xe_name 2 rfl (xa_cons (xe_name 3 rfl (xa_nil (h1 rfl)))))⟩⟩)))))))))
    · -- run
      refine xb_cons (xs_if (xt_cmp (by simp) (xe_name 0 rfl (xe_int ⟨_, _, _, rfl, rfl, rfl, _, rfl, fun z => absurd (of_decide_eq_true z) (by decide), fun _ => xb_nil ?_⟩))))
      refine xb_cons (xs_if (xt_cmp (by simp) (xe_name 0 rfl (xe_int ⟨_, _, _, rfl, rfl, rfl, _, rfl, fun _ => ?_, fun z => absurd (of_decide_eq_false z) (by decide)⟩))))
      exact xb_one (xs_ret (xe_callS passX (xe_ix (xe_tup (xa_cons (xe_glob g_run (xa_cons (xe_glob g_situation_after (xa_cons (xe_glob g_totals (xa_nil ⟨by simp, xe_sub (xe_name 0 rfl (xe_int ⟨_, _, rfl, rfl, ⟨.p f_run, rfl, f_run, _, _, rfl, q_run, r5, xa_cons (xe_name 2 rfl (xa_cons (xe_name 3 rfl (xa_cons (xe_name 4 rfl (xa_nil (⟨d1, d2, d3, rfl, (h2 (by decide) (by decide)).imp fun _ _ _ _ _ _ _ _ _ _ _ z => z.elim⟩)))))))⟩⟩))⟩)))))))))))
    · -- situation_after
      refine xb_cons (xs_if (xt_cmp (by simp) (xe_name 0 rfl (xe_int ⟨_, _, _, rfl, rfl, rfl, _, rfl, fun z => absurd (of_decide_eq_true z) (by decide), fun _ => xb_nil ?_⟩))))
      refine xb_cons (xs_if (xt_cmp (by simp) (xe_name 0 rfl (xe_int ⟨_, _, _, rfl, rfl, rfl, _, rfl, fun _ => ?_, fun z => absurd (of_decide_eq_false z) (by decide)⟩))))
      exact xb_one (xs_ret (xe_callS passX (xe_ix (xe_tup (xa_cons (xe_glob g_run (xa_cons (xe_glob g_situation_after (xa_cons (xe_glob g_totals (xa_nil ⟨by simp, xe_sub (xe_name 0 rfl (xe_int ⟨_, _, rfl, rfl, ⟨.p f_situation_after, rfl, f_situation_after, _, _, rfl, q_situation_after, r5, xa_cons (xe_name 2 rfl (xa_cons (xe_name 3 rfl (xa_cons (xe_name 4 rfl (xa_nil (⟨d1, d2, d3, rfl, (h2 (by decide) (by decide)).imp fun _ _ _ _ _ _ _ _ _ _ _ z => z.elim⟩)))))))⟩⟩))⟩)))))))))))
    · -- totals
      refine xb_cons (xs_if (xt_cmp (by simp) (xe_name 0 rfl (xe_int ⟨_, _, _, rfl, rfl, rfl, _, rfl, fun z => absurd (of_decide_eq_true z) (by decide), fun _ => xb_nil ?_⟩))))
      refine xb_cons (xs_if (xt_cmp (by simp) (xe_name 0 rfl (xe_int ⟨_, _, _, rfl, rfl, rfl, _, rfl, fun _ => ?_, fun z => absurd (of_decide_eq_false z) (by decide)⟩))))
      exact xb_one (xs_ret (xe_callS passX (xe_ix (xe_tup (xa_cons (xe_glob g_run (xa_cons (xe_glob g_situation_after (xa_cons (xe_glob g_totals (xa_nil ⟨by simp, xe_sub (xe_name 0 rfl (xe_int ⟨_, _, rfl, rfl, ⟨.p f_totals, rfl, f_totals, _, _, rfl, q_totals, hr, xa_cons (xe_name 2 rfl (xa_cons (xe_name 3 rfl (xa_cons (xe_name 4 rfl (xa_nil (⟨d1, d2, d3, rfl, (h2 (by decide) (by decide)).imp fun _ _ _ _ _ _ _ _ _ _ _ z => z.elim⟩)))))))⟩⟩))⟩)))))))))))
    · -- first_short
      refine xb_cons (xs_if (xt_cmp (by simp) (xe_name 0 rfl (xe_int ⟨_, _, _, rfl, rfl, rfl, _, rfl, fun z => absurd (of_decide_eq_true z) (by decide), fun _ => xb_nil ?_⟩))))
      refine xb_cons (xs_if (xt_cmp (by simp) (xe_name 0 rfl (xe_int ⟨_, _, _, rfl, rfl, rfl, _, rfl, fun z => absurd (of_decide_eq_true z) (by decide), fun _ => xb_nil ?_⟩))))
      refine xb_cons (xs_if (xt_cmp (by simp) (xe_name 0 rfl (xe_int ⟨_, _, _, rfl, rfl, rfl, _, rfl, fun _ => ?_, fun z => absurd (of_decide_eq_false z) (by decide)⟩))))
      refine xb_cons (xs_set 6 sc__law_call.nd (xe_tup (xa_cons (xe_glob g_first_short (xa_cons (xe_glob g_first_spill (xa_cons (xe_glob g_highest (xa_cons (xe_glob g_lowest (xa_cons (xe_glob g_count_situations (xa_cons (xe_glob g_least_level (xa_cons (xe_glob g_is_safe (xa_nil ⟨by simp, ?_⟩)))))))))))))))))
      exact xb_one (xs_ret (xe_callS passX (xe_ix (xe_name 6 rfl (xe_sub (xe_name 0 rfl (xe_int ⟨_, _, rfl, rfl, ⟨.p f_first_short, rfl, f_first_short, _, _, rfl, q_first_short, r5, xa_cons (xe_name 2 rfl (xa_cons (xe_name 3 rfl (xa_cons (xe_name 4 rfl (xa_nil (⟨d1, d2, d3, rfl, h5 (by decide) (by decide)⟩)))))))⟩⟩)))))))
    · -- first_spill
      refine xb_cons (xs_if (xt_cmp (by simp) (xe_name 0 rfl (xe_int ⟨_, _, _, rfl, rfl, rfl, _, rfl, fun z => absurd (of_decide_eq_true z) (by decide), fun _ => xb_nil ?_⟩))))
      refine xb_cons (xs_if (xt_cmp (by simp) (xe_name 0 rfl (xe_int ⟨_, _, _, rfl, rfl, rfl, _, rfl, fun z => absurd (of_decide_eq_true z) (by decide), fun _ => xb_nil ?_⟩))))
      refine xb_cons (xs_if (xt_cmp (by simp) (xe_name 0 rfl (xe_int ⟨_, _, _, rfl, rfl, rfl, _, rfl, fun _ => ?_, fun z => absurd (of_decide_eq_false z) (by decide)⟩))))
      refine xb_cons (xs_set 6 sc__law_call.nd (xe_tup (xa_cons (xe_glob g_first_short (xa_cons (xe_glob g_first_spill (xa_cons (xe_glob g_highest (xa_cons (xe_glob g_lowest (xa_cons (xe_glob g_count_situations (xa_cons (xe_glob g_least_level (xa_cons (xe_glob g_is_safe (xa_nil ⟨by simp, ?_⟩)))))))))))))))))
      exact xb_one (xs_ret (xe_callS passX (xe_ix (xe_name 6 rfl (xe_sub (xe_name 0 rfl (xe_int ⟨_, _, rfl, rfl, ⟨.p f_first_spill, rfl, f_first_spill, _, _, rfl, q_first_spill, r5, xa_cons (xe_name 2 rfl (xa_cons (xe_name 3 rfl (xa_cons (xe_name 4 rfl (xa_nil (⟨d1, d2, d3, rfl, h5 (by decide) (by decide)⟩)))))))⟩⟩)))))))
    · -- highest
      refine xb_cons (xs_if (xt_cmp (by simp) (xe_name 0 rfl (xe_int ⟨_, _, _, rfl, rfl, rfl, _, rfl, fun z => absurd (of_decide_eq_true z) (by decide), fun _ => xb_nil ?_⟩))))
      refine xb_cons (xs_if (xt_cmp (by simp) (xe_name 0 rfl (xe_int ⟨_, _, _, rfl, rfl, rfl, _, rfl, fun z => absurd (of_decide_eq_true z) (by decide), fun _ => xb_nil ?_⟩))))
      refine xb_cons (xs_if (xt_cmp (by simp) (xe_name 0 rfl (xe_int ⟨_, _, _, rfl, rfl, rfl, _, rfl, fun _ => ?_, fun z => absurd (of_decide_eq_false z) (by decide)⟩))))
      refine xb_cons (xs_set 6 sc__law_call.nd (xe_tup (xa_cons (xe_glob g_first_short (xa_cons (xe_glob g_first_spill (xa_cons (xe_glob g_highest (xa_cons (xe_glob g_lowest (xa_cons (xe_glob g_count_situations (xa_cons (xe_glob g_least_level (xa_cons (xe_glob g_is_safe (xa_nil ⟨by simp, ?_⟩)))))))))))))))))
      exact xb_one (xs_ret (xe_callS passX (xe_ix (xe_name 6 rfl (xe_sub (xe_name 0 rfl (xe_int ⟨_, _, rfl, rfl, ⟨.p f_highest, rfl, f_highest, _, _, rfl, q_highest, hr, xa_cons (xe_name 2 rfl (xa_cons (xe_name 3 rfl (xa_cons (xe_name 4 rfl (xa_nil (⟨d1, d2, d3, rfl, h5 (by decide) (by decide)⟩)))))))⟩⟩)))))))
    · -- lowest
      refine xb_cons (xs_if (xt_cmp (by simp) (xe_name 0 rfl (xe_int ⟨_, _, _, rfl, rfl, rfl, _, rfl, fun z => absurd (of_decide_eq_true z) (by decide), fun _ => xb_nil ?_⟩))))
      refine xb_cons (xs_if (xt_cmp (by simp) (xe_name 0 rfl (xe_int ⟨_, _, _, rfl, rfl, rfl, _, rfl, fun z => absurd (of_decide_eq_true z) (by decide), fun _ => xb_nil ?_⟩))))
      refine xb_cons (xs_if (xt_cmp (by simp) (xe_name 0 rfl (xe_int ⟨_, _, _, rfl, rfl, rfl, _, rfl, fun _ => ?_, fun z => absurd (of_decide_eq_false z) (by decide)⟩))))
      refine xb_cons (xs_set 6 sc__law_call.nd (xe_tup (xa_cons (xe_glob g_first_short (xa_cons (xe_glob g_first_spill (xa_cons (xe_glob g_highest (xa_cons (xe_glob g_lowest (xa_cons (xe_glob g_count_situations (xa_cons (xe_glob g_least_level (xa_cons (xe_glob g_is_safe (xa_nil ⟨by simp, ?_⟩)))))))))))))))))
      exact xb_one (xs_ret (xe_callS passX (xe_ix (xe_name 6 rfl (xe_sub (xe_name 0 rfl (xe_int ⟨_, _, rfl, rfl, ⟨.p f_lowest, rfl, f_lowest, _, _, rfl, q_lowest, hr, xa_cons (xe_name 2 rfl (xa_cons (xe_name 3 rfl (xa_cons (xe_name 4 rfl (xa_nil (⟨d1, d2, d3, rfl, h5 (by decide) (by decide)⟩)))))))⟩⟩)))))))
    · -- count_situations
      refine xb_cons (xs_if (xt_cmp (by simp) (xe_name 0 rfl (xe_int ⟨_, _, _, rfl, rfl, rfl, _, rfl, fun z => absurd (of_decide_eq_true z) (by decide), fun _ => xb_nil ?_⟩))))
      refine xb_cons (xs_if (xt_cmp (by simp) (xe_name 0 rfl (xe_int ⟨_, _, _, rfl, rfl, rfl, _, rfl, fun z => absurd (of_decide_eq_true z) (by decide), fun _ => xb_nil ?_⟩))))
      refine xb_cons (xs_if (xt_cmp (by simp) (xe_name 0 rfl (xe_int ⟨_, _, _, rfl, rfl, rfl, _, rfl, fun _ => ?_, fun z => absurd (of_decide_eq_false z) (by decide)⟩))))
      refine xb_cons (xs_set 6 sc__law_call.nd (xe_tup (xa_cons (xe_glob g_first_short (xa_cons (xe_glob g_first_spill (xa_cons (xe_glob g_highest (xa_cons (xe_glob g_lowest (xa_cons (xe_glob g_count_situations (xa_cons (xe_glob g_least_level (xa_cons (xe_glob g_is_safe (xa_nil ⟨by simp, ?_⟩)))))))))))))))))
      exact xb_one (xs_ret (xe_callS passX (xe_ix (xe_name 6 rfl (xe_sub (xe_name 0 rfl (xe_int ⟨_, _, rfl, rfl, ⟨.p f_count_situations, rfl, f_count_situations, _, _, rfl, q_count_situations, r5, xa_cons (xe_name 2 rfl (xa_cons (xe_name 3 rfl (xa_cons (xe_name 4 rfl (xa_nil (⟨d1, d2, d3, rfl, h5 (by decide) (by decide)⟩)))))))⟩⟩)))))))
    · -- least_level
      refine xb_cons (xs_if (xt_cmp (by simp) (xe_name 0 rfl (xe_int ⟨_, _, _, rfl, rfl, rfl, _, rfl, fun z => absurd (of_decide_eq_true z) (by decide), fun _ => xb_nil ?_⟩))))
      refine xb_cons (xs_if (xt_cmp (by simp) (xe_name 0 rfl (xe_int ⟨_, _, _, rfl, rfl, rfl, _, rfl, fun z => absurd (of_decide_eq_true z) (by decide), fun _ => xb_nil ?_⟩))))
      refine xb_cons (xs_if (xt_cmp (by simp) (xe_name 0 rfl (xe_int ⟨_, _, _, rfl, rfl, rfl, _, rfl, fun _ => ?_, fun z => absurd (of_decide_eq_false z) (by decide)⟩))))
      refine xb_cons (xs_set 6 sc__law_call.nd (xe_tup (xa_cons (xe_glob g_first_short (xa_cons (xe_glob g_first_spill (xa_cons (xe_glob g_highest (xa_cons (xe_glob g_lowest (xa_cons (xe_glob g_count_situations (xa_cons (xe_glob g_least_level (xa_cons (xe_glob g_is_safe (xa_nil ⟨by simp, ?_⟩)))))))))))))))))
      exact xb_one (xs_ret (xe_callS passX (xe_ix (xe_name 6 rfl (xe_sub (xe_name 0 rfl (xe_int ⟨_, _, rfl, rfl, ⟨.p f_least_level, rfl, f_least_level, _, _, rfl, q_least_level, r5, xa_cons (xe_name 2 rfl (xa_cons (xe_name 3 rfl (xa_cons (xe_name 4 rfl (xa_nil (⟨d1, d2, d3, rfl, h5 (by decide) (by decide)⟩)))))))⟩⟩)))))))
    · -- is_safe
      refine xb_cons (xs_if (xt_cmp (by simp) (xe_name 0 rfl (xe_int ⟨_, _, _, rfl, rfl, rfl, _, rfl, fun z => absurd (of_decide_eq_true z) (by decide), fun _ => xb_nil ?_⟩))))
      refine xb_cons (xs_if (xt_cmp (by simp) (xe_name 0 rfl (xe_int ⟨_, _, _, rfl, rfl, rfl, _, rfl, fun z => absurd (of_decide_eq_true z) (by decide), fun _ => xb_nil ?_⟩))))
      refine xb_cons (xs_if (xt_cmp (by simp) (xe_name 0 rfl (xe_int ⟨_, _, _, rfl, rfl, rfl, _, rfl, fun _ => ?_, fun z => absurd (of_decide_eq_false z) (by decide)⟩))))
      refine xb_cons (xs_set 6 sc__law_call.nd (xe_tup (xa_cons (xe_glob g_first_short (xa_cons (xe_glob g_first_spill (xa_cons (xe_glob g_highest (xa_cons (xe_glob g_lowest (xa_cons (xe_glob g_count_situations (xa_cons (xe_glob g_least_level (xa_cons (xe_glob g_is_safe (xa_nil ⟨by simp, ?_⟩)))))))))))))))))
      exact xb_one (xs_ret (xe_callS passX (xe_ix (xe_name 6 rfl (xe_sub (xe_name 0 rfl (xe_int ⟨_, _, rfl, rfl, ⟨.p f_is_safe, rfl, f_is_safe, _, _, rfl, q_is_safe, r5, xa_cons (xe_name 2 rfl (xa_cons (xe_name 3 rfl (xa_cons (xe_name 4 rfl (xa_nil (⟨d1, d2, d3, rfl, h5 (by decide) (by decide)⟩)))))))⟩⟩)))))))
    · -- least_start
      refine xb_cons (xs_if (xt_cmp (by simp) (xe_name 0 rfl (xe_int ⟨_, _, _, rfl, rfl, rfl, _, rfl, fun z => absurd (of_decide_eq_true z) (by decide), fun _ => xb_nil ?_⟩))))
      refine xb_cons (xs_if (xt_cmp (by simp) (xe_name 0 rfl (xe_int ⟨_, _, _, rfl, rfl, rfl, _, rfl, fun z => absurd (of_decide_eq_true z) (by decide), fun _ => xb_nil ?_⟩))))
      refine xb_cons (xs_if (xt_cmp (by simp) (xe_name 0 rfl (xe_int ⟨_, _, _, rfl, rfl, rfl, _, rfl, fun z => absurd (of_decide_eq_true z) (by decide), fun _ => xb_nil ?_⟩))))
      refine xb_cons (xs_if (xt_cmp (by simp) (xe_name 0 rfl (xe_int ⟨_, _, _, rfl, rfl, rfl, _, rfl, fun _ => ?_, fun z => absurd (of_decide_eq_false z) (by decide)⟩))))
      exact xb_one (xs_ret (xe_callS passX (xe_ix (xe_tup (xa_cons (xe_glob g_least_start (xa_cons (xe_glob g_safe_starts (xa_nil ⟨by simp, xe_sub (xe_name 0 rfl (xe_int ⟨_, _, rfl, rfl, ⟨.p f_least_start, rfl, f_least_start, _, _, rfl, q_least_start, r5, xa_cons (xe_name 2 rfl (xa_cons (xe_name 4 rfl (xa_nil (h12 (by decide) (by decide))))))⟩⟩))⟩)))))))))
    · -- safe_starts
      refine xb_cons (xs_if (xt_cmp (by simp) (xe_name 0 rfl (xe_int ⟨_, _, _, rfl, rfl, rfl, _, rfl, fun z => absurd (of_decide_eq_true z) (by decide), fun _ => xb_nil ?_⟩))))
      refine xb_cons (xs_if (xt_cmp (by simp) (xe_name 0 rfl (xe_int ⟨_, _, _, rfl, rfl, rfl, _, rfl, fun z => absurd (of_decide_eq_true z) (by decide), fun _ => xb_nil ?_⟩))))
      refine xb_cons (xs_if (xt_cmp (by simp) (xe_name 0 rfl (xe_int ⟨_, _, _, rfl, rfl, rfl, _, rfl, fun z => absurd (of_decide_eq_true z) (by decide), fun _ => xb_nil ?_⟩))))
      refine xb_cons (xs_if (xt_cmp (by simp) (xe_name 0 rfl (xe_int ⟨_, _, _, rfl, rfl, rfl, _, rfl, fun _ => ?_, fun z => absurd (of_decide_eq_false z) (by decide)⟩))))
      exact xb_one (xs_ret (xe_callS passX (xe_ix (xe_tup (xa_cons (xe_glob g_least_start (xa_cons (xe_glob g_safe_starts (xa_nil ⟨by simp, xe_sub (xe_name 0 rfl (xe_int ⟨_, _, rfl, rfl, ⟨.p f_safe_starts, rfl, f_safe_starts, _, _, rfl, q_safe_starts, r5, xa_cons (xe_name 2 rfl (xa_cons (xe_name 4 rfl (xa_nil (h12 (by decide) (by decide))))))⟩⟩))⟩)))))))))
    · -- most_missed
      refine xb_cons (xs_if (xt_cmp (by simp) (xe_name 0 rfl (xe_int ⟨_, _, _, rfl, rfl, rfl, _, rfl, fun z => absurd (of_decide_eq_true z) (by decide), fun _ => xb_nil ?_⟩))))
      refine xb_cons (xs_if (xt_cmp (by simp) (xe_name 0 rfl (xe_int ⟨_, _, _, rfl, rfl, rfl, _, rfl, fun z => absurd (of_decide_eq_true z) (by decide), fun _ => xb_nil ?_⟩))))
      refine xb_cons (xs_if (xt_cmp (by simp) (xe_name 0 rfl (xe_int ⟨_, _, _, rfl, rfl, rfl, _, rfl, fun z => absurd (of_decide_eq_true z) (by decide), fun _ => xb_nil ?_⟩))))
      refine xb_cons (xs_if (xt_cmp (by simp) (xe_name 0 rfl (xe_int ⟨_, _, _, rfl, rfl, rfl, _, rfl, fun z => absurd (of_decide_eq_true z) (by decide), fun _ => xb_nil ?_⟩))))
      refine xb_cons (xs_if (xt_cmp (by simp) (xe_name 0 rfl (xe_int ⟨_, _, _, rfl, rfl, rfl, _, rfl, fun _ => ?_, fun z => absurd (of_decide_eq_false z) (by decide)⟩))))
      exact xb_one (xs_ret (xe_callS passX (xe_ix (xe_tup (xa_cons (xe_glob g_most_missed (xa_cons (xe_glob g_most_ordered (xa_cons (xe_glob g_fewest_ordered (xa_cons (xe_glob g_most_spilled (xa_nil ⟨by simp, xe_sub (xe_name 0 rfl (xe_int ⟨_, _, rfl, rfl, ⟨.p f_most_missed, rfl, f_most_missed, _, _, rfl, q_most_missed, hr, xa_cons (xe_name 2 rfl (xa_cons (xe_name 3 rfl (xa_cons (xe_name 4 rfl (xa_cons (xe_name 5 rfl (xa_nil (⟨d1, d2, d3, d4, rfl, h14 (by decide) (by decide)⟩)))))))))⟩⟩))⟩)))))))))))))
    · -- most_ordered
      refine xb_cons (xs_if (xt_cmp (by simp) (xe_name 0 rfl (xe_int ⟨_, _, _, rfl, rfl, rfl, _, rfl, fun z => absurd (of_decide_eq_true z) (by decide), fun _ => xb_nil ?_⟩))))
      refine xb_cons (xs_if (xt_cmp (by simp) (xe_name 0 rfl (xe_int ⟨_, _, _, rfl, rfl, rfl, _, rfl, fun z => absurd (of_decide_eq_true z) (by decide), fun _ => xb_nil ?_⟩))))
      refine xb_cons (xs_if (xt_cmp (by simp) (xe_name 0 rfl (xe_int ⟨_, _, _, rfl, rfl, rfl, _, rfl, fun z => absurd (of_decide_eq_true z) (by decide), fun _ => xb_nil ?_⟩))))
      refine xb_cons (xs_if (xt_cmp (by simp) (xe_name 0 rfl (xe_int ⟨_, _, _, rfl, rfl, rfl, _, rfl, fun z => absurd (of_decide_eq_true z) (by decide), fun _ => xb_nil ?_⟩))))
      refine xb_cons (xs_if (xt_cmp (by simp) (xe_name 0 rfl (xe_int ⟨_, _, _, rfl, rfl, rfl, _, rfl, fun _ => ?_, fun z => absurd (of_decide_eq_false z) (by decide)⟩))))
      exact xb_one (xs_ret (xe_callS passX (xe_ix (xe_tup (xa_cons (xe_glob g_most_missed (xa_cons (xe_glob g_most_ordered (xa_cons (xe_glob g_fewest_ordered (xa_cons (xe_glob g_most_spilled (xa_nil ⟨by simp, xe_sub (xe_name 0 rfl (xe_int ⟨_, _, rfl, rfl, ⟨.p f_most_ordered, rfl, f_most_ordered, _, _, rfl, q_most_ordered, hr, xa_cons (xe_name 2 rfl (xa_cons (xe_name 3 rfl (xa_cons (xe_name 4 rfl (xa_cons (xe_name 5 rfl (xa_nil (⟨d1, d2, d3, d4, rfl, h14 (by decide) (by decide)⟩)))))))))⟩⟩))⟩)))))))))))))
    · -- fewest_ordered
      refine xb_cons (xs_if (xt_cmp (by simp) (xe_name 0 rfl (xe_int ⟨_, _, _, rfl, rfl, rfl, _, rfl, fun z => absurd (of_decide_eq_true z) (by decide), fun _ => xb_nil ?_⟩))))
      refine xb_cons (xs_if (xt_cmp (by simp) (xe_name 0 rfl (xe_int ⟨_, _, _, rfl, rfl, rfl, _, rfl, fun z => absurd (of_decide_eq_true z) (by decide), fun _ => xb_nil ?_⟩))))
      refine xb_cons (xs_if (xt_cmp (by simp) (xe_name 0 rfl (xe_int ⟨_, _, _, rfl, rfl, rfl, _, rfl, fun z => absurd (of_decide_eq_true z) (by decide), fun _ => xb_nil ?_⟩))))
      refine xb_cons (xs_if (xt_cmp (by simp) (xe_name 0 rfl (xe_int ⟨_, _, _, rfl, rfl, rfl, _, rfl, fun z => absurd (of_decide_eq_true z) (by decide), fun _ => xb_nil ?_⟩))))
      refine xb_cons (xs_if (xt_cmp (by simp) (xe_name 0 rfl (xe_int ⟨_, _, _, rfl, rfl, rfl, _, rfl, fun _ => ?_, fun z => absurd (of_decide_eq_false z) (by decide)⟩))))
      exact xb_one (xs_ret (xe_callS passX (xe_ix (xe_tup (xa_cons (xe_glob g_most_missed (xa_cons (xe_glob g_most_ordered (xa_cons (xe_glob g_fewest_ordered (xa_cons (xe_glob g_most_spilled (xa_nil ⟨by simp, xe_sub (xe_name 0 rfl (xe_int ⟨_, _, rfl, rfl, ⟨.p f_fewest_ordered, rfl, f_fewest_ordered, _, _, rfl, q_fewest_ordered, hr, xa_cons (xe_name 2 rfl (xa_cons (xe_name 3 rfl (xa_cons (xe_name 4 rfl (xa_cons (xe_name 5 rfl (xa_nil (⟨d1, d2, d3, d4, rfl, h14 (by decide) (by decide)⟩)))))))))⟩⟩))⟩)))))))))))))
    · -- most_spilled
      refine xb_cons (xs_if (xt_cmp (by simp) (xe_name 0 rfl (xe_int ⟨_, _, _, rfl, rfl, rfl, _, rfl, fun z => absurd (of_decide_eq_true z) (by decide), fun _ => xb_nil ?_⟩))))
      refine xb_cons (xs_if (xt_cmp (by simp) (xe_name 0 rfl (xe_int ⟨_, _, _, rfl, rfl, rfl, _, rfl, fun z => absurd (of_decide_eq_true z) (by decide), fun _ => xb_nil ?_⟩))))
      refine xb_cons (xs_if (xt_cmp (by simp) (xe_name 0 rfl (xe_int ⟨_, _, _, rfl, rfl, rfl, _, rfl, fun z => absurd (of_decide_eq_true z) (by decide), fun _ => xb_nil ?_⟩))))
      refine xb_cons (xs_if (xt_cmp (by simp) (xe_name 0 rfl (xe_int ⟨_, _, _, rfl, rfl, rfl, _, rfl, fun z => absurd (of_decide_eq_true z) (by decide), fun _ => xb_nil ?_⟩))))
      refine xb_cons (xs_if (xt_cmp (by simp) (xe_name 0 rfl (xe_int ⟨_, _, _, rfl, rfl, rfl, _, rfl, fun _ => ?_, fun z => absurd (of_decide_eq_false z) (by decide)⟩))))
      exact xb_one (xs_ret (xe_callS passX (xe_ix (xe_tup (xa_cons (xe_glob g_most_missed (xa_cons (xe_glob g_most_ordered (xa_cons (xe_glob g_fewest_ordered (xa_cons (xe_glob g_most_spilled (xa_nil ⟨by simp, xe_sub (xe_name 0 rfl (xe_int ⟨_, _, rfl, rfl, ⟨.p f_most_spilled, rfl, f_most_spilled, _, _, rfl, q_most_spilled, hr, xa_cons (xe_name 2 rfl (xa_cons (xe_name 3 rfl (xa_cons (xe_name 4 rfl (xa_cons (xe_name 5 rfl (xa_nil (⟨d1, d2, d3, d4, rfl, h14 (by decide) (by decide)⟩)))))))))⟩⟩))⟩)))))))))))))
    · -- parting
      refine xb_cons (xs_if (xt_cmp (by simp) (xe_name 0 rfl (xe_int ⟨_, _, _, rfl, rfl, rfl, _, rfl, fun z => absurd (of_decide_eq_true z) (by decide), fun _ => xb_nil ?_⟩))))
      refine xb_cons (xs_if (xt_cmp (by simp) (xe_name 0 rfl (xe_int ⟨_, _, _, rfl, rfl, rfl, _, rfl, fun z => absurd (of_decide_eq_true z) (by decide), fun _ => xb_nil ?_⟩))))
      refine xb_cons (xs_if (xt_cmp (by simp) (xe_name 0 rfl (xe_int ⟨_, _, _, rfl, rfl, rfl, _, rfl, fun z => absurd (of_decide_eq_true z) (by decide), fun _ => xb_nil ?_⟩))))
      refine xb_cons (xs_if (xt_cmp (by simp) (xe_name 0 rfl (xe_int ⟨_, _, _, rfl, rfl, rfl, _, rfl, fun z => absurd (of_decide_eq_true z) (by decide), fun _ => xb_nil ?_⟩))))
      refine xb_cons (xs_if (xt_cmp (by simp) (xe_name 0 rfl (xe_int ⟨_, _, _, rfl, rfl, rfl, _, rfl, fun z => absurd (of_decide_eq_true z) (by decide), fun _ => xb_nil ?_⟩))))
      exact xb_one (xs_ret (xe_callS passX (xe_ix (xe_tup (xa_cons (xe_glob g_parting (xa_cons (xe_glob g_are_alike (xa_cons (xe_glob g_first_more (xa_nil ⟨by simp, xe_sub (xe_name 0 rfl (xe_int ⟨_, _, rfl, rfl, ⟨.p f_parting, rfl, f_parting, _, _, rfl, q_parting, r5, xa_cons (xe_name 2 rfl (xa_cons (xe_name 5 rfl (xa_cons (xe_name 3 rfl (xa_cons (xe_name 4 rfl (xa_nil (⟨d1, d4, d2, d3, rfl, hT1, (h18 (by decide)).imp (fun _ h => h) (fun _ h => h) (fun _ h => h) fun _ _ _ _ z => z.elim⟩)))))))))⟩⟩))⟩)))))))))))
    · -- are_alike
      refine xb_cons (xs_if (xt_cmp (by simp) (xe_name 0 rfl (xe_int ⟨_, _, _, rfl, rfl, rfl, _, rfl, fun z => absurd (of_decide_eq_true z) (by decide), fun _ => xb_nil ?_⟩))))
      refine xb_cons (xs_if (xt_cmp (by simp) (xe_name 0 rfl (xe_int ⟨_, _, _, rfl, rfl, rfl, _, rfl, fun z => absurd (of_decide_eq_true z) (by decide), fun _ => xb_nil ?_⟩))))
      refine xb_cons (xs_if (xt_cmp (by simp) (xe_name 0 rfl (xe_int ⟨_, _, _, rfl, rfl, rfl, _, rfl, fun z => absurd (of_decide_eq_true z) (by decide), fun _ => xb_nil ?_⟩))))
      refine xb_cons (xs_if (xt_cmp (by simp) (xe_name 0 rfl (xe_int ⟨_, _, _, rfl, rfl, rfl, _, rfl, fun z => absurd (of_decide_eq_true z) (by decide), fun _ => xb_nil ?_⟩))))
      refine xb_cons (xs_if (xt_cmp (by simp) (xe_name 0 rfl (xe_int ⟨_, _, _, rfl, rfl, rfl, _, rfl, fun z => absurd (of_decide_eq_true z) (by decide), fun _ => xb_nil ?_⟩))))
      exact xb_one (xs_ret (xe_callS passX (xe_ix (xe_tup (xa_cons (xe_glob g_parting (xa_cons (xe_glob g_are_alike (xa_cons (xe_glob g_first_more (xa_nil ⟨by simp, xe_sub (xe_name 0 rfl (xe_int ⟨_, _, rfl, rfl, ⟨.p f_are_alike, rfl, f_are_alike, _, _, rfl, q_are_alike, hr, xa_cons (xe_name 2 rfl (xa_cons (xe_name 5 rfl (xa_cons (xe_name 3 rfl (xa_cons (xe_name 4 rfl (xa_nil (⟨d1, d4, d2, d3, rfl, hT1, (h18 (by decide)).imp (fun _ h => h) (fun _ h => h) (fun _ h => h) fun _ _ _ _ z => z.elim⟩)))))))))⟩⟩))⟩)))))))))))
    · -- first_more
      refine xb_cons (xs_if (xt_cmp (by simp) (xe_name 0 rfl (xe_int ⟨_, _, _, rfl, rfl, rfl, _, rfl, fun z => absurd (of_decide_eq_true z) (by decide), fun _ => xb_nil ?_⟩))))
      refine xb_cons (xs_if (xt_cmp (by simp) (xe_name 0 rfl (xe_int ⟨_, _, _, rfl, rfl, rfl, _, rfl, fun z => absurd (of_decide_eq_true z) (by decide), fun _ => xb_nil ?_⟩))))
      refine xb_cons (xs_if (xt_cmp (by simp) (xe_name 0 rfl (xe_int ⟨_, _, _, rfl, rfl, rfl, _, rfl, fun z => absurd (of_decide_eq_true z) (by decide), fun _ => xb_nil ?_⟩))))
      refine xb_cons (xs_if (xt_cmp (by simp) (xe_name 0 rfl (xe_int ⟨_, _, _, rfl, rfl, rfl, _, rfl, fun z => absurd (of_decide_eq_true z) (by decide), fun _ => xb_nil ?_⟩))))
      refine xb_cons (xs_if (xt_cmp (by simp) (xe_name 0 rfl (xe_int ⟨_, _, _, rfl, rfl, rfl, _, rfl, fun z => absurd (of_decide_eq_true z) (by decide), fun _ => xb_nil ?_⟩))))
      exact xb_one (xs_ret (xe_callS passX (xe_ix (xe_tup (xa_cons (xe_glob g_parting (xa_cons (xe_glob g_are_alike (xa_cons (xe_glob g_first_more (xa_nil ⟨by simp, xe_sub (xe_name 0 rfl (xe_int ⟨_, _, rfl, rfl, ⟨.p f_first_more, rfl, f_first_more, _, _, rfl, q_first_more, r5, xa_cons (xe_name 2 rfl (xa_cons (xe_name 5 rfl (xa_cons (xe_name 3 rfl (xa_cons (xe_name 4 rfl (xa_nil (⟨d1, d4, d2, d3, rfl, hT2, (h18 (by decide)).imp (fun _ h => h) (fun _ h => h) (fun _ h => h) fun _ _ _ _ z => z.elim⟩)))))))))⟩⟩))⟩)))))))))))

end Law
namespace Law
open PySem PySem.Spec PyProof.Rows L2 SR
variable {P : Program} {w : World} {K : PySem.W.Frag} {mg : Str → Option Value} {base : Heap} {f : Addr} {fd : FuncData}
theorem pln_sit (x : Sit) : Pln 2 x.d := .tup fun y hy => by
  simp only [List.mem_cons, List.not_mem_nil, or_false] at hy
  rcases hy with rfl | rfl
  · exact .int _
  · exact pln_ints 0 _
theorem pln_row (r : DRow) : Pln 1 r.d := .tup fun y hy => by
  simp only [List.mem_cons, List.not_mem_nil, or_false] at hy
  rcases hy with rfl | rfl | rfl | rfl | rfl <;> exact .int _
theorem pln_rows (rs : List DRow) : Pln 2 (.tup (rs.map DRow.d)) := .tup fun y hy => by
  obtain ⟨r, _, rfl⟩ := List.mem_map.mp hy
  exact pln_row r
theorem pln_3 (a b c : Int) : Pln 1 (.tup [.int a, .int b, .int c]) := .tup fun y hy => by
  simp only [List.mem_cons, List.not_mem_nil, or_false] at hy
  rcases hy with rfl | rfl | rfl <;> exact .int _
theorem cut_to {α : Type} (xs : List α) (k : Int) (hk : 0 ≤ k) : cutA xs none (some k) = xs.take k.toNat := by
  unfold cutA
  rw [HT.sIx_none, sIx_nat' _ _ _ hk, List.drop_zero, Nat.sub_zero]
  by_cases h : k.toNat ≤ xs.length
  · rw [Nat.min_eq_left h]
  · rw [Nat.min_eq_right (by omega), List.take_length, List.take_of_length_le (by omega)]

end Law
namespace Law
open PySem PySem.Spec PyProof.Rows L2 SR
variable {P : Program} {w : World} {K : PySem.W.Frag} {mg : Str → Option Value} {base : Heap} {f : Addr} {fd : FuncData}
/-! ### k01: which call raises what -/
theorem ty_sub {W W' : Om} (s : SR.Sub W W') {d : D} (h : (tyD W d).isSome = true) : (tyD W' d).isSome = true := by
  cases d with
  | p a =>
    cases q : W a with
    | none => simp [tyD, q] at h
    | some ob => simp only [tyD, q, s _ _ q] at h ⊢; exact h
  | int i => exact h
  | bl i => exact h
  | non => exact h
  | str x => exact h
  | tup x => exact h
  | ty n => exact h
  | scr a ns => exact h
  | exc a C => exact h
theorem sto_room {s t : Sto} (h : s.d = t.d) : s.room = t.room := by
  have h : D.tup [.int s.room, .int s.wait, .str (kindS s.fill), .int s.level, .int s.size] = D.tup [.int t.room, .int t.wait, .str (kindS t.fill), .int t.level, .int t.size] := h
  simp only [D.tup.injEq, List.cons.injEq, D.int.injEq] at h
  exact h.1
section
variable {CS CI CB CD CP CY T1 T2 : Addr} {W : Om} {O : OD} {XC : XCt} {way : Int} {d d1 d2 d3 d4 : D} {s : Sto} {b : Bd}
theorem call_store (hT1 : W T1 = some (.tab (qLam "parting"))) (hT2 : W T2 = some (.tab (qLam "first_more"))) (h0 : 0 ≤ way) (h20 : way ≤ 20) (hk : KnD W d1) (hb : isSt d1 = false) (hx : XC CS W) : S_callX CS CI CB CD CP CY T1 T2 [.int way, .tup [d1, d2, d3, d4]] W O XC := by
  have no : ∀ s : Sto, s.ok → d1 = s.d → False := fun s hs e => by rw [e, Sto.is hs] at hb; cases hb
  exact ⟨way, d1, d2, d3, d4, rfl, h0, h20, hT1, hT2, fun _ => ⟨d1, d2, rfl, hk, fun _ => hx, fun s hs e => (no s hs e).elim⟩, fun _ => ⟨d1, d2, rfl, hk, fun _ => hx, fun s hs e => (no s hs e).elim⟩,
    fun _ _ => ⟨hk, fun _ => hx, fun s hs e => (no s hs e).elim⟩, fun _ _ => ⟨hk, fun _ => hx, fun s hs e => (no s hs e).elim⟩, fun _ _ => ⟨d1, d3, rfl, hk, fun _ => hx, fun e => by rw [hb] at e; cases e⟩,
    fun _ _ => ⟨hk, fun _ => hx, fun s hs e => (no s hs e).elim⟩, fun _ => ⟨hk, fun _ => hx, fun s hs e => (no s hs e).elim⟩⟩
theorem no_st (hs : s.ok) {P : Prop} : isSt s.d = false → P := fun e => by rw [Sto.is hs] at e; cases e
theorem call_store2 (hT1 : W T1 = some (.tab (qLam "parting"))) (hT2 : W T2 = some (.tab (qLam "first_more"))) (h0 : 18 ≤ way) (h20 : way ≤ 20) (hs : s.ok) (hk : KnD W d4) (hb : isSt d4 = false) (hx : XC CS W) : S_callX CS CI CB CD CP CY T1 T2 [.int way, .tup [s.d, d2, d3, d4]] W O XC := by
  have no : ∀ s : Sto, s.ok → d4 = s.d → False := fun s hs e => by rw [e, Sto.is hs] at hb; cases hb
  exact ⟨way, s.d, d2, d3, d4, rfl, by omega, h20, hT1, hT2, fun e => absurd e (by omega), fun e => absurd e (by omega), fun _ e => absurd e (by omega), fun _ e => absurd e (by omega), fun _ e => absurd e (by omega), fun _ e => absurd e (by omega),
    fun _ => ⟨s.kn W, no_st hs, fun t ht e => ⟨hk, fun _ => hx, fun u hu e2 => (no u hu e2).elim⟩⟩⟩
theorem call_start (hT1 : W T1 = some (.tab (qLam "parting"))) (hT2 : W T2 = some (.tab (qLam "first_more"))) (h0 : 1 ≤ way) (h20 : way ≤ 20) (h12 : way ≠ 12) (h13 : way ≠ 13) (hs : s.ok) (hk : (tyD W d2).isSome = true) (hb : betw d2 0 s.room = false) (hx : XC CI W) : S_callX CS CI CB CD CP CY T1 T2 [.int way, .tup [s.d, d2, d3, s.d]] W O XC := by
  have no : ∀ t : Sto, s.d = t.d → ∀ x, 0 ≤ x → x ≤ t.room → d2 = .int x → False := fun t e x x0 x1 e2 => by
    rw [e2] at hb
    have := sto_room e
    simp [betw] at hb; omega
  have hb2 : ∀ t : Sto, s.d = t.d → betw d2 0 t.room = false := fun t e => by rw [← sto_room e]; exact hb
  have r3 : ∀ k : Prop, Rs3 CS CI CB W XC s.d d2 d3 k := fun k => ⟨s.kn W, no_st hs, fun t ht e => ⟨hk, fun _ => hx, fun z => by rw [hb2 t e] at z; cases z⟩⟩
  exact ⟨way, s.d, d2, d3, s.d, rfl, by omega, h20, hT1, hT2, fun e => absurd e (by omega), fun _ => ⟨s.d, d2, rfl, s.kn W, no_st hs, fun t ht e => ⟨hk, hb2 t e, hx⟩⟩,
    fun _ _ => ⟨s.kn W, no_st hs, fun t ht e => ⟨hk, fun _ => hx, fun x x0 x1 e2 => (no t e x x0 x1 e2).elim⟩⟩, fun _ _ => r3 _, fun z1 z2 => absurd z1 (by omega), fun _ _ => r3 _,
    fun _ => ⟨s.kn W, no_st hs, fun t ht e => ⟨s.kn W, no_st hs, fun u hu e2 => ⟨hk, fun _ => hx, fun x x0 x1 e3 => (no t e x x0 x1 e3).elim⟩⟩⟩⟩
theorem b0 (hs : s.ok) : betw (.int 0) 0 s.room = true := by have := hs.r1; simp [betw]; omega
theorem call_bounds (hT1 : W T1 = some (.tab (qLam "parting"))) (hT2 : W T2 = some (.tab (qLam "first_more"))) (h0 : 5 ≤ way) (h20 : way ≤ 20) (hs : s.ok) (hk : KnD W d3) (hb : isBd d3 = false) (hx : XC CB W) : S_callX CS CI CB CD CP CY T1 T2 [.int way, .tup [s.d, .int 0, d3, s.d]] W O XC := by
  have r3 : ∀ k : Prop, Rs3 CS CI CB W XC s.d (.int 0) d3 k := fun k => ⟨s.kn W, no_st hs, fun t ht e => ⟨rfl, fun z => (by rw [b0 ht] at z; cases z), fun _ => ⟨hk, fun _ => hx, fun z => (by rw [hb] at z; cases z)⟩⟩⟩
  exact ⟨way, s.d, .int 0, d3, s.d, rfl, by omega, h20, hT1, hT2, fun e => absurd e (by omega), fun e => absurd e (by omega), fun _ e => absurd e (by omega), fun _ _ => r3 _, fun _ _ => ⟨s.d, d3, rfl, s.kn W, no_st hs, fun _ => ⟨hk, fun _ => hx, fun z => (by rw [hb] at z; cases z)⟩⟩, fun _ _ => r3 _,
    fun _ => ⟨s.kn W, no_st hs, fun t ht e => ⟨s.kn W, no_st hs, fun u hu e2 => ⟨rfl, fun z => (by rw [b0 ht] at z; cases z), fun x x0 x1 e3 => ⟨fun z => (by cases e3; have := hu.r1; omega), fun _ => ⟨hk, fun _ => hx, fun b2 hb2 e4 => (by rw [e4, Bd.is hb2] at hb; cases hb)⟩⟩⟩⟩⟩⟩
theorem call_dem (hT1 : W T1 = some (.tab (qLam "parting"))) (hT2 : W T2 = some (.tab (qLam "first_more"))) (h0 : 2 ≤ way) (h20 : way ≤ 4) (hs : s.ok) (hk : KnD W d3) (hb : isDm d3 = false) (hx : XC CD W) : S_callX CS CI CB CD CP CY T1 T2 [.int way, .tup [s.d, .int 0, d3, d4]] W O XC := by
  refine ⟨way, s.d, .int 0, d3, d4, rfl, by omega, by omega, hT1, hT2, fun e => absurd e (by omega), fun e => absurd e (by omega), fun _ _ => ⟨s.kn W, no_st hs, fun t ht e => ⟨rfl, fun z => (by rw [b0 ht] at z; cases z), fun x x0 x1 e2 => ⟨hk, fun _ => hx, fun ms hl hm e3 => ?_⟩⟩⟩, fun e _ => absurd e (by omega), fun e _ => absurd e (by omega), fun e _ => absurd e (by omega), fun e => absurd e (by omega)⟩
  rw [e3] at hb
  have : isDm (tupI ms) = true := by
    show (decide ((ms.map D.int).length ≤ 30) && (ms.map D.int).all fun x => betw x 0 9) = true
    rw [Bool.and_eq_true, List.all_eq_true]
    refine ⟨decide_eq_true (by rw [List.length_map]; exact hl), fun y hy => ?_⟩
    obtain ⟨m, hm2, rfl⟩ := List.mem_map.mp hy
    have := hm m hm2
    simp [betw]; omega
  rw [this] at hb; cases hb
theorem call_pos (hT1 : W T1 = some (.tab (qLam "parting"))) (hT2 : W T2 = some (.tab (qLam "first_more"))) (hs : s.ok) (hk : (tyD W d2).isSome = true) (hb : betw d2 0 40 = false) (hx : XC CP W) : S_callX CS CI CB CD CP CY T1 T2 [.int 0, .tup [s.d, d2, d3, d4]] W O XC :=
  ⟨0, s.d, d2, d3, d4, rfl, by omega, by omega, hT1, hT2, fun _ => ⟨s.d, d2, rfl, s.kn W, no_st hs, fun t ht e => ⟨hk, fun z => (by rw [hb] at z; cases z), fun _ => hx⟩⟩, fun e => absurd e (by omega), fun e _ => absurd e (by omega), fun e _ => absurd e (by omega), fun e _ => absurd e (by omega), fun e _ => absurd e (by omega), fun e => absurd e (by omega)⟩
theorem call_days (hT1 : W T1 = some (.tab (qLam "parting"))) (hT2 : W T2 = some (.tab (qLam "first_more"))) (h0 : 14 ≤ way) (h20 : way ≤ 17) (hs : s.ok) (hB : b.ok) (hk : (tyD W d4).isSome = true) (hb : betw d4 0 10 = false) (hx : XC CY W) : S_callX CS CI CB CD CP CY T1 T2 [.int way, .tup [s.d, .int 0, b.d, d4]] W O XC :=
  ⟨way, s.d, .int 0, b.d, d4, rfl, by omega, by omega, hT1, hT2, fun e => absurd e (by omega), fun e => absurd e (by omega), fun _ e => absurd e (by omega), fun _ e => absurd e (by omega), fun _ e => absurd e (by omega),
    fun _ _ => ⟨s.kn W, no_st hs, fun t ht e => ⟨rfl, fun z => (by rw [b0 ht] at z; cases z), fun _ => ⟨b.kn W, fun z => (by rw [Bd.is hB] at z; cases z), fun _ => ⟨hk, hb, hx⟩⟩⟩⟩, fun e => absurd e (by omega)⟩
abbrev smallS : Sto := ⟨1, 1, false, 0, 1⟩
theorem smallS_ok : smallS.ok := ⟨by decide, by decide, by decide, by decide, by decide, by decide, by show (1 : Int) ≤ 1 ∧ (1 : Int) ≤ 6; omega⟩
theorem call_small (hT1 : W T1 = some (.tab (qLam "parting"))) (hT2 : W T2 = some (.tab (qLam "first_more"))) (hs : s.ok) (hx : XC CI W) : S_callX CS CI CB CD CP CY T1 T2 [.int 18, .tup [s.d, .int 2, d3, smallS.d]] W O XC :=
  ⟨18, s.d, .int 2, d3, smallS.d, rfl, by omega, by omega, hT1, hT2, fun e => absurd e (by omega), fun e => absurd e (by omega), fun _ e => absurd e (by omega), fun _ e => absurd e (by omega), fun _ e => absurd e (by omega), fun _ e => absurd e (by omega),
    fun _ => ⟨s.kn W, no_st hs, fun t ht e => ⟨smallS.kn W, no_st smallS_ok, fun u hu e2 => ⟨rfl, fun _ => hx, fun x x0 x1 e3 => ⟨fun _ => hx, fun z => (by cases e3; have : (1 : Int) = u.room := sto_room e2; omega)⟩⟩⟩⟩⟩
end
def RX (i : Fin 10) : Prop := i = 0 ∨ i = 1 ∨ i = 2 ∨ i = 3 ∨ i = 4 ∨ i = 5
theorem neq_out {W W' : Om} {i : Fin 10} (s : SR.Sub W W') : NeD (raisedD i) (raisedD i) W' (asB fun k W1 => k = false ∧ SR.Sub W W1) :=
  neD_pln (n := 1) (m := 1) (pln_out i) (pln_out i) (by decide) (by decide) (fun _ => ⟨_, rfl, rfl, s⟩) (fun e => (e rfl).elim)
theorem bad_start {r : Int} {d : D} (h : d ∈ [.int (-1), .int (r + 1), .bl true, .non, .str "0", .tup [.int 0]]) : (∀ W, (tyD W d).isSome = true) ∧ betw d 0 r = false := by
  simp only [List.mem_cons, List.not_mem_nil, or_false] at h
  rcases h with rfl | rfl | rfl | rfl | rfl | rfl
  · exact ⟨fun _ => rfl, by simp [betw]⟩
  · exact ⟨fun _ => rfl, by simp [betw]; omega⟩
  all_goals exact ⟨fun _ => rfl, rfl⟩
theorem bad_pos {d : D} (h : d ∈ [.int (-1), .int 41, .bl true, .non, .str "0", .tup [.int 0]]) : (∀ W, (tyD W d).isSome = true) ∧ betw d 0 40 = false := by
  simp only [List.mem_cons, List.not_mem_nil, or_false] at h
  rcases h with rfl | rfl | rfl | rfl | rfl | rfl <;> exact ⟨fun _ => rfl, by decide +kernel⟩
theorem bad_days {d : D} (h : d ∈ [.int (-1), .int 11, .bl true, .non, .str "0", .tup [.int 0]]) : (∀ W, (tyD W d).isSome = true) ∧ betw d 0 10 = false := by
  simp only [List.mem_cons, List.not_mem_nil, or_false] at h
  rcases h with rfl | rfl | rfl | rfl | rfl | rfl <;> exact ⟨fun _ => rfl, by decide +kernel⟩
theorem bad_dem {W : Om} {l : Addr} (hl : W l = some (.lst [.int 0])) {d : D} (h : d ∈ [.non, .int 5, .p l, .tup [.int (-1)], .tup [.int 10], .tup [.bl true], .tup [.str "0"], .tup (List.replicate (31 : Int).toNat [D.int 0]).flatten, .tup [.tup [.int 0]]]) : KnD W d ∧ isDm d = false := by
  simp only [List.mem_cons, List.not_mem_nil, or_false] at h
  rcases h with rfl | rfl | rfl | rfl | rfl | rfl | rfl | rfl | rfl
  · exact ⟨kn_of rfl, rfl⟩
  · exact ⟨kn_of rfl, rfl⟩
  · exact ⟨kn_lst hl, rfl⟩
  all_goals exact ⟨kn_of (by decide +kernel), by decide +kernel⟩
theorem way_start {d : D} (h : d ∈ [D.int 1, .int 2, .int 3, .int 4, .int 5, .int 6, .int 7, .int 8, .int 9, .int 10, .int 11] ++ [D.int 14, .int 15, .int 16, .int 17, .int 18, .int 19, .int 20]) : ∃ n : Int, d = .int n ∧ 1 ≤ n ∧ n ≤ 20 ∧ n ≠ 12 ∧ n ≠ 13 := by
  simp only [List.mem_append, List.mem_cons, List.not_mem_nil, or_false] at h
  rcases h with (rfl | rfl | rfl | rfl | rfl | rfl | rfl | rfl | rfl | rfl | rfl) | (rfl | rfl | rfl | rfl | rfl | rfl | rfl) <;> exact ⟨_, rfl, by decide, by decide, by decide, by decide⟩
theorem way_dem {d : D} (h : d ∈ [D.int 2, .int 3, .int 4]) : ∃ n : Int, d = .int n ∧ 2 ≤ n ∧ n ≤ 4 := by
  simp only [List.mem_cons, List.not_mem_nil, or_false] at h
  rcases h with rfl | rfl | rfl <;> exact ⟨_, rfl, by decide, by decide⟩
theorem way_days {d : D} (h : d ∈ [D.int 14, .int 15, .int 16, .int 17]) : ∃ n : Int, d = .int n ∧ 14 ≤ n ∧ n ≤ 17 := by
  simp only [List.mem_cons, List.not_mem_nil, or_false] at h
  rcases h with rfl | rfl | rfl | rfl <;> exact ⟨_, rfl, by decide, by decide⟩
theorem flat9 : D.tup (List.replicate (30 : Int).toNat [D.int 9]).flatten = tupI (List.replicate 30 9) := rfl
theorem argR_cast {CS CI CD : Addr} {W : Om} {XC : XCt} {d1 d2 d3 d4 : D} {k : Sto → Int → List Int → Prop} (e : d3 = d4) (h : ArgR CS CI CD W XC d1 d2 d4 k) : ArgR CS CI CD W XC d1 d2 d3 k := by rw [e]; exact h

end Law
namespace Law
open PySem PySem.Spec PyProof.Rows L2 SR
variable {P : Program} {w : World} {K : PySem.W.Frag} {mg : Str → Option Value} {base : Heap} {f : Addr} {fd : FuncData}
/-! ### k01: wrong values for the other arguments -/
def S_law_others (T1 T2 : Addr) : SpT := fun ds W O _ => ∃ (s : Sto) (b : Bd) (l : Addr) (ws : List D), ds = [s.d, b.d, .p l] ∧ s.ok ∧ b.ok ∧ W l = some (.lst ws) ∧ (∀ d ∈ ws, KnD W d ∧ isBd d = false) ∧ W T1 = some (.tab (qLam "parting")) ∧ W T2 = some (.tab (qLam "first_more")) ∧ ∀ W', O (.bl true) W'
set_option maxHeartbeats 8000000 in
theorem ok_law_others_raise {SE T1 T2 : Addr} {Cs : Fin 10 → Addr} (B : Bi mg) (Fm : Fam K mg Cs SE RX) (o1 : Cal P w K mg base 8 "_law_outcome" ["way", "arguments"] (S_law_outcome Cs RX (S_callX (Cs 0) (Cs 1) (Cs 2) (Cs 3) (Cs 4) (Cs 5) T1 T2))) (o2 : Cal P w K mg base 1 "_law_raises" ["name"] S_law_raises)
    (c1 : Cal P w K mg base 4 "order_for" ["store", "position"] (S_order_forX (Cs 0) (Cs 4))) (c2 : Cal P w K mg base 5 "run" ["store", "start", "demands"] (S_run (Cs 0) (Cs 1) (Cs 3))) (c3 : Cal P w K mg base 6 "most_spilled" ["store", "start", "bounds", "days"] (S_span 1 1))
    (F : Fun K "_law_others_raise" "_law_others_raise" s__law_others_raise f fd) (hm : mg "_law_others_raise" = some (.ref f)) (hb : Binds K fd ["store", "bounds", "wrongs"] []) : Cal P w K mg base 9 "_law_others_raise" ["store", "bounds", "wrongs"] (S_law_others T1 T2) := by
  refine cal_mk F hm hb sc__law_others_raise (fun ds W O XC h => ?_) (fun cdv A outer s H E ds W O XC hr h => ?_)
  · obtain ⟨s, b, l, ws, rfl, _⟩ := h
    rfl
  · obtain ⟨st, b, l, ws, rfl, hs, hB, hl, hws, hT1, hT2, h⟩ := h
    have hu := hr.units
    have r1 := hr.mono (show 1 ≤ 8 by decide); have r4 := hr.mono (show 4 ≤ 8 by decide); have r5 := hr.mono (show 5 ≤ 8 by decide); have r6 := hr.mono (show 6 ≤ 8 by decide)
    refine xb_nox (E' := E0) ?_
    refine xb_cons ?_
    refine xs_for (fun i g' W' => ∃ y3 y4, g' = [some st.d, some b.d, some (.p l), y3, y4, none] ∧ SR.Sub W W') ?_ (hp := ?hp) (hc := ?hc) (hs := ?hs)
    case hp => exact PassesOwn.never
    case hc => rfl
    case hs => intro _; rfl
    refine xi_tup ?_
    refine xe_tup ?_
    refine xa_cons ?_
    refine xe_neg ?_
    refine xe_int ⟨_, rfl, ?_⟩
    refine xa_cons ?_
    refine xe_add ?_
    refine xe_ix ?_
    refine xe_name 0 rfl ?_
    refine xe_int ⟨_, rfl, ?_⟩
    refine xe_int ?_
    refine xa_cons ?_
    refine xe_bl ?_
    refine xa_cons ?_
    refine xe_non ?_
    refine xa_cons ?_
    refine xe_str ?_
    refine xa_cons ?_
    refine xe_tup ?_
    refine xa_cons ?_
    refine xe_int ?_
    refine xa_nil ⟨by simp, ?_⟩
    refine xa_nil ⟨by simp, _, rfl, ⟨_, _, rfl, Sub.refl _⟩, fun _ _ _ _ => trivial, ?_, ?_⟩
    · rintro i d g' W' hd ⟨y3, y4, rfl, hsub⟩
      obtain ⟨ht, hbd⟩ := bad_start (List.mem_of_getElem? hd)
      refine xg_name 3 sc__law_others_raise.nd ?_
      refine xb_one ?_
      refine xs_forL ?_ (hp := ?hp) (hc := ?hc) (hs := ?hs)
      case hp => exact PassesOwn.never
      case hc => rfl
      case hs => intro _; rfl
      refine xi_lst ?_
      refine xe_add ?_
      refine xe_lst ?_
      refine xa_cons ?_
      refine xe_int ?_
      refine xa_cons ?_
      refine xe_int ?_
      refine xa_cons ?_
      refine xe_int ?_
      refine xa_cons ?_
      refine xe_int ?_
      refine xa_cons ?_
      refine xe_int ?_
      refine xa_cons ?_
      refine xe_int ?_
      refine xa_cons ?_
      refine xe_int ?_
      refine xa_cons ?_
      refine xe_int ?_
      refine xa_cons ?_
      refine xe_int ?_
      refine xa_cons ?_
      refine xe_int ?_
      refine xa_cons ?_
      refine xe_int ?_
      refine xa_nil ⟨by simp, fun l1 h_l1 => ?_⟩
      refine xe_lst ?_
      refine xa_cons ?_
      refine xe_int ?_
      refine xa_cons ?_
      refine xe_int ?_
      refine xa_cons ?_
      refine xe_int ?_
      refine xa_cons ?_
      refine xe_int ?_
      refine xa_cons ?_
      refine xe_int ?_
      refine xa_cons ?_
      refine xe_int ?_
      refine xa_cons ?_
      refine xe_int ?_
      refine xa_nil ⟨by simp, fun l2 h_l2 => ⟨_, _, Sub.new h_l2 _ _ updO_same, updO_same, le1000 (by simp), fun s1 h_s1 => ⟨s1, _, rfl, updO_same, fun i g' W' => ∃ y4, g' = [some st.d, some b.d, some (.p l), some d, y4, none] ∧ W' = _, ⟨_, rfl, rfl⟩, (fun _ _ _ ⟨_, _, e⟩ => by rw [e]; exact updO_same), ?_, ?_⟩⟩⟩
      · rintro j e g' W' he ⟨y4, rfl, rfl⟩
        obtain ⟨n, rfl, n1, n20, n12, n13⟩ := way_start (List.mem_of_getElem? he)
        refine xg_name 4 sc__law_others_raise.nd ?_
        refine xb_ifno1 ?_ ⟨_, rfl, rfl⟩
        refine xt_ne hu (xe_call o1 hr pass0X (xa_cons (xe_name 4 rfl (xa_cons (xe_tup (xa_cons (xe_name 0 rfl (xa_cons (xe_name 3 rfl (xa_cons (xe_non (xa_cons (xe_name 0 rfl (xa_nil ⟨by simp, xa_nil ⟨⟨_, _, rfl⟩, call_start (Sub.new h_s1 _ _ (Sub.new h_l2 _ _ (Sub.new h_l1 _ _ (hsub _ _ hT1)))) (Sub.new h_s1 _ _ (Sub.new h_l2 _ _ (Sub.new h_l1 _ _ (hsub _ _ hT2)))) n1 n20 n12 n13 hs (ht _) hbd ⟨1, rfl, by simp [RX], ?_⟩⟩⟩))))))))))))))
        exact xe_call o2 r1 pass0X (xa_cons (xe_str (xa_nil ⟨1, rfl, neq_out (Sub.refl _)⟩)))
      · rintro g' W' ⟨y4, rfl, rfl⟩
        exact ⟨_, _, rfl, hsub.trans (((Sub.new h_l1).trans (Sub.new h_l2)).trans (Sub.new h_s1))⟩
    rintro g' W' ⟨y3, y4, rfl, hsub⟩
    refine xb_sub hsub ?_
    clear hsub
    refine xb_cons ?_
    refine xs_for (fun i g' W' => ∃ y3 y4, g' = [some st.d, some b.d, some (.p l), y3, y4, none] ∧ SR.Sub W W') ?_ (hp := ?hp) (hc := ?hc) (hs := ?hs)
    case hp => exact PassesOwn.never
    case hc => rfl
    case hs => intro _; rfl
    refine xi_lst ?_
    refine xe_name 2 rfl ⟨l, ws, rfl, hl, ⟨_, _, rfl, Sub.refl _⟩, (fun _ _ _ ⟨_, _, _, e⟩ => e _ _ hl), ?_, ?_⟩
    · rintro i d g' W' hd ⟨y3, y4, rfl, hsub⟩
      obtain ⟨hk, hbd⟩ := hws d (List.mem_of_getElem? hd)
      refine xg_name 3 sc__law_others_raise.nd ?_
      refine xb_sub hsub ?_
      refine xb_one ?_
      refine xs_for (fun i g' W' => ∃ y4, g' = [some st.d, some b.d, some (.p l), some d, y4, none] ∧ W' = W) ?_ (hp := ?hp) (hc := ?hc) (hs := ?hs)
      case hp => exact PassesOwn.never
      case hc => rfl
      case hs => intro _; rfl
      refine xi_range2 B.range ?_
      refine xe_int ?_
      refine xe_int ⟨_, _, rfl, rfl, by decide, ⟨_, rfl, rfl⟩, fun _ _ _ _ => trivial, ?_, ?_⟩
      · rintro j e g' W' he ⟨y4, rfl, rfl⟩
        obtain ⟨hj, rfl⟩ := mem_rangeD' he
        have hj : j < 16 := hj
        refine xg_name 4 sc__law_others_raise.nd ?_
        refine xb_ifno1 ?_ ⟨_, rfl, rfl⟩
        refine xt_ne hu (xe_call o1 hr pass0X (xa_cons (xe_name 4 rfl (xa_cons (xe_tup (xa_cons (xe_name 0 rfl (xa_cons (xe_int (xa_cons (xe_name 3 rfl (xa_cons (xe_name 0 rfl (xa_nil ⟨by simp, xa_nil ⟨⟨_, _, rfl⟩, call_bounds hT1 hT2 (by omega) (by omega) hs hk hbd ⟨2, rfl, by simp [RX], ?_⟩⟩⟩))))))))))))))
        exact xe_call o2 r1 pass0X (xa_cons (xe_str (xa_nil ⟨2, rfl, neq_out (Sub.refl _)⟩)))
      · rintro g' W' ⟨y4, rfl, rfl⟩
        exact ⟨_, _, rfl, Sub.refl _⟩
    rintro g' W' ⟨y3, y4, rfl, hsub⟩
    refine xb_sub hsub ?_
    clear hsub
    refine xb_cons ?_
    refine xs_forL ?_ (hp := ?hp) (hc := ?hc) (hs := ?hs)
    case hp => exact PassesOwn.never
    case hc => rfl
    case hs => intro _; rfl
    refine xi_tup ?_
    refine xe_tup ?_
    refine xa_cons ?_
    refine xe_non ?_
    refine xa_cons ?_
    refine xe_int ?_
    refine xa_cons ?_
    refine xe_lst ?_
    refine xa_cons ?_
    refine xe_int ?_
    refine xa_nil ⟨by simp, fun l3 h_l3 => ?_⟩
    refine xa_cons ?_
    refine xe_tup ?_
    refine xa_cons ?_
    refine xe_neg ?_
    refine xe_int ⟨_, rfl, ?_⟩
    refine xa_nil ⟨by simp, ?_⟩
    refine xa_cons ?_
    refine xe_tup ?_
    refine xa_cons ?_
    refine xe_int ?_
    refine xa_nil ⟨by simp, ?_⟩
    refine xa_cons ?_
    refine xe_tup ?_
    refine xa_cons ?_
    refine xe_bl ?_
    refine xa_nil ⟨by simp, ?_⟩
    refine xa_cons ?_
    refine xe_tup ?_
    refine xa_cons ?_
    refine xe_str ?_
    refine xa_nil ⟨by simp, ?_⟩
    refine xa_cons ?_
    refine xe_times ?_
    refine xe_tup ?_
    refine xa_cons ?_
    refine xe_int ?_
    refine xa_nil ⟨by simp, ?_⟩
    refine xe_int ⟨by simp, by decide, by decide, by decide, ?_⟩
    refine xa_cons ?_
    refine xe_tup ?_
    refine xa_cons ?_
    refine xe_tup ?_
    refine xa_cons ?_
    refine xe_int ?_
    refine xa_nil ⟨by simp, ?_⟩
    refine xa_nil ⟨by simp, ?_⟩
    refine xa_nil ⟨by simp, _, rfl, fun i g' W' => ∃ y3 y4, g' = [some st.d, some b.d, some (.p l), y3, y4, none] ∧ SR.Sub (updO W l3 (.lst [.int 0])) W', ⟨_, _, rfl, Sub.refl _⟩, fun _ _ _ _ => trivial, ?_, ?_⟩
    · rintro i d g' W' hd ⟨y3, y4, rfl, hsub⟩
      obtain ⟨hk, hbd⟩ := bad_dem (hsub _ _ updO_same) (List.mem_of_getElem? hd)
      have hsW := (Sub.new h_l3).trans hsub
      refine xg_name 3 sc__law_others_raise.nd ?_
      refine xb_ifno1 ?_ ⟨_, _, rfl, hsub⟩
      refine xt_ne hu (xe_lcP [("way", 4)] sc__law_others_raise.nd (lcTg_name 4 sc__law_others_raise.nd) (blkOk_by (N := n__law_others_raise) (sc := defScope s__law_others_raise) (by decide +kernel)) (xi_tup (xe_tup (xa_cons (xe_int (xa_cons (xe_int (xa_cons (xe_int (xa_nil ⟨by simp, _, rfl, fun _ _ => trivial, le1000 (by simp), fun _ => none, fun j e W2 he hs2 => ?_, fun l1 hl1 => ?_⟩))))))))))
      · obtain ⟨n, rfl, n1, n2⟩ := way_dem (List.mem_of_getElem? he)
        refine ⟨_, rfl, fun s H C cl fp => ?_⟩
        refine xt_ne hu (xe_call o1 hr pass0X (xa_cons (xe_name 4 rfl (xa_cons (xe_tup (xa_cons (xe_name 0 rfl (xa_cons (xe_int (xa_cons (xe_name 3 rfl (xa_cons (xe_non (xa_nil ⟨by simp, xa_nil ⟨⟨_, _, rfl⟩, call_dem (hs2 _ _ (hsW _ _ hT1)) (hs2 _ _ (hsW _ _ hT2)) n1 n2 hs (kn_sub hs2 hk) hbd ⟨3, rfl, by simp [RX], ?_⟩⟩⟩))))))))))))))
        exact xe_call o2 r1 pass0X (xa_cons (xe_str (xa_nil ⟨3, rfl, neD_pln (n := 1) (m := 1) (pln_out 3) (pln_out 3) (by decide) (by decide) (fun _ => ⟨_, rfl, Sub.refl _, fun z => (by cases z), fun _ => rfl⟩) (fun e => (e rfl).elim)⟩)))
      · exact xe_lst (xa_nil ⟨by simp, fun l0 hl0 => neD_lst (n := 0) (m := 0) (Sub.new hl0 _ _ updO_same) updO_same (fun y hy => by simp at hy) (fun y hy => by cases hy) (by decide) (by decide) (fun _ => ⟨_, rfl, rfl, (Sub.new hl1).trans (Sub.new hl0)⟩) (fun e => (e (by simp)).elim)⟩)
    rintro g' W' ⟨y3, y4, rfl, hsub⟩
    refine xb_sub ((Sub.new h_l3).trans hsub) ?_
    clear hsub
    refine xb_cons ?_
    refine xs_for (fun i g' W' => ∃ y3 y4, g' = [some st.d, some b.d, some (.p l), y3, y4, none] ∧ SR.Sub W W') ?_ (hp := ?hp) (hc := ?hc) (hs := ?hs)
    case hp => exact PassesOwn.never
    case hc => rfl
    case hs => intro _; rfl
    refine xi_tup ?_
    refine xe_tup ?_
    refine xa_cons ?_
    refine xe_neg ?_
    refine xe_int ⟨_, rfl, ?_⟩
    refine xa_cons ?_
    refine xe_int ?_
    refine xa_cons ?_
    refine xe_bl ?_
    refine xa_cons ?_
    refine xe_non ?_
    refine xa_cons ?_
    refine xe_str ?_
    refine xa_cons ?_
    refine xe_tup ?_
    refine xa_cons ?_
    refine xe_int ?_
    refine xa_nil ⟨by simp, ?_⟩
    refine xa_nil ⟨by simp, _, rfl, ⟨_, _, rfl, Sub.refl _⟩, fun _ _ _ _ => trivial, ?_, ?_⟩
    · rintro i d g' W' hd ⟨y3, y4, rfl, hsub⟩
      obtain ⟨ht, hbd⟩ := bad_pos (List.mem_of_getElem? hd)
      refine xg_name 3 sc__law_others_raise.nd ?_
      refine xb_ifno1 ?_ ⟨_, _, rfl, hsub⟩
      refine xt_ne hu (xe_call o1 hr pass0X (xa_cons (xe_int (xa_cons (xe_tup (xa_cons (xe_name 0 rfl (xa_cons (xe_name 3 rfl (xa_cons (xe_non (xa_cons (xe_non (xa_nil ⟨by simp, xa_nil ⟨⟨_, _, rfl⟩, call_pos (hsub _ _ hT1) (hsub _ _ hT2) hs (ht _) hbd ⟨4, rfl, by simp [RX], ?_⟩⟩⟩))))))))))))))
      exact xe_call o2 r1 pass0X (xa_cons (xe_str (xa_nil ⟨4, rfl, neq_out (Sub.refl _)⟩)))
    rintro g' W' ⟨y3, y4, rfl, hsub⟩
    refine xb_sub hsub ?_
    clear hsub
    refine xb_cons ?_
    refine xs_for (fun i g' W' => ∃ y3 y4, g' = [some st.d, some b.d, some (.p l), y3, y4, none] ∧ SR.Sub W W') ?_ (hp := ?hp) (hc := ?hc) (hs := ?hs)
    case hp => exact PassesOwn.never
    case hc => rfl
    case hs => intro _; rfl
    refine xi_tup ?_
    refine xe_tup ?_
    refine xa_cons ?_
    refine xe_neg ?_
    refine xe_int ⟨_, rfl, ?_⟩
    refine xa_cons ?_
    refine xe_int ?_
    refine xa_cons ?_
    refine xe_bl ?_
    refine xa_cons ?_
    refine xe_non ?_
    refine xa_cons ?_
    refine xe_str ?_
    refine xa_cons ?_
    refine xe_tup ?_
    refine xa_cons ?_
    refine xe_int ?_
    refine xa_nil ⟨by simp, ?_⟩
    refine xa_nil ⟨by simp, _, rfl, ⟨_, _, rfl, Sub.refl _⟩, fun _ _ _ _ => trivial, ?_, ?_⟩
    · rintro i d g' W' hd ⟨y3, y4, rfl, hsub⟩
      obtain ⟨ht, hbd⟩ := bad_days (List.mem_of_getElem? hd)
      refine xg_name 3 sc__law_others_raise.nd ?_
      refine xb_sub hsub ?_
      refine xb_one ?_
      refine xs_for (fun i g' W' => ∃ y4, g' = [some st.d, some b.d, some (.p l), some d, y4, none] ∧ W' = W) ?_ (hp := ?hp) (hc := ?hc) (hs := ?hs)
      case hp => exact PassesOwn.never
      case hc => rfl
      case hs => intro _; rfl
      refine xi_tup ?_
      refine xe_tup ?_
      refine xa_cons ?_
      refine xe_int ?_
      refine xa_cons ?_
      refine xe_int ?_
      refine xa_cons ?_
      refine xe_int ?_
      refine xa_cons ?_
      refine xe_int ?_
      refine xa_nil ⟨by simp, _, rfl, ⟨_, rfl, rfl⟩, fun _ _ _ _ => trivial, ?_, ?_⟩
      · rintro j e g' W' he ⟨y4, rfl, rfl⟩
        obtain ⟨n, rfl, n1, n2⟩ := way_days (List.mem_of_getElem? he)
        refine xg_name 4 sc__law_others_raise.nd ?_
        refine xb_ifno1 ?_ ⟨_, rfl, rfl⟩
        refine xt_ne hu (xe_call o1 hr pass0X (xa_cons (xe_name 4 rfl (xa_cons (xe_tup (xa_cons (xe_name 0 rfl (xa_cons (xe_int (xa_cons (xe_name 1 rfl (xa_cons (xe_name 3 rfl (xa_nil ⟨by simp, xa_nil ⟨⟨_, _, rfl⟩, call_days hT1 hT2 n1 n2 hs hB (ht _) hbd ⟨5, rfl, by simp [RX], ?_⟩⟩⟩))))))))))))))
        exact xe_call o2 r1 pass0X (xa_cons (xe_str (xa_nil ⟨5, rfl, neq_out (Sub.refl _)⟩)))
      · rintro g' W' ⟨y4, rfl, rfl⟩
        exact ⟨_, _, rfl, Sub.refl _⟩
    rintro g' W' ⟨y3, y4, rfl, hsub⟩
    refine xb_sub hsub ?_
    clear hsub
    refine xb_cons ?_
    refine xs_asg ?_
    refine xe_tup ?_
    refine xa_cons ?_
    refine xe_int ?_
    refine xa_cons ?_
    refine xe_int ?_
    refine xa_cons ?_
    refine xe_str ?_
    refine xa_cons ?_
    refine xe_int ?_
    refine xa_cons ?_
    refine xe_int ?_
    refine xa_nil ⟨by simp, ?_⟩
    refine xg_name 5 sc__law_others_raise.nd ?_
    refine xb_ifno ?_ ?_
    · refine xt_and2 (xt_cmp (by simp) (xe_ix (xe_name 0 rfl (xe_int ⟨_, rfl, xe_int ⟨_, _, _, rfl, rfl, rfl, _, rfl, fun _ => ?_, fun _ => ⟨rfl, Sub.refl _⟩⟩⟩))))
      refine xt_ne hu (xe_call o1 hr pass0X (xa_cons (xe_int (xa_cons (xe_tup (xa_cons (xe_name 0 rfl (xa_cons (xe_int (xa_cons (xe_name 1 rfl (xa_cons (xe_name 5 rfl (xa_nil ⟨by simp, xa_nil ⟨⟨_, _, rfl⟩, call_small hT1 hT2 hs ⟨1, rfl, by simp [RX], ?_⟩⟩⟩))))))))))))))
      exact xe_call o2 r1 pass0X (xa_cons (xe_str (xa_nil ⟨1, rfl, neq_out (Sub.refl _)⟩)))
    have ha : Arg3 st 0 b := ⟨hs, by omega, by have := hs.r1; omega, hB⟩
    have am : amount st 40 = 0 := by
      unfold amount
      rw [if_pos (by have := hs.l12; omega)]
    refine xb_one (xs_ret (xe_and (xe_eqS (xe_call c1 r4 pass0X (xa_cons (xe_name 0 rfl (xa_cons (xe_int (xa_nil ⟨st.d, .int 40, rfl, st.kn W, no_st hs, fun t ht e => ⟨rfl, fun _ => ?_, fun z => (by cases z)⟩⟩)))))))))
    have am2 : amount t (iv (D.int 40)) = 0 := by
      show amount t 40 = 0
      unfold amount
      rw [if_pos (by have := ht.l12; omega)]
    rw [am2]
    refine xe_int ⟨_, rfl, _, rfl, fun _ => ?_, fun z => (by cases z)⟩
    refine xe_and (xe_eqS (xe_len B.len (xe_call c2 r5 pass0X (xa_cons (xe_name 0 rfl (xa_cons (xe_int (xa_cons (xe_times (xe_tup (xa_cons (xe_int (xa_nil ⟨by simp, xe_int ⟨by simp, by decide, by decide, by decide, xa_nil ⟨_, _, _, rfl, argR_cast flat9 (argR_ok hs (by omega) (by have := hs.r1; omega) (by decide) (fun m hm => by rw [List.eq_of_mem_replicate hm]; omega) ⟨_, rfl, xe_int ⟨_, rfl, _, rfl, fun _ => ?_, fun z => ?_⟩⟩)⟩⟩⟩)))))))))))))
    rotate_left
    · exfalso
      have z := of_decide_eq_false z
      rw [List.length_map, rowsS_len, List.length_replicate] at z
      exact z rfl
    refine xe_one (xe_eqS (xe_call c3 r6 pass0X (xa_cons (xe_name 0 rfl (xa_cons (xe_int (xa_cons (xe_name 1 rfl (xa_cons (xe_int (xa_nil ⟨st, 0, b, 0, rfl, ha, by omega, fun v hv => xe_int ⟨_, rfl, ?_⟩⟩)))))))))))
    obtain ⟨ds, _, h2, h3⟩ := hv.some
    rw [List.eq_nil_of_length_eq_zero h2] at h3
    rw [← h3]
    exact h _

end Law
namespace Law
open PySem PySem.Spec PyProof.Rows L2 SR
variable {P : Program} {w : World} {K : PySem.W.Frag} {mg : Str → Option Value} {base : Heap} {f : Addr} {fd : FuncData}
/-! ### k01 -/
def badW (la : Addr) : List D := ([.non, .int 5, .tup [], .tup [.int 0, .int 2, .int 1], .tup [.int (-1), .int 2, .int 1, .int 2], .tup [.int 3, .int 2, .int 1, .int 4], .tup [.int 0, .int 5, .int 1, .int 2], .tup [.int 0, .int 2, .int 0, .int 2], .tup [.int 0, .int 2, .int 4, .int 2]] ++ [.tup [.int 1, .int 2, .int 3, .int 2], .tup [.int 0, .int 2, .int 1, .int 13], .tup [.int 0, .int 2, .int 1, .int (-1)], .p la, .tup [.int 0, .bl true, .int 1, .int 2], .tup [.int 0, .int 2, .int 1, .non]]) ++ [.tup [.int 0, .int 2, .int 1, .int 2, .int 0], .str "0 to 2"]
theorem badW_ok {W : Om} {la : Addr} {xs : List D} (hla : W la = some (.lst xs)) : ∀ d ∈ badW la, KnD W d ∧ isBd d = false := fun d hd => by
  unfold badW at hd
  simp only [List.mem_append, List.mem_cons, List.not_mem_nil, or_false] at hd
  have fin : (d = .p la) ∨ (knB d = true ∧ isBd d = false) := by
    rcases hd with ((rfl | rfl | rfl | rfl | rfl | rfl | rfl | rfl | rfl) | (rfl | rfl | rfl | rfl | rfl | rfl)) | (rfl | rfl) <;> first | exact .inl rfl | exact .inr ⟨by decide +kernel, by decide +kernel⟩
  rcases fin with rfl | ⟨h1, h2⟩
  · exact ⟨kn_lst hla, rfl⟩
  · exact ⟨kn_of h1, h2⟩
theorem good_st {s : Sto} (hs : s.ok) {d : D} (h : d ∈ [s.d, .tup [.int 1, .int 1, .str "lots", .int 0, .int 1], .tup [.int 12, .int 3, .str "lots", .int 12, .int 6], .tup [.int 12, .int 3, .str "fill", .int 12, .int 18], .tup [.int 1, .int 1, .str "fill", .int 0, .int 1]]) : (∀ W, KnD W d) ∧ isSt d = true := by
  simp only [List.mem_cons, List.not_mem_nil, or_false] at h
  rcases h with rfl | rfl | rfl | rfl | rfl
  · exact ⟨fun W => s.kn W, Sto.is hs⟩
  all_goals exact ⟨fun W => kn_of (by decide +kernel), by decide +kernel⟩
theorem good_bd {b : Bd} (hb : b.ok) {d : D} (h : d ∈ [b.d, .tup [.int 0, .int 0, .int 1, .int 0], .tup [.int 4, .int 4, .int 3, .int 12], .tup [.int 0, .int 4, .int 3, .int 0], .tup [.int 2, .int 3, .int 2, .int 4]]) : (∀ W, KnD W d) ∧ isBd d = true := by
  simp only [List.mem_cons, List.not_mem_nil, or_false] at h
  rcases h with rfl | rfl | rfl | rfl | rfl
  · exact ⟨fun W => b.kn W, Bd.is hb⟩
  all_goals exact ⟨fun W => kn_of (by decide +kernel), by decide +kernel⟩
theorem xb_abs {X : Cx} {E : XK} {XC : XCt} {g : Ga} {W : Om} {C : EndD} {st : List Stmt} (Q : Om → Prop) (hQ : Q W) (h : ∀ V, Q V → SR.XB X E XC st g V C) : SR.XB X E XC st g W C := h W hQ
theorem nil_ne {W W1 W2 : Om} {l l0 : Addr} {ds : List D} (h1 : W1 l = some (.lst (ds.filterMap fun _ => none))) (h0 : W1 l0 = some (.lst [])) (s : SR.Sub W W1) : NeD (.p l) (.p l0) W1 (asB fun k W3 => k = false ∧ SR.Sub W W3) :=
  neD_lst (n := 0) (m := 0) h1 h0 (fun y hy => by simp at hy) (fun y hy => by cases hy) (by decide) (by decide) (fun _ => ⟨_, rfl, rfl, s⟩) (fun e => (e (by simp)).elim)
set_option maxHeartbeats 8000000 in
theorem ok_law {SE T T2 : Addr} {Cs : Fin 10 → Addr} (B : Bi mg) (Fm : Fam K mg Cs SE RX) (c1 : Cal P w K mg base 1 "_law_town" ["script"] S_law_town) (c2 : CDraw P w K mg base) (c3 : Cal P w K mg base 2 "_law_pick" ["script", "town", "choices"] S_law_pick) (c4 : Cal P w K mg base 2 "_law_store" ["script", "town", "room"] S_law_store) (c5 : Cal P w K mg base 3 "_law_bounds" ["script", "town", "most"] S_law_bounds)
    (d1 : Cal P w K mg base 2 "is_store" ["value"] S_is_store) (d2 : Cal P w K mg base 2 "is_bounds" ["value"] S_is_bounds) (d3 : Cal P w K mg base 1 "_law_bad_stores" [] S_law_bad_stores)
    (o1 : Cal P w K mg base 8 "_law_outcome" ["way", "arguments"] (S_law_outcome Cs RX (S_callX (Cs 0) (Cs 1) (Cs 2) (Cs 3) (Cs 4) (Cs 5) T T2))) (o2 : Cal P w K mg base 1 "_law_raises" ["name"] S_law_raises) (o3 : Cal P w K mg base 9 "_law_others_raise" ["store", "bounds", "wrongs"] (S_law_others T T2))
    (F : Fun K "law" "law" s_law f fd) : FnOk P w K mg base (L2.CX P w) 10 f fd ["script"] (SpD K (S_lawT2 [(T, qLam "parting"), (T2, qLam "first_more")])) := by
  refine fnDT F sc_law (fun cdv A outer s H E ds W O XC hr h => ?_)
  · obtain ⟨a, ns, rfl, hns, hTs, h⟩ := h
    have hT : W T = some (.tab (qLam "parting")) := hTs (T, qLam "parting") (by simp)
    have hT2 : W T2 = some (.tab (qLam "first_more")) := hTs (T2, qLam "first_more") (by simp)
    have hu := hr.units
    have r1 := hr.mono (show 1 ≤ 9 by decide); have r2 := hr.mono (show 2 ≤ 9 by decide); have r3 := hr.mono (show 3 ≤ 9 by decide); have r8 := hr.mono (show 8 ≤ 9 by decide)
    refine xb_nox (E' := E0) (xb_cons (xs_set 1 sc_law.nd (xe_call c1 r1 pass0X (xa_cons (xe_name 0 rfl (xa_nil ⟨a, ns, rfl, hns, fun tw htw => ?_⟩))))))
    have nT : T ≠ tw := neO hT htw
    have nT2 : T2 ≠ tw := neO hT2 htw
    have T0 : TwO ns 0 (.lst (.int 0 :: ns.map D.int)) := ⟨0, ns, rfl, rfl, by omega, by omega⟩
    refine xb_cons (xs_par 2 3 sc_law.nd (xa_cons (xe_call c4 r2 pass0X (xa_cons (xe_name 0 rfl (xa_cons (xe_name 1 rfl (xa_cons (xe_int (xa_nil ⟨a, ns, tw, 12, 0, _, rfl, hns, by omega, by omega, updO_same, T0, by omega, fun st ob1 hs _ _ T1 => ?_⟩))))))))))
    rw [updO_updO]
    refine xa_cons (xe_call c5 r3 pass0X (xa_cons (xe_name 0 rfl (xa_cons (xe_name 1 rfl (xa_cons (xe_int (xa_nil ⟨a, ns, tw, 4, _, ob1, rfl, hns, by omega, by omega, updO_same, T1, by omega, fun b ob2 hB _ _ T2' => xa_nil ⟨_, _, rfl, ?_⟩⟩))))))))
    rw [updO_updO]
    refine xb_abs (fun V => V tw = some ob2 ∧ V T = some (.tab (qLam "parting")) ∧ V T2 = some (.tab (qLam "first_more"))) ⟨updO_same, by rw [updO_ne nT]; exact hT, by rw [updO_ne nT2]; exact hT2⟩ fun V ⟨hVt, hVT, hVT2⟩ => ?_
    clear hT hT2
    refine xb_cons ?_
    refine xs_asg ?_
    refine xe_lst ?_
    refine xa_cons ?_
    refine xe_name 2 rfl ?_
    refine xa_cons ?_
    refine xe_tup ?_
    refine xa_cons ?_
    refine xe_int ?_
    refine xa_cons ?_
    refine xe_int ?_
    refine xa_cons ?_
    refine xe_str ?_
    refine xa_cons ?_
    refine xe_int ?_
    refine xa_cons ?_
    refine xe_int ?_
    refine xa_nil ⟨by simp, ?_⟩
    refine xa_cons ?_
    refine xe_tup ?_
    refine xa_cons ?_
    refine xe_int ?_
    refine xa_cons ?_
    refine xe_int ?_
    refine xa_cons ?_
    refine xe_str ?_
    refine xa_cons ?_
    refine xe_int ?_
    refine xa_cons ?_
    refine xe_int ?_
    refine xa_nil ⟨by simp, ?_⟩
    refine xa_cons ?_
    refine xe_tup ?_
    refine xa_cons ?_
    refine xe_int ?_
    refine xa_cons ?_
    refine xe_int ?_
    refine xa_cons ?_
    refine xe_str ?_
    refine xa_cons ?_
    refine xe_int ?_
    refine xa_cons ?_
    refine xe_int ?_
    refine xa_nil ⟨by simp, ?_⟩
    refine xa_cons ?_
    refine xe_tup ?_
    refine xa_cons ?_
    refine xe_int ?_
    refine xa_cons ?_
    refine xe_int ?_
    refine xa_cons ?_
    refine xe_str ?_
    refine xa_cons ?_
    refine xe_int ?_
    refine xa_cons ?_
    refine xe_int ?_
    refine xa_nil ⟨by simp, ?_⟩
    refine xa_nil ⟨by simp, fun l1 h_l1 => ?_⟩
    refine xg_name 4 sc_law.nd ?_
    refine xb_ifno ?_ ?_
    · refine xt_ne hu (xe_lcP [("good", 5)] sc_law.nd (lcTg_name 5 sc_law.nd) (blkOk_by (N := n_law) (sc := defScope s_law) (by decide +kernel)) (xi_lst (xe_name 4 rfl ⟨l1, _, rfl, updO_same, (fun W2 hs2 => hs2 _ _ updO_same), le1000 (by simp), fun _ => none, fun j e W2 he hs2 => ?_, fun l2 hl2 => ?_⟩)))
      · obtain ⟨hk, hg⟩ := good_st hs (List.mem_of_getElem? he)
        have hk := hk W2
        refine ⟨_, rfl, fun s H C cl fp => xt_notB (xe_call d1 r2 pass0X (xa_cons (xe_name 5 rfl (xa_nil ⟨e, rfl, hk, xe_bl ⟨_, _, rfl, rfl, Sub.refl _, fun z => (by rw [hg] at z; cases z), fun _ => rfl⟩⟩))))⟩
      · exact xe_lst (xa_nil ⟨by simp, fun l0 hl0 => nil_ne (W2 := W) (Sub.new hl0 _ _ updO_same) updO_same ((Sub.new hl2).trans (Sub.new hl0))⟩)
    refine xb_sub (Sub.new h_l1) ?_
    refine xb_ifno ?_ ?_
    · refine xt_ne hu (xe_lcP [("bad", 6)] sc_law.nd (lcTg_name 6 sc_law.nd) (blkOk_by (N := n_law) (sc := defScope s_law) (by decide +kernel)) (xi_lst (xe_call0 d3 r1 pass0X ⟨rfl, fun W1 l1 la hsub hl hW1 ⟨xs, hla⟩ => ⟨l1, _, rfl, hW1, (fun W2 hs2 => hs2 _ _ hW1), le1000 (by rw [badS_len]; decide), fun _ => none, fun j e W2 he hs2 => ?_, fun l2 hl2 => ?_⟩⟩)))
      · obtain ⟨hk, hg⟩ := badS_ok (hs2 _ _ hla) e (List.mem_of_getElem? he)
        refine ⟨_, rfl, fun s H C cl fp => xt_notB (xe_call d1 r2 pass0X (xa_cons (xe_name 6 rfl (xa_nil ⟨e, rfl, hk, xe_bl ⟨_, _, rfl, rfl, Sub.refl _, fun z => (by rw [hg] at z; cases z), fun _ => rfl⟩⟩))))⟩
      · exact xe_lst (xa_nil ⟨by simp, fun l0 hl0 => nil_ne (W2 := W) (Sub.new hl0 _ _ updO_same) updO_same ((hsub.trans (Sub.new hl2)).trans (Sub.new hl0))⟩)
    refine xb_cons ?_
    refine xs_asg ?_
    refine xe_lst ?_
    refine xa_cons ?_
    refine xe_non ?_
    refine xa_cons ?_
    refine xe_int ?_
    refine xa_cons ?_
    refine xe_tup ?_
    refine xa_nil ⟨by simp, ?_⟩
    refine xa_cons ?_
    refine xe_tup ?_
    refine xa_cons ?_
    refine xe_int ?_
    refine xa_cons ?_
    refine xe_int ?_
    refine xa_cons ?_
    refine xe_int ?_
    refine xa_nil ⟨by simp, ?_⟩
    refine xa_cons ?_
    refine xe_tup ?_
    refine xa_cons ?_
    refine xe_neg ?_
    refine xe_int ⟨_, rfl, ?_⟩
    refine xa_cons ?_
    refine xe_int ?_
    refine xa_cons ?_
    refine xe_int ?_
    refine xa_cons ?_
    refine xe_int ?_
    refine xa_nil ⟨by simp, ?_⟩
    refine xa_cons ?_
    refine xe_tup ?_
    refine xa_cons ?_
    refine xe_int ?_
    refine xa_cons ?_
    refine xe_int ?_
    refine xa_cons ?_
    refine xe_int ?_
    refine xa_cons ?_
    refine xe_int ?_
    refine xa_nil ⟨by simp, ?_⟩
    refine xa_cons ?_
    refine xe_tup ?_
    refine xa_cons ?_
    refine xe_int ?_
    refine xa_cons ?_
    refine xe_int ?_
    refine xa_cons ?_
    refine xe_int ?_
    refine xa_cons ?_
    refine xe_int ?_
    refine xa_nil ⟨by simp, ?_⟩
    refine xa_cons ?_
    refine xe_tup ?_
    refine xa_cons ?_
    refine xe_int ?_
    refine xa_cons ?_
    refine xe_int ?_
    refine xa_cons ?_
    refine xe_int ?_
    refine xa_cons ?_
    refine xe_int ?_
    refine xa_nil ⟨by simp, ?_⟩
    refine xa_cons ?_
    refine xe_tup ?_
    refine xa_cons ?_
    refine xe_int ?_
    refine xa_cons ?_
    refine xe_int ?_
    refine xa_cons ?_
    refine xe_int ?_
    refine xa_cons ?_
    refine xe_int ?_
    refine xa_nil ⟨by simp, ?_⟩
    refine xa_nil ⟨by simp, fun l2 h_l2 => ?_⟩
    refine xg_name 7 sc_law.nd ?_
    refine xb_cons ?_
    refine xs_asg ?_
    refine xe_add ?_
    refine xe_name 7 rfl ?_
    refine xe_lst ?_
    refine xa_cons ?_
    refine xe_tup ?_
    refine xa_cons ?_
    refine xe_int ?_
    refine xa_cons ?_
    refine xe_int ?_
    refine xa_cons ?_
    refine xe_int ?_
    refine xa_cons ?_
    refine xe_int ?_
    refine xa_nil ⟨by simp, ?_⟩
    refine xa_cons ?_
    refine xe_tup ?_
    refine xa_cons ?_
    refine xe_int ?_
    refine xa_cons ?_
    refine xe_int ?_
    refine xa_cons ?_
    refine xe_int ?_
    refine xa_cons ?_
    refine xe_int ?_
    refine xa_nil ⟨by simp, ?_⟩
    refine xa_cons ?_
    refine xe_tup ?_
    refine xa_cons ?_
    refine xe_int ?_
    refine xa_cons ?_
    refine xe_int ?_
    refine xa_cons ?_
    refine xe_int ?_
    refine xa_cons ?_
    refine xe_neg ?_
    refine xe_int ⟨_, rfl, ?_⟩
    refine xa_nil ⟨by simp, ?_⟩
    refine xa_cons ?_
    refine xe_lst ?_
    refine xa_cons ?_
    refine xe_int ?_
    refine xa_cons ?_
    refine xe_int ?_
    refine xa_cons ?_
    refine xe_int ?_
    refine xa_cons ?_
    refine xe_int ?_
    refine xa_nil ⟨by simp, fun l3 h_l3 => ?_⟩
    refine xa_cons ?_
    refine xe_tup ?_
    refine xa_cons ?_
    refine xe_int ?_
    refine xa_cons ?_
    refine xe_bl ?_
    refine xa_cons ?_
    refine xe_int ?_
    refine xa_cons ?_
    refine xe_int ?_
    refine xa_nil ⟨by simp, ?_⟩
    refine xa_cons ?_
    refine xe_tup ?_
    refine xa_cons ?_
    refine xe_int ?_
    refine xa_cons ?_
    refine xe_int ?_
    refine xa_cons ?_
    refine xe_int ?_
    refine xa_cons ?_
    refine xe_non ?_
    refine xa_nil ⟨by simp, ?_⟩
    refine xa_nil ⟨by simp, fun l4 h_l4 => ?_⟩
    refine ⟨_, _, Sub.new h_l4 _ _ (Sub.new h_l3 _ _ (updO_same)), updO_same, le1000 (by simp), fun w0 h_w0 => ?_⟩
    refine xg_name 7 sc_law.nd ?_
    refine xb_cons ?_
    refine xs_asg ?_
    refine xe_add ?_
    refine xe_name 7 rfl ?_
    refine xe_lst ?_
    refine xa_cons ?_
    refine xe_tup ?_
    refine xa_cons ?_
    refine xe_int ?_
    refine xa_cons ?_
    refine xe_int ?_
    refine xa_cons ?_
    refine xe_int ?_
    refine xa_cons ?_
    refine xe_int ?_
    refine xa_cons ?_
    refine xe_int ?_
    refine xa_nil ⟨by simp, ?_⟩
    refine xa_cons ?_
    refine xe_str ?_
    refine xa_nil ⟨by simp, fun l5 h_l5 => ?_⟩
    refine ⟨_, _, Sub.new h_l5 _ _ (updO_same), updO_same, le1000 (by simp), fun w1 h_w1 => ?_⟩
    refine xg_name 7 sc_law.nd ?_
    have nw : w1 ≠ tw := (neO (Sub.new h_l5 _ _ (Sub.new h_w0 _ _ (Sub.new h_l4 _ _ (Sub.new h_l3 _ _ (Sub.new h_l2 _ _ hVt))))) h_w1).symm
    refine xb_abs (fun V2 => SR.Sub V V2 ∧ V2 w1 = some (.lst (badW l3)) ∧ ∃ xs, V2 l3 = some (.lst xs)) ⟨(((((Sub.new h_l2).trans (Sub.new h_l3)).trans (Sub.new h_l4)).trans (Sub.new h_w0)).trans (Sub.new h_l5)).trans (Sub.new h_w1), updO_same, _, Sub.new h_w1 _ _ (Sub.new h_l5 _ _ (Sub.new h_w0 _ _ (Sub.new h_l4 _ _ (updO_same))))⟩ fun V2 ⟨hV2, hwr, xs0, hla⟩ => ?_
    replace hVt := hV2 _ _ hVt; replace hVT := hV2 _ _ hVT; replace hVT2 := hV2 _ _ hVT2
    clear hV2
    refine xb_cons ?_
    refine xs_asg ?_
    refine xe_lst ?_
    refine xa_cons ?_
    refine xe_name 3 rfl ?_
    refine xa_cons ?_
    refine xe_tup ?_
    refine xa_cons ?_
    refine xe_int ?_
    refine xa_cons ?_
    refine xe_int ?_
    refine xa_cons ?_
    refine xe_int ?_
    refine xa_cons ?_
    refine xe_int ?_
    refine xa_nil ⟨by simp, ?_⟩
    refine xa_cons ?_
    refine xe_tup ?_
    refine xa_cons ?_
    refine xe_int ?_
    refine xa_cons ?_
    refine xe_int ?_
    refine xa_cons ?_
    refine xe_int ?_
    refine xa_cons ?_
    refine xe_int ?_
    refine xa_nil ⟨by simp, ?_⟩
    refine xa_cons ?_
    refine xe_tup ?_
    refine xa_cons ?_
    refine xe_int ?_
    refine xa_cons ?_
    refine xe_int ?_
    refine xa_cons ?_
    refine xe_int ?_
    refine xa_cons ?_
    refine xe_int ?_
    refine xa_nil ⟨by simp, ?_⟩
    refine xa_cons ?_
    refine xe_tup ?_
    refine xa_cons ?_
    refine xe_int ?_
    refine xa_cons ?_
    refine xe_int ?_
    refine xa_cons ?_
    refine xe_int ?_
    refine xa_cons ?_
    refine xe_int ?_
    refine xa_nil ⟨by simp, ?_⟩
    refine xa_nil ⟨by simp, fun l6 h_l6 => ?_⟩
    refine xg_name 4 sc_law.nd ?_
    refine xb_ifno ?_ ?_
    · refine xt_ne hu (xe_lcP [("good", 5)] sc_law.nd (lcTg_name 5 sc_law.nd) (blkOk_by (N := n_law) (sc := defScope s_law) (by decide +kernel)) (xi_lst (xe_name 4 rfl ⟨l6, _, rfl, updO_same, (fun W2 hs2 => hs2 _ _ updO_same), le1000 (by simp), fun _ => none, fun j e W2 he hs2 => ?_, fun l2 hl2 => ?_⟩)))
      · obtain ⟨hk, hg⟩ := good_bd hB (List.mem_of_getElem? he)
        have hk := hk W2
        refine ⟨_, rfl, fun s H C cl fp => xt_notB (xe_call d2 r2 pass0X (xa_cons (xe_name 5 rfl (xa_nil ⟨e, rfl, hk, xe_bl ⟨_, _, rfl, rfl, Sub.refl _, fun z => (by rw [hg] at z; cases z), fun _ => rfl⟩⟩))))⟩
      · exact xe_lst (xa_nil ⟨by simp, fun l0 hl0 => nil_ne (W2 := W) (Sub.new hl0 _ _ updO_same) updO_same ((Sub.new hl2).trans (Sub.new hl0))⟩)
    refine xb_sub (Sub.new h_l6) ?_
    refine xb_ifno ?_ ?_
    · refine xt_ne hu (xe_lcP [("bad", 6)] sc_law.nd (lcTg_name 6 sc_law.nd) (blkOk_by (N := n_law) (sc := defScope s_law) (by decide +kernel)) (xi_lst (xe_name 7 rfl ⟨w1, _, rfl, hwr, (fun W2 hs2 => hs2 _ _ hwr), le1000 (by simp [badW]), fun _ => none, fun j e W2 he hs2 => ?_, fun l2 hl2 => ?_⟩)))
      · obtain ⟨hk, hg⟩ := badW_ok (hs2 _ _ hla) e (List.mem_of_getElem? he)
        refine ⟨_, rfl, fun s H C cl fp => xt_notB (xe_call d2 r2 pass0X (xa_cons (xe_name 6 rfl (xa_nil ⟨e, rfl, hk, xe_bl ⟨_, _, rfl, rfl, Sub.refl _, fun z => (by rw [hg] at z; cases z), fun _ => rfl⟩⟩))))⟩
      · exact xe_lst (xa_nil ⟨by simp, fun l0 hl0 => nil_ne (W2 := W) (Sub.new hl0 _ _ updO_same) updO_same ((Sub.new hl2).trans (Sub.new hl0))⟩)
    refine xb_cons (xs_set 6 sc_law.nd (xe_call c3 r2 pass0X (xa_cons (xe_name 0 rfl (xa_cons (xe_name 1 rfl (xa_cons (xe_call0 d3 r1 pass0X ⟨rfl, fun W1 l1 lb hsub hl hW1 ⟨xs1, hlb⟩ => xa_nil ⟨a, ns, tw, l1, badS lb, _, ob2, rfl, hns, hW1, (neO hVt hl).symm, by rw [badS_len]; decide, by rw [badS_len]; decide, hsub _ _ hVt, T2', by omega, fun c ob3 hc T3 => ?_⟩⟩))))))))
    obtain ⟨t3, ls3, e3, _⟩ := T3
    have lst3 : ∀ {q : Addr} {ys : List D}, W1 q = some (.lst ys) → ∃ zs, updO W1 tw ob3 q = some (.lst zs) := fun {q ys} hq => by
      by_cases e : q = tw
      · rw [e, updO_same, e3]; exact ⟨_, rfl⟩
      · rw [updO_ne e]; exact ⟨_, hq⟩
    obtain ⟨zs1, hlb3⟩ := lst3 hlb
    obtain ⟨zs2, hla3⟩ := lst3 (hsub _ _ hla)
    have hwr3 : updO W1 tw ob3 w1 = some (.lst (badW l3)) := by rw [updO_ne nw]; exact hsub _ _ hwr
    have hT3 : updO W1 tw ob3 T = some (.tab (qLam "parting")) := by rw [updO_ne nT]; exact hsub _ _ hVT
    have hT23 : updO W1 tw ob3 T2 = some (.tab (qLam "first_more")) := by rw [updO_ne nT2]; exact hsub _ _ hVT2
    obtain ⟨hkc, hbc⟩ := badS_ok hlb3 c hc
    generalize updO W1 tw ob3 = V3 at hlb3 hla3 hwr3 hT3 hT23 hkc
    refine xb_cons ?_
    refine xs_for (fun i g' W' => ∃ y4 y5 y8, g' = [some (.scr a ns), some (.p tw), some st.d, some b.d, y4, y5, some c, some (.p w1), y8] ∧ W' = V3) ?_ (hp := ?hp) (hc := ?hc) (hs := ?hs)
    case hp => exact PassesOwn.never
    case hc => rfl
    case hs => intro _; rfl
    refine xi_range1 B.range ?_
    refine xe_int ⟨_, rfl, by omega, by omega, ⟨_, _, _, rfl, rfl⟩, fun _ _ _ _ => trivial, ?_, ?_⟩
    · rintro i d g' W' hd ⟨y4, y5, y8, rfl, rfl⟩
      obtain ⟨hi, rfl⟩ := mem_rangeD hd
      have hi : i < 21 := hi
      refine xg_name 8 sc_law.nd ?_
      refine xb_ifno ?_ ?_
      · refine xt_ne hu (xe_call o1 r8 pass0X (xa_cons (xe_name 8 rfl (xa_cons (xe_tup (xa_cons (xe_name 6 rfl (xa_cons (xe_non (xa_cons (xe_non (xa_cons (xe_non (xa_nil ⟨by simp, xa_nil ⟨⟨_, _, rfl⟩, call_store hT3 hT23 (by omega) (by omega) hkc hbc ⟨0, rfl, by simp [RX], ?_⟩⟩⟩))))))))))))))
        exact xe_call o2 r1 pass0X (xa_cons (xe_str (xa_nil ⟨0, rfl, neq_out (Sub.refl _)⟩)))
      refine xb_ifno1 ?_ ⟨_, _, _, rfl, rfl⟩
      refine xt_and2 (xt_cmp (by simp) (xe_name 8 rfl (xe_int ⟨_, _, _, rfl, rfl, rfl, _, rfl, fun z => ?_, fun _ => ⟨rfl, Sub.refl _⟩⟩)))
      have h17 := of_decide_eq_true z
      refine xt_ne hu (xe_call o1 r8 pass0X (xa_cons (xe_name 8 rfl (xa_cons (xe_tup (xa_cons (xe_name 2 rfl (xa_cons (xe_int (xa_cons (xe_non (xa_cons (xe_name 6 rfl (xa_nil ⟨by simp, xa_nil ⟨⟨_, _, rfl⟩, call_store2 hT3 hT23 (by omega) (by omega) hs hkc hbc ⟨0, rfl, by simp [RX], ?_⟩⟩⟩))))))))))))))
      exact xe_call o2 r1 pass0X (xa_cons (xe_str (xa_nil ⟨0, rfl, neq_out (Sub.refl _)⟩)))
    rintro g' W' ⟨y4, y5, y8, rfl, rfl⟩
    exact xb_one (xs_ret (xe_call o3 hr pass0X (xa_cons (xe_name 2 rfl (xa_cons (xe_name 3 rfl (xa_cons (xe_name 7 rfl (xa_nil ⟨st, b, w1, badW l3, rfl, hs, hB, hwr3, badW_ok hla3, hT3, hT23, h⟩)))))))))

end Law
namespace Law
open PySem PySem.Spec PyProof.Rows L2 SR
theorem all_mk {l : PySem.W.OpenLaw} {w : World} {K : PySem.W.Frag} {h : Heap} {mg : Str → Option Value} {fa : Addr} (X : K.In h) (G : h.Ns mainGlobals mg) (hfa : mg "law" = some (.ref fa))
    {f0 : Addr} {od0 an0 : Option Addr} {sl0 : Array (Option Value)} {oc0 kV0 dc0 pm0 ct0 : Value} {cd0 : Value}
    (a0 : PySem.W.nsIn K mainGlobals "is_between" = some (some (.ref f0)))
    (l0 : K.lookup f0 = some ⟨oc0, od0, .func (PySem.W.fnOf "is_between" "is_between" (defArgs s_is_between) (defBody s_is_between) (defScope s_is_between) .none kV0 dc0 pm0 an0 cd0 ct0), sl0⟩)
    (c0 : PySem.W.codeIn K cd0 "is_between" = true)
    (k0 : PySem.W.keepIn K (.ref f0) = true)
    {f1 : Addr} {od1 an1 : Option Addr} {sl1 : Array (Option Value)} {oc1 kV1 dc1 pm1 ct1 : Value} {cd1 : Value}
    (a1 : PySem.W.nsIn K mainGlobals "is_store" = some (some (.ref f1)))
    (l1 : K.lookup f1 = some ⟨oc1, od1, .func (PySem.W.fnOf "is_store" "is_store" (defArgs s_is_store) (defBody s_is_store) (defScope s_is_store) .none kV1 dc1 pm1 an1 cd1 ct1), sl1⟩)
    (c1 : PySem.W.codeIn K cd1 "is_store" = true)
    (k1 : PySem.W.keepIn K (.ref f1) = true)
    {f2 : Addr} {od2 an2 : Option Addr} {sl2 : Array (Option Value)} {oc2 kV2 dc2 pm2 ct2 : Value} {cd2 : Value}
    (a2 : PySem.W.nsIn K mainGlobals "is_bounds" = some (some (.ref f2)))
    (l2 : K.lookup f2 = some ⟨oc2, od2, .func (PySem.W.fnOf "is_bounds" "is_bounds" (defArgs s_is_bounds) (defBody s_is_bounds) (defScope s_is_bounds) .none kV2 dc2 pm2 an2 cd2 ct2), sl2⟩)
    (c2 : PySem.W.codeIn K cd2 "is_bounds" = true)
    (k2 : PySem.W.keepIn K (.ref f2) = true)
    {f3 : Addr} {od3 an3 : Option Addr} {sl3 : Array (Option Value)} {oc3 kV3 dc3 pm3 ct3 : Value} {cd3 : Value}
    (a3 : PySem.W.nsIn K mainGlobals "check_store" = some (some (.ref f3)))
    (l3 : K.lookup f3 = some ⟨oc3, od3, .func (PySem.W.fnOf "check_store" "check_store" (defArgs s_check_store) (defBody s_check_store) (defScope s_check_store) .none kV3 dc3 pm3 an3 cd3 ct3), sl3⟩)
    (c3 : PySem.W.codeIn K cd3 "check_store" = true)
    (k3 : PySem.W.keepIn K (.ref f3) = true)
    {f4 : Addr} {od4 an4 : Option Addr} {sl4 : Array (Option Value)} {oc4 kV4 dc4 pm4 ct4 : Value} {cd4 : Value}
    (a4 : PySem.W.nsIn K mainGlobals "check_start" = some (some (.ref f4)))
    (l4 : K.lookup f4 = some ⟨oc4, od4, .func (PySem.W.fnOf "check_start" "check_start" (defArgs s_check_start) (defBody s_check_start) (defScope s_check_start) .none kV4 dc4 pm4 an4 cd4 ct4), sl4⟩)
    (c4 : PySem.W.codeIn K cd4 "check_start" = true)
    (k4 : PySem.W.keepIn K (.ref f4) = true)
    {f5 : Addr} {od5 an5 : Option Addr} {sl5 : Array (Option Value)} {oc5 kV5 dc5 pm5 ct5 : Value} {cd5 : Value}
    (a5 : PySem.W.nsIn K mainGlobals "check_bounds" = some (some (.ref f5)))
    (l5 : K.lookup f5 = some ⟨oc5, od5, .func (PySem.W.fnOf "check_bounds" "check_bounds" (defArgs s_check_bounds) (defBody s_check_bounds) (defScope s_check_bounds) .none kV5 dc5 pm5 an5 cd5 ct5), sl5⟩)
    (c5 : PySem.W.codeIn K cd5 "check_bounds" = true)
    (k5 : PySem.W.keepIn K (.ref f5) = true)
    {f6 : Addr} {od6 an6 : Option Addr} {sl6 : Array (Option Value)} {oc6 kV6 dc6 pm6 ct6 : Value} {cd6 : Value}
    (a6 : PySem.W.nsIn K mainGlobals "amount_for" = some (some (.ref f6)))
    (l6 : K.lookup f6 = some ⟨oc6, od6, .func (PySem.W.fnOf "amount_for" "amount_for" (defArgs s_amount_for) (defBody s_amount_for) (defScope s_amount_for) .none kV6 dc6 pm6 an6 cd6 ct6), sl6⟩)
    (c6 : PySem.W.codeIn K cd6 "amount_for" = true)
    (k6 : PySem.W.keepIn K (.ref f6) = true)
    {f7 : Addr} {od7 an7 : Option Addr} {sl7 : Array (Option Value)} {oc7 kV7 dc7 pm7 ct7 : Value} {cd7 : Value}
    (a7 : PySem.W.nsIn K mainGlobals "order_for" = some (some (.ref f7)))
    (l7 : K.lookup f7 = some ⟨oc7, od7, .func (PySem.W.fnOf "order_for" "order_for" (defArgs s_order_for) (defBody s_order_for) (defScope s_order_for) .none kV7 dc7 pm7 an7 cd7 ct7), sl7⟩)
    (c7 : PySem.W.codeIn K cd7 "order_for" = true)
    (k7 : PySem.W.keepIn K (.ref f7) = true)
    {f8 : Addr} {od8 an8 : Option Addr} {sl8 : Array (Option Value)} {oc8 kV8 dc8 pm8 ct8 : Value} {cd8 : Value}
    (a8 : PySem.W.nsIn K mainGlobals "with_order" = some (some (.ref f8)))
    (l8 : K.lookup f8 = some ⟨oc8, od8, .func (PySem.W.fnOf "with_order" "with_order" (defArgs s_with_order) (defBody s_with_order) (defScope s_with_order) .none kV8 dc8 pm8 an8 cd8 ct8), sl8⟩)
    (c8 : PySem.W.codeIn K cd8 "with_order" = true)
    (k8 : PySem.W.keepIn K (.ref f8) = true)
    {f9 : Addr} {od9 an9 : Option Addr} {sl9 : Array (Option Value)} {oc9 kV9 dc9 pm9 ct9 : Value} {cd9 : Value}
    (a9 : PySem.W.nsIn K mainGlobals "begun" = some (some (.ref f9)))
    (l9 : K.lookup f9 = some ⟨oc9, od9, .func (PySem.W.fnOf "begun" "begun" (defArgs s_begun) (defBody s_begun) (defScope s_begun) .none kV9 dc9 pm9 an9 cd9 ct9), sl9⟩)
    (c9 : PySem.W.codeIn K cd9 "begun" = true)
    (k9 : PySem.W.keepIn K (.ref f9) = true)
    {f10 : Addr} {od10 an10 : Option Addr} {sl10 : Array (Option Value)} {oc10 kV10 dc10 pm10 ct10 : Value} {cd10 : Value}
    (a10 : PySem.W.nsIn K mainGlobals "first_situation" = some (some (.ref f10)))
    (l10 : K.lookup f10 = some ⟨oc10, od10, .func (PySem.W.fnOf "first_situation" "first_situation" (defArgs s_first_situation) (defBody s_first_situation) (defScope s_first_situation) .none kV10 dc10 pm10 an10 cd10 ct10), sl10⟩)
    (c10 : PySem.W.codeIn K cd10 "first_situation" = true)
    (k10 : PySem.W.keepIn K (.ref f10) = true)
    {f11 : Addr} {od11 an11 : Option Addr} {sl11 : Array (Option Value)} {oc11 kV11 dc11 pm11 ct11 : Value} {cd11 : Value}
    (a11 : PySem.W.nsIn K mainGlobals "next_day" = some (some (.ref f11)))
    (l11 : K.lookup f11 = some ⟨oc11, od11, .func (PySem.W.fnOf "next_day" "next_day" (defArgs s_next_day) (defBody s_next_day) (defScope s_next_day) .none kV11 dc11 pm11 an11 cd11 ct11), sl11⟩)
    (c11 : PySem.W.codeIn K cd11 "next_day" = true)
    (k11 : PySem.W.keepIn K (.ref f11) = true)
    {f12 : Addr} {od12 an12 : Option Addr} {sl12 : Array (Option Value)} {oc12 kV12 dc12 pm12 ct12 : Value} {cd12 : Value}
    (a12 : PySem.W.nsIn K mainGlobals "check_demands" = some (some (.ref f12)))
    (l12 : K.lookup f12 = some ⟨oc12, od12, .func (PySem.W.fnOf "check_demands" "check_demands" (defArgs s_check_demands) (defBody s_check_demands) (defScope s_check_demands) .none kV12 dc12 pm12 an12 cd12 ct12), sl12⟩)
    (c12 : PySem.W.codeIn K cd12 "check_demands" = true)
    (k12 : PySem.W.keepIn K (.ref f12) = true)
    {f13 : Addr} {od13 an13 : Option Addr} {sl13 : Array (Option Value)} {oc13 kV13 dc13 pm13 ct13 : Value} {cd13 : Value}
    (a13 : PySem.W.nsIn K mainGlobals "check_run" = some (some (.ref f13)))
    (l13 : K.lookup f13 = some ⟨oc13, od13, .func (PySem.W.fnOf "check_run" "check_run" (defArgs s_check_run) (defBody s_check_run) (defScope s_check_run) .none kV13 dc13 pm13 an13 cd13 ct13), sl13⟩)
    (c13 : PySem.W.codeIn K cd13 "check_run" = true)
    (k13 : PySem.W.keepIn K (.ref f13) = true)
    {f14 : Addr} {od14 an14 : Option Addr} {sl14 : Array (Option Value)} {oc14 kV14 dc14 pm14 ct14 : Value} {cd14 : Value}
    (a14 : PySem.W.nsIn K mainGlobals "days_of" = some (some (.ref f14)))
    (l14 : K.lookup f14 = some ⟨oc14, od14, .func (PySem.W.fnOf "days_of" "days_of" (defArgs s_days_of) (defBody s_days_of) (defScope s_days_of) .none kV14 dc14 pm14 an14 cd14 ct14), sl14⟩)
    (c14 : PySem.W.codeIn K cd14 "days_of" = true)
    (k14 : PySem.W.keepIn K (.ref f14) = true)
    {f15 : Addr} {od15 an15 : Option Addr} {sl15 : Array (Option Value)} {oc15 kV15 dc15 pm15 ct15 : Value} {cd15 : Value}
    (a15 : PySem.W.nsIn K mainGlobals "run" = some (some (.ref f15)))
    (l15 : K.lookup f15 = some ⟨oc15, od15, .func (PySem.W.fnOf "run" "run" (defArgs s_run) (defBody s_run) (defScope s_run) .none kV15 dc15 pm15 an15 cd15 ct15), sl15⟩)
    (c15 : PySem.W.codeIn K cd15 "run" = true)
    (k15 : PySem.W.keepIn K (.ref f15) = true)
    {f16 : Addr} {od16 an16 : Option Addr} {sl16 : Array (Option Value)} {oc16 kV16 dc16 pm16 ct16 : Value} {cd16 : Value}
    (a16 : PySem.W.nsIn K mainGlobals "situation_after" = some (some (.ref f16)))
    (l16 : K.lookup f16 = some ⟨oc16, od16, .func (PySem.W.fnOf "situation_after" "situation_after" (defArgs s_situation_after) (defBody s_situation_after) (defScope s_situation_after) .none kV16 dc16 pm16 an16 cd16 ct16), sl16⟩)
    (c16 : PySem.W.codeIn K cd16 "situation_after" = true)
    (k16 : PySem.W.keepIn K (.ref f16) = true)
    {f17 : Addr} {od17 an17 : Option Addr} {sl17 : Array (Option Value)} {oc17 kV17 dc17 pm17 ct17 : Value} {cd17 : Value}
    (a17 : PySem.W.nsIn K mainGlobals "sums_of" = some (some (.ref f17)))
    (l17 : K.lookup f17 = some ⟨oc17, od17, .func (PySem.W.fnOf "sums_of" "sums_of" (defArgs s_sums_of) (defBody s_sums_of) (defScope s_sums_of) .none kV17 dc17 pm17 an17 cd17 ct17), sl17⟩)
    (c17 : PySem.W.codeIn K cd17 "sums_of" = true)
    (k17 : PySem.W.keepIn K (.ref f17) = true)
    {f18 : Addr} {od18 an18 : Option Addr} {sl18 : Array (Option Value)} {oc18 kV18 dc18 pm18 ct18 : Value} {cd18 : Value}
    (a18 : PySem.W.nsIn K mainGlobals "totals" = some (some (.ref f18)))
    (l18 : K.lookup f18 = some ⟨oc18, od18, .func (PySem.W.fnOf "totals" "totals" (defArgs s_totals) (defBody s_totals) (defScope s_totals) .none kV18 dc18 pm18 an18 cd18 ct18), sl18⟩)
    (c18 : PySem.W.codeIn K cd18 "totals" = true)
    (k18 : PySem.W.keepIn K (.ref f18) = true)
    {f19 : Addr} {od19 an19 : Option Addr} {sl19 : Array (Option Value)} {oc19 kV19 dc19 pm19 ct19 : Value} {cd19 : Value}
    (a19 : PySem.W.nsIn K mainGlobals "check_three" = some (some (.ref f19)))
    (l19 : K.lookup f19 = some ⟨oc19, od19, .func (PySem.W.fnOf "check_three" "check_three" (defArgs s_check_three) (defBody s_check_three) (defScope s_check_three) .none kV19 dc19 pm19 an19 cd19 ct19), sl19⟩)
    (c19 : PySem.W.codeIn K cd19 "check_three" = true)
    (k19 : PySem.W.keepIn K (.ref f19) = true)
    {f20 : Addr} {od20 an20 : Option Addr} {sl20 : Array (Option Value)} {oc20 kV20 dc20 pm20 ct20 : Value} {cd20 : Value}
    (a20 : PySem.W.nsIn K mainGlobals "allowed" = some (some (.ref f20)))
    (l20 : K.lookup f20 = some ⟨oc20, od20, .func (PySem.W.fnOf "allowed" "allowed" (defArgs s_allowed) (defBody s_allowed) (defScope s_allowed) .none kV20 dc20 pm20 an20 cd20 ct20), sl20⟩)
    (c20 : PySem.W.codeIn K cd20 "allowed" = true)
    (k20 : PySem.W.keepIn K (.ref f20) = true)
    {f21 : Addr} {od21 an21 : Option Addr} {sl21 : Array (Option Value)} {oc21 kV21 dc21 pm21 ct21 : Value} {cd21 : Value}
    (a21 : PySem.W.nsIn K mainGlobals "after" = some (some (.ref f21)))
    (l21 : K.lookup f21 = some ⟨oc21, od21, .func (PySem.W.fnOf "after" "after" (defArgs s_after) (defBody s_after) (defScope s_after) .none kV21 dc21 pm21 an21 cd21 ct21), sl21⟩)
    (c21 : PySem.W.codeIn K cd21 "after" = true)
    (k21 : PySem.W.keepIn K (.ref f21) = true)
    {f22 : Addr} {od22 an22 : Option Addr} {sl22 : Array (Option Value)} {oc22 kV22 dc22 pm22 ct22 : Value} {cd22 : Value}
    (a22 : PySem.W.nsIn K mainGlobals "first_node" = some (some (.ref f22)))
    (l22 : K.lookup f22 = some ⟨oc22, od22, .func (PySem.W.fnOf "first_node" "first_node" (defArgs s_first_node) (defBody s_first_node) (defScope s_first_node) .none kV22 dc22 pm22 an22 cd22 ct22), sl22⟩)
    (c22 : PySem.W.codeIn K cd22 "first_node" = true)
    (k22 : PySem.W.keepIn K (.ref f22) = true)
    {f23 : Addr} {od23 an23 : Option Addr} {sl23 : Array (Option Value)} {oc23 kV23 dc23 pm23 ct23 : Value} {cd23 : Value}
    (a23 : PySem.W.nsIn K mainGlobals "steps_from" = some (some (.ref f23)))
    (l23 : K.lookup f23 = some ⟨oc23, od23, .func (PySem.W.fnOf "steps_from" "steps_from" (defArgs s_steps_from) (defBody s_steps_from) (defScope s_steps_from) .none kV23 dc23 pm23 an23 cd23 ct23), sl23⟩)
    (c23 : PySem.W.codeIn K cd23 "steps_from" = true)
    (k23 : PySem.W.keepIn K (.ref f23) = true)
    {f24 : Addr} {od24 an24 : Option Addr} {sl24 : Array (Option Value)} {oc24 kV24 dc24 pm24 ct24 : Value} {cd24 : Value}
    (a24 : PySem.W.nsIn K mainGlobals "all_nodes" = some (some (.ref f24)))
    (l24 : K.lookup f24 = some ⟨oc24, od24, .func (PySem.W.fnOf "all_nodes" "all_nodes" (defArgs s_all_nodes) (defBody s_all_nodes) (defScope s_all_nodes) .none kV24 dc24 pm24 an24 cd24 ct24), sl24⟩)
    (c24 : PySem.W.codeIn K cd24 "all_nodes" = true)
    (k24 : PySem.W.keepIn K (.ref f24) = true)
    {f25 : Addr} {od25 an25 : Option Addr} {sl25 : Array (Option Value)} {oc25 kV25 dc25 pm25 ct25 : Value} {cd25 : Value}
    (a25 : PySem.W.nsIn K mainGlobals "first_with" = some (some (.ref f25)))
    (l25 : K.lookup f25 = some ⟨oc25, od25, .func (PySem.W.fnOf "first_with" "first_with" (defArgs s_first_with) (defBody s_first_with) (defScope s_first_with) .none kV25 dc25 pm25 an25 cd25 ct25), sl25⟩)
    (c25 : PySem.W.codeIn K cd25 "first_with" = true)
    (k25 : PySem.W.keepIn K (.ref f25) = true)
    {f26 : Addr} {od26 an26 : Option Addr} {sl26 : Array (Option Value)} {oc26 kV26 dc26 pm26 ct26 : Value} {cd26 : Value}
    (a26 : PySem.W.nsIn K mainGlobals "first_short" = some (some (.ref f26)))
    (l26 : K.lookup f26 = some ⟨oc26, od26, .func (PySem.W.fnOf "first_short" "first_short" (defArgs s_first_short) (defBody s_first_short) (defScope s_first_short) .none kV26 dc26 pm26 an26 cd26 ct26), sl26⟩)
    (c26 : PySem.W.codeIn K cd26 "first_short" = true)
    (k26 : PySem.W.keepIn K (.ref f26) = true)
    {f27 : Addr} {od27 an27 : Option Addr} {sl27 : Array (Option Value)} {oc27 kV27 dc27 pm27 ct27 : Value} {cd27 : Value}
    (a27 : PySem.W.nsIn K mainGlobals "first_spill" = some (some (.ref f27)))
    (l27 : K.lookup f27 = some ⟨oc27, od27, .func (PySem.W.fnOf "first_spill" "first_spill" (defArgs s_first_spill) (defBody s_first_spill) (defScope s_first_spill) .none kV27 dc27 pm27 an27 cd27 ct27), sl27⟩)
    (c27 : PySem.W.codeIn K cd27 "first_spill" = true)
    (k27 : PySem.W.keepIn K (.ref f27) = true)
    {f28 : Addr} {od28 an28 : Option Addr} {sl28 : Array (Option Value)} {oc28 kV28 dc28 pm28 ct28 : Value} {cd28 : Value}
    (a28 : PySem.W.nsIn K mainGlobals "is_safe" = some (some (.ref f28)))
    (l28 : K.lookup f28 = some ⟨oc28, od28, .func (PySem.W.fnOf "is_safe" "is_safe" (defArgs s_is_safe) (defBody s_is_safe) (defScope s_is_safe) .none kV28 dc28 pm28 an28 cd28 ct28), sl28⟩)
    (c28 : PySem.W.codeIn K cd28 "is_safe" = true)
    (k28 : PySem.W.keepIn K (.ref f28) = true)
    {f29 : Addr} {od29 an29 : Option Addr} {sl29 : Array (Option Value)} {oc29 kV29 dc29 pm29 ct29 : Value} {cd29 : Value}
    (a29 : PySem.W.nsIn K mainGlobals "extreme" = some (some (.ref f29)))
    (l29 : K.lookup f29 = some ⟨oc29, od29, .func (PySem.W.fnOf "extreme" "extreme" (defArgs s_extreme) (defBody s_extreme) (defScope s_extreme) .none kV29 dc29 pm29 an29 cd29 ct29), sl29⟩)
    (c29 : PySem.W.codeIn K cd29 "extreme" = true)
    (k29 : PySem.W.keepIn K (.ref f29) = true)
    {f30 : Addr} {od30 an30 : Option Addr} {sl30 : Array (Option Value)} {oc30 kV30 dc30 pm30 ct30 : Value} {cd30 : Value}
    (a30 : PySem.W.nsIn K mainGlobals "highest" = some (some (.ref f30)))
    (l30 : K.lookup f30 = some ⟨oc30, od30, .func (PySem.W.fnOf "highest" "highest" (defArgs s_highest) (defBody s_highest) (defScope s_highest) .none kV30 dc30 pm30 an30 cd30 ct30), sl30⟩)
    (c30 : PySem.W.codeIn K cd30 "highest" = true)
    (k30 : PySem.W.keepIn K (.ref f30) = true)
    {f31 : Addr} {od31 an31 : Option Addr} {sl31 : Array (Option Value)} {oc31 kV31 dc31 pm31 ct31 : Value} {cd31 : Value}
    (a31 : PySem.W.nsIn K mainGlobals "lowest" = some (some (.ref f31)))
    (l31 : K.lookup f31 = some ⟨oc31, od31, .func (PySem.W.fnOf "lowest" "lowest" (defArgs s_lowest) (defBody s_lowest) (defScope s_lowest) .none kV31 dc31 pm31 an31 cd31 ct31), sl31⟩)
    (c31 : PySem.W.codeIn K cd31 "lowest" = true)
    (k31 : PySem.W.keepIn K (.ref f31) = true)
    {f32 : Addr} {od32 an32 : Option Addr} {sl32 : Array (Option Value)} {oc32 kV32 dc32 pm32 ct32 : Value} {cd32 : Value}
    (a32 : PySem.W.nsIn K mainGlobals "count_situations" = some (some (.ref f32)))
    (l32 : K.lookup f32 = some ⟨oc32, od32, .func (PySem.W.fnOf "count_situations" "count_situations" (defArgs s_count_situations) (defBody s_count_situations) (defScope s_count_situations) .none kV32 dc32 pm32 an32 cd32 ct32), sl32⟩)
    (c32 : PySem.W.codeIn K cd32 "count_situations" = true)
    (k32 : PySem.W.keepIn K (.ref f32) = true)
    {f33 : Addr} {od33 an33 : Option Addr} {sl33 : Array (Option Value)} {oc33 kV33 dc33 pm33 ct33 : Value} {cd33 : Value}
    (a33 : PySem.W.nsIn K mainGlobals "least_level" = some (some (.ref f33)))
    (l33 : K.lookup f33 = some ⟨oc33, od33, .func (PySem.W.fnOf "least_level" "least_level" (defArgs s_least_level) (defBody s_least_level) (defScope s_least_level) .none kV33 dc33 pm33 an33 cd33 ct33), sl33⟩)
    (c33 : PySem.W.codeIn K cd33 "least_level" = true)
    (k33 : PySem.W.keepIn K (.ref f33) = true)
    {f34 : Addr} {od34 an34 : Option Addr} {sl34 : Array (Option Value)} {oc34 kV34 dc34 pm34 ct34 : Value} {cd34 : Value}
    (a34 : PySem.W.nsIn K mainGlobals "found_starts" = some (some (.ref f34)))
    (l34 : K.lookup f34 = some ⟨oc34, od34, .func (PySem.W.fnOf "found_starts" "found_starts" (defArgs s_found_starts) (defBody s_found_starts) (defScope s_found_starts) .none kV34 dc34 pm34 an34 cd34 ct34), sl34⟩)
    (c34 : PySem.W.codeIn K cd34 "found_starts" = true)
    (k34 : PySem.W.keepIn K (.ref f34) = true)
    {f35 : Addr} {od35 an35 : Option Addr} {sl35 : Array (Option Value)} {oc35 kV35 dc35 pm35 ct35 : Value} {cd35 : Value}
    (a35 : PySem.W.nsIn K mainGlobals "least_start" = some (some (.ref f35)))
    (l35 : K.lookup f35 = some ⟨oc35, od35, .func (PySem.W.fnOf "least_start" "least_start" (defArgs s_least_start) (defBody s_least_start) (defScope s_least_start) .none kV35 dc35 pm35 an35 cd35 ct35), sl35⟩)
    (c35 : PySem.W.codeIn K cd35 "least_start" = true)
    (k35 : PySem.W.keepIn K (.ref f35) = true)
    {f36 : Addr} {od36 an36 : Option Addr} {sl36 : Array (Option Value)} {oc36 kV36 dc36 pm36 ct36 : Value} {cd36 : Value}
    (a36 : PySem.W.nsIn K mainGlobals "safe_starts" = some (some (.ref f36)))
    (l36 : K.lookup f36 = some ⟨oc36, od36, .func (PySem.W.fnOf "safe_starts" "safe_starts" (defArgs s_safe_starts) (defBody s_safe_starts) (defScope s_safe_starts) .none kV36 dc36 pm36 an36 cd36 ct36), sl36⟩)
    (c36 : PySem.W.codeIn K cd36 "safe_starts" = true)
    (k36 : PySem.W.keepIn K (.ref f36) = true)
    {f37 : Addr} {od37 an37 : Option Addr} {sl37 : Array (Option Value)} {oc37 kV37 dc37 pm37 ct37 : Value} {cd37 : Value}
    (a37 : PySem.W.nsIn K mainGlobals "greatest_sum" = some (some (.ref f37)))
    (l37 : K.lookup f37 = some ⟨oc37, od37, .func (PySem.W.fnOf "greatest_sum" "greatest_sum" (defArgs s_greatest_sum) (defBody s_greatest_sum) (defScope s_greatest_sum) .none kV37 dc37 pm37 an37 cd37 ct37), sl37⟩)
    (c37 : PySem.W.codeIn K cd37 "greatest_sum" = true)
    (k37 : PySem.W.keepIn K (.ref f37) = true)
    {f38 : Addr} {od38 an38 : Option Addr} {sl38 : Array (Option Value)} {oc38 kV38 dc38 pm38 ct38 : Value} {cd38 : Value}
    (a38 : PySem.W.nsIn K mainGlobals "most_missed" = some (some (.ref f38)))
    (l38 : K.lookup f38 = some ⟨oc38, od38, .func (PySem.W.fnOf "most_missed" "most_missed" (defArgs s_most_missed) (defBody s_most_missed) (defScope s_most_missed) .none kV38 dc38 pm38 an38 cd38 ct38), sl38⟩)
    (c38 : PySem.W.codeIn K cd38 "most_missed" = true)
    (k38 : PySem.W.keepIn K (.ref f38) = true)
    {f39 : Addr} {od39 an39 : Option Addr} {sl39 : Array (Option Value)} {oc39 kV39 dc39 pm39 ct39 : Value} {cd39 : Value}
    (a39 : PySem.W.nsIn K mainGlobals "most_ordered" = some (some (.ref f39)))
    (l39 : K.lookup f39 = some ⟨oc39, od39, .func (PySem.W.fnOf "most_ordered" "most_ordered" (defArgs s_most_ordered) (defBody s_most_ordered) (defScope s_most_ordered) .none kV39 dc39 pm39 an39 cd39 ct39), sl39⟩)
    (c39 : PySem.W.codeIn K cd39 "most_ordered" = true)
    (k39 : PySem.W.keepIn K (.ref f39) = true)
    {f40 : Addr} {od40 an40 : Option Addr} {sl40 : Array (Option Value)} {oc40 kV40 dc40 pm40 ct40 : Value} {cd40 : Value}
    (a40 : PySem.W.nsIn K mainGlobals "fewest_ordered" = some (some (.ref f40)))
    (l40 : K.lookup f40 = some ⟨oc40, od40, .func (PySem.W.fnOf "fewest_ordered" "fewest_ordered" (defArgs s_fewest_ordered) (defBody s_fewest_ordered) (defScope s_fewest_ordered) .none kV40 dc40 pm40 an40 cd40 ct40), sl40⟩)
    (c40 : PySem.W.codeIn K cd40 "fewest_ordered" = true)
    (k40 : PySem.W.keepIn K (.ref f40) = true)
    {f41 : Addr} {od41 an41 : Option Addr} {sl41 : Array (Option Value)} {oc41 kV41 dc41 pm41 ct41 : Value} {cd41 : Value}
    (a41 : PySem.W.nsIn K mainGlobals "most_spilled" = some (some (.ref f41)))
    (l41 : K.lookup f41 = some ⟨oc41, od41, .func (PySem.W.fnOf "most_spilled" "most_spilled" (defArgs s_most_spilled) (defBody s_most_spilled) (defScope s_most_spilled) .none kV41 dc41 pm41 an41 cd41 ct41), sl41⟩)
    (c41 : PySem.W.codeIn K cd41 "most_spilled" = true)
    (k41 : PySem.W.keepIn K (.ref f41) = true)
    {f42 : Addr} {od42 an42 : Option Addr} {sl42 : Array (Option Value)} {oc42 kV42 dc42 pm42 ct42 : Value} {cd42 : Value}
    (a42 : PySem.W.nsIn K mainGlobals "first_apart" = some (some (.ref f42)))
    (l42 : K.lookup f42 = some ⟨oc42, od42, .func (PySem.W.fnOf "first_apart" "first_apart" (defArgs s_first_apart) (defBody s_first_apart) (defScope s_first_apart) .none kV42 dc42 pm42 an42 cd42 ct42), sl42⟩)
    (c42 : PySem.W.codeIn K cd42 "first_apart" = true)
    (k42 : PySem.W.keepIn K (.ref f42) = true)
    {f43 : Addr} {od43 an43 : Option Addr} {sl43 : Array (Option Value)} {oc43 kV43 dc43 pm43 ct43 : Value} {cd43 T43 : Addr}
    (a43 : PySem.W.nsIn K mainGlobals "parting" = some (some (.ref f43)))
    (l43 : K.lookup f43 = some ⟨oc43, od43, .func (PySem.W.fnOf "parting" "parting" (defArgs s_parting) (defBody s_parting) (defScope s_parting) .none kV43 dc43 pm43 an43 (.ref cd43) ct43), sl43⟩)
    (tb43 : h.get? T43 = some (PySem.W.tabObj #[]) ∧ PySem.W.codeHdIn K cd43 T43 = true ∧ K.lookup T43 = none)
    (c43 : PySem.W.codeIn K (.ref cd43) "parting" = true)
    (k43 : PySem.W.keepIn K (.ref f43) = true)
    {f44 : Addr} {od44 an44 : Option Addr} {sl44 : Array (Option Value)} {oc44 kV44 dc44 pm44 ct44 : Value} {cd44 : Value}
    (a44 : PySem.W.nsIn K mainGlobals "are_alike" = some (some (.ref f44)))
    (l44 : K.lookup f44 = some ⟨oc44, od44, .func (PySem.W.fnOf "are_alike" "are_alike" (defArgs s_are_alike) (defBody s_are_alike) (defScope s_are_alike) .none kV44 dc44 pm44 an44 cd44 ct44), sl44⟩)
    (c44 : PySem.W.codeIn K cd44 "are_alike" = true)
    (k44 : PySem.W.keepIn K (.ref f44) = true)
    {f45 : Addr} {od45 an45 : Option Addr} {sl45 : Array (Option Value)} {oc45 kV45 dc45 pm45 ct45 : Value} {cd45 T45 : Addr}
    (a45 : PySem.W.nsIn K mainGlobals "first_more" = some (some (.ref f45)))
    (l45 : K.lookup f45 = some ⟨oc45, od45, .func (PySem.W.fnOf "first_more" "first_more" (defArgs s_first_more) (defBody s_first_more) (defScope s_first_more) .none kV45 dc45 pm45 an45 (.ref cd45) ct45), sl45⟩)
    (tb45 : h.get? T45 = some (PySem.W.tabObj #[]) ∧ PySem.W.codeHdIn K cd45 T45 = true ∧ K.lookup T45 = none)
    (c45 : PySem.W.codeIn K (.ref cd45) "first_more" = true)
    (k45 : PySem.W.keepIn K (.ref f45) = true)
    {f46 : Addr} {od46 an46 : Option Addr} {sl46 : Array (Option Value)} {oc46 kV46 dc46 pm46 ct46 : Value} {cd46 : Value}
    (a46 : PySem.W.nsIn K mainGlobals "_law_town" = some (some (.ref f46)))
    (l46 : K.lookup f46 = some ⟨oc46, od46, .func (PySem.W.fnOf "_law_town" "_law_town" (defArgs s__law_town) (defBody s__law_town) (defScope s__law_town) .none kV46 dc46 pm46 an46 cd46 ct46), sl46⟩)
    (c46 : PySem.W.codeIn K cd46 "_law_town" = true)
    (k46 : PySem.W.keepIn K (.ref f46) = true)
    {f47 : Addr} {od47 an47 : Option Addr} {sl47 : Array (Option Value)} {oc47 kV47 dc47 pm47 ct47 : Value} {cd47 : Value}
    (a47 : PySem.W.nsIn K mainGlobals "_law_draw" = some (some (.ref f47)))
    (l47 : K.lookup f47 = some ⟨oc47, od47, .func (PySem.W.fnOf "_law_draw" "_law_draw" (defArgs s__law_draw) (defBody s__law_draw) (defScope s__law_draw) .none kV47 dc47 pm47 an47 cd47 ct47), sl47⟩)
    (c47 : PySem.W.codeIn K cd47 "_law_draw" = true)
    (k47 : PySem.W.keepIn K (.ref f47) = true)
    {f48 : Addr} {od48 an48 : Option Addr} {sl48 : Array (Option Value)} {oc48 kV48 dc48 pm48 ct48 : Value} {cd48 : Value}
    (a48 : PySem.W.nsIn K mainGlobals "_law_pick" = some (some (.ref f48)))
    (l48 : K.lookup f48 = some ⟨oc48, od48, .func (PySem.W.fnOf "_law_pick" "_law_pick" (defArgs s__law_pick) (defBody s__law_pick) (defScope s__law_pick) .none kV48 dc48 pm48 an48 cd48 ct48), sl48⟩)
    (c48 : PySem.W.codeIn K cd48 "_law_pick" = true)
    (k48 : PySem.W.keepIn K (.ref f48) = true)
    {f49 : Addr} {od49 an49 : Option Addr} {sl49 : Array (Option Value)} {oc49 kV49 dc49 pm49 ct49 : Value} {cd49 : Value}
    (a49 : PySem.W.nsIn K mainGlobals "_law_outcome" = some (some (.ref f49)))
    (l49 : K.lookup f49 = some ⟨oc49, od49, .func (PySem.W.fnOf "_law_outcome" "_law_outcome" (defArgs s__law_outcome) (defBody s__law_outcome) (defScope s__law_outcome) .none kV49 dc49 pm49 an49 cd49 ct49), sl49⟩)
    (c49 : PySem.W.codeIn K cd49 "_law_outcome" = true)
    (k49 : PySem.W.keepIn K (.ref f49) = true)
    {f50 : Addr} {od50 an50 : Option Addr} {sl50 : Array (Option Value)} {oc50 kV50 dc50 pm50 ct50 : Value} {cd50 : Value}
    (a50 : PySem.W.nsIn K mainGlobals "_law_name" = some (some (.ref f50)))
    (l50 : K.lookup f50 = some ⟨oc50, od50, .func (PySem.W.fnOf "_law_name" "_law_name" (defArgs s__law_name) (defBody s__law_name) (defScope s__law_name) .none kV50 dc50 pm50 an50 cd50 ct50), sl50⟩)
    (c50 : PySem.W.codeIn K cd50 "_law_name" = true)
    (k50 : PySem.W.keepIn K (.ref f50) = true)
    {f51 : Addr} {od51 an51 : Option Addr} {sl51 : Array (Option Value)} {oc51 kV51 dc51 pm51 ct51 : Value} {cd51 : Value}
    (a51 : PySem.W.nsIn K mainGlobals "_law_raises" = some (some (.ref f51)))
    (l51 : K.lookup f51 = some ⟨oc51, od51, .func (PySem.W.fnOf "_law_raises" "_law_raises" (defArgs s__law_raises) (defBody s__law_raises) (defScope s__law_raises) .none kV51 dc51 pm51 an51 cd51 ct51), sl51⟩)
    (c51 : PySem.W.codeIn K cd51 "_law_raises" = true)
    (k51 : PySem.W.keepIn K (.ref f51) = true)
    {f52 : Addr} {od52 an52 : Option Addr} {sl52 : Array (Option Value)} {oc52 kV52 dc52 pm52 ct52 : Value} {cd52 : Value}
    (a52 : PySem.W.nsIn K mainGlobals "_law_store" = some (some (.ref f52)))
    (l52 : K.lookup f52 = some ⟨oc52, od52, .func (PySem.W.fnOf "_law_store" "_law_store" (defArgs s__law_store) (defBody s__law_store) (defScope s__law_store) .none kV52 dc52 pm52 an52 cd52 ct52), sl52⟩)
    (c52 : PySem.W.codeIn K cd52 "_law_store" = true)
    (k52 : PySem.W.keepIn K (.ref f52) = true)
    {f53 : Addr} {od53 an53 : Option Addr} {sl53 : Array (Option Value)} {oc53 kV53 dc53 pm53 ct53 : Value} {cd53 : Value}
    (a53 : PySem.W.nsIn K mainGlobals "_law_bounds" = some (some (.ref f53)))
    (l53 : K.lookup f53 = some ⟨oc53, od53, .func (PySem.W.fnOf "_law_bounds" "_law_bounds" (defArgs s__law_bounds) (defBody s__law_bounds) (defScope s__law_bounds) .none kV53 dc53 pm53 an53 cd53 ct53), sl53⟩)
    (c53 : PySem.W.codeIn K cd53 "_law_bounds" = true)
    (k53 : PySem.W.keepIn K (.ref f53) = true)
    {f54 : Addr} {od54 an54 : Option Addr} {sl54 : Array (Option Value)} {oc54 kV54 dc54 pm54 ct54 : Value} {cd54 : Value}
    (a54 : PySem.W.nsIn K mainGlobals "_law_call" = some (some (.ref f54)))
    (l54 : K.lookup f54 = some ⟨oc54, od54, .func (PySem.W.fnOf "_law_call" "_law_call" (defArgs s__law_call) (defBody s__law_call) (defScope s__law_call) .none kV54 dc54 pm54 an54 cd54 ct54), sl54⟩)
    (c54 : PySem.W.codeIn K cd54 "_law_call" = true)
    (k54 : PySem.W.keepIn K (.ref f54) = true)
    {f55 : Addr} {od55 an55 : Option Addr} {sl55 : Array (Option Value)} {oc55 kV55 dc55 pm55 ct55 : Value} {cd55 : Value}
    (a55 : PySem.W.nsIn K mainGlobals "_law_bad_stores" = some (some (.ref f55)))
    (l55 : K.lookup f55 = some ⟨oc55, od55, .func (PySem.W.fnOf "_law_bad_stores" "_law_bad_stores" (defArgs s__law_bad_stores) (defBody s__law_bad_stores) (defScope s__law_bad_stores) .none kV55 dc55 pm55 an55 cd55 ct55), sl55⟩)
    (c55 : PySem.W.codeIn K cd55 "_law_bad_stores" = true)
    (k55 : PySem.W.keepIn K (.ref f55) = true)
    {f56 : Addr} {od56 an56 : Option Addr} {sl56 : Array (Option Value)} {oc56 kV56 dc56 pm56 ct56 : Value} {cd56 : Value}
    (a56 : PySem.W.nsIn K mainGlobals "_law_others_raise" = some (some (.ref f56)))
    (l56 : K.lookup f56 = some ⟨oc56, od56, .func (PySem.W.fnOf "_law_others_raise" "_law_others_raise" (defArgs s__law_others_raise) (defBody s__law_others_raise) (defScope s__law_others_raise) .none kV56 dc56 pm56 an56 cd56 ct56), sl56⟩)
    (c56 : PySem.W.codeIn K cd56 "_law_others_raise" = true)
    (k56 : PySem.W.keepIn K (.ref f56) = true)
    {f57 : Addr} {od57 an57 : Option Addr} {sl57 : Array (Option Value)} {oc57 kV57 dc57 pm57 ct57 : Value} {cd57 : Value}
    (a57 : PySem.W.nsIn K mainGlobals "law" = some (some (.ref f57)))
    (l57 : K.lookup f57 = some ⟨oc57, od57, .func (PySem.W.fnOf "law" "law" (defArgs s_law) (defBody s_law) (defScope s_law) .none kV57 dc57 pm57 an57 cd57 ct57), sl57⟩)
    (c57 : PySem.W.codeIn K cd57 "law" = true)
    (k57 : PySem.W.keepIn K (.ref f57) = true)
    (tn43_45 : T43 ≠ T45)
    {E0 : Addr} (ea0 : PySem.W.nsIn K mainGlobals "InvalidStore" = some (some (.ref E0))) (eq0 : PySem.W.excIn K E0 [.type "ValueError", .type "Exception", .type "BaseException", .type "object"] "ValueError.__new__" = true) (ek0 : PySem.W.keepIn K (.ref E0) = true) (eb0 : PySem.W.subIn K (.ref E0) (.type "BaseException") = some true) (et0 : PySem.W.typeIn K (.ref E0) = some (.type "type"))
    {E1 : Addr} (ea1 : PySem.W.nsIn K mainGlobals "InvalidStart" = some (some (.ref E1))) (eq1 : PySem.W.excIn K E1 [.type "ValueError", .type "Exception", .type "BaseException", .type "object"] "ValueError.__new__" = true) (ek1 : PySem.W.keepIn K (.ref E1) = true) (eb1 : PySem.W.subIn K (.ref E1) (.type "BaseException") = some true) (et1 : PySem.W.typeIn K (.ref E1) = some (.type "type"))
    {E2 : Addr} (ea2 : PySem.W.nsIn K mainGlobals "InvalidBounds" = some (some (.ref E2))) (eq2 : PySem.W.excIn K E2 [.type "ValueError", .type "Exception", .type "BaseException", .type "object"] "ValueError.__new__" = true) (ek2 : PySem.W.keepIn K (.ref E2) = true) (eb2 : PySem.W.subIn K (.ref E2) (.type "BaseException") = some true) (et2 : PySem.W.typeIn K (.ref E2) = some (.type "type"))
    {E3 : Addr} (ea3 : PySem.W.nsIn K mainGlobals "InvalidDemands" = some (some (.ref E3))) (eq3 : PySem.W.excIn K E3 [.type "ValueError", .type "Exception", .type "BaseException", .type "object"] "ValueError.__new__" = true) (ek3 : PySem.W.keepIn K (.ref E3) = true) (eb3 : PySem.W.subIn K (.ref E3) (.type "BaseException") = some true) (et3 : PySem.W.typeIn K (.ref E3) = some (.type "type"))
    {E4 : Addr} (ea4 : PySem.W.nsIn K mainGlobals "InvalidPosition" = some (some (.ref E4))) (eq4 : PySem.W.excIn K E4 [.type "ValueError", .type "Exception", .type "BaseException", .type "object"] "ValueError.__new__" = true) (ek4 : PySem.W.keepIn K (.ref E4) = true) (eb4 : PySem.W.subIn K (.ref E4) (.type "BaseException") = some true) (et4 : PySem.W.typeIn K (.ref E4) = some (.type "type"))
    {E5 : Addr} (ea5 : PySem.W.nsIn K mainGlobals "InvalidDays" = some (some (.ref E5))) (eq5 : PySem.W.excIn K E5 [.type "ValueError", .type "Exception", .type "BaseException", .type "object"] "ValueError.__new__" = true) (ek5 : PySem.W.keepIn K (.ref E5) = true) (eb5 : PySem.W.subIn K (.ref E5) (.type "BaseException") = some true) (et5 : PySem.W.typeIn K (.ref E5) = some (.type "type"))
    {G6 : Addr}
    (ga6 : PySem.W.nsIn K mainGlobals "InvalidDemand" = some (some (.ref G6)))
    {G7 : Addr}
    (ga7 : PySem.W.nsIn K mainGlobals "InvalidText" = some (some (.ref G7)))
    {G8 : Addr}
    (ga8 : PySem.W.nsIn K mainGlobals "TooLong" = some (some (.ref G8)))
    {G9 : Addr}
    (ga9 : PySem.W.nsIn K mainGlobals "NothingToUndo" = some (some (.ref G9)))
    {SE : Addr}
    (sE : PySem.W.nsIn K mainGlobals "StockError" = some (some (.ref SE)))
    (vE : PySem.W.nsIn K mainGlobals "ValueError" = some none)
    (xn : PySem.W.specialIn K (.builtin "object.__class__") "__get__" = some (some (.builtin "getset_descriptor.__get__")))
    (xt : PySem.W.takesIn K (.builtin "object.__class__") = some true)
    (xg0 : PySem.W.findIn K (.ref E0) "__getattribute__" = some (some (.builtin "BaseException.__getattribute__")))
    (xk0 : PySem.W.findIn K (.ref E0) "__getattr__" = some none)
    (xs0 : PySem.W.subIn K (.ref E0) (.type "BaseException") = some true)
    (xd0 : PySem.W.hasDictIn K E0 = true)
    (xa0 : PySem.W.findIn K (.ref E0) "__class__" = some (some (.builtin "object.__class__")))
    (xm0 : PySem.W.mroIn K E0 (.type "object") = some true)
    (xv0 : PySem.W.subIn K (.ref E0) (.type "ValueError") = some true)
    (xx0 : PySem.W.subIn K (.ref E0) (.ref SE) = some true)
    (x_0_0 : PySem.W.subIn K (.ref E0) (.ref E0) = some true)
    (x_0_1 : PySem.W.subIn K (.ref E0) (.ref E1) = some false)
    (x_0_2 : PySem.W.subIn K (.ref E0) (.ref E2) = some false)
    (x_0_3 : PySem.W.subIn K (.ref E0) (.ref E3) = some false)
    (x_0_4 : PySem.W.subIn K (.ref E0) (.ref E4) = some false)
    (x_0_5 : PySem.W.subIn K (.ref E0) (.ref E5) = some false)
    (x_0_6 : PySem.W.subIn K (.ref E0) (.ref G6) = some false)
    (x_0_7 : PySem.W.subIn K (.ref E0) (.ref G7) = some false)
    (x_0_8 : PySem.W.subIn K (.ref E0) (.ref G8) = some false)
    (x_0_9 : PySem.W.subIn K (.ref E0) (.ref G9) = some false)
    (xg1 : PySem.W.findIn K (.ref E1) "__getattribute__" = some (some (.builtin "BaseException.__getattribute__")))
    (xk1 : PySem.W.findIn K (.ref E1) "__getattr__" = some none)
    (xs1 : PySem.W.subIn K (.ref E1) (.type "BaseException") = some true)
    (xd1 : PySem.W.hasDictIn K E1 = true)
    (xa1 : PySem.W.findIn K (.ref E1) "__class__" = some (some (.builtin "object.__class__")))
    (xm1 : PySem.W.mroIn K E1 (.type "object") = some true)
    (xv1 : PySem.W.subIn K (.ref E1) (.type "ValueError") = some true)
    (xx1 : PySem.W.subIn K (.ref E1) (.ref SE) = some true)
    (x_1_0 : PySem.W.subIn K (.ref E1) (.ref E0) = some false)
    (x_1_1 : PySem.W.subIn K (.ref E1) (.ref E1) = some true)
    (x_1_2 : PySem.W.subIn K (.ref E1) (.ref E2) = some false)
    (x_1_3 : PySem.W.subIn K (.ref E1) (.ref E3) = some false)
    (x_1_4 : PySem.W.subIn K (.ref E1) (.ref E4) = some false)
    (x_1_5 : PySem.W.subIn K (.ref E1) (.ref E5) = some false)
    (x_1_6 : PySem.W.subIn K (.ref E1) (.ref G6) = some false)
    (x_1_7 : PySem.W.subIn K (.ref E1) (.ref G7) = some false)
    (x_1_8 : PySem.W.subIn K (.ref E1) (.ref G8) = some false)
    (x_1_9 : PySem.W.subIn K (.ref E1) (.ref G9) = some false)
    (xg2 : PySem.W.findIn K (.ref E2) "__getattribute__" = some (some (.builtin "BaseException.__getattribute__")))
    (xk2 : PySem.W.findIn K (.ref E2) "__getattr__" = some none)
    (xs2 : PySem.W.subIn K (.ref E2) (.type "BaseException") = some true)
    (xd2 : PySem.W.hasDictIn K E2 = true)
    (xa2 : PySem.W.findIn K (.ref E2) "__class__" = some (some (.builtin "object.__class__")))
    (xm2 : PySem.W.mroIn K E2 (.type "object") = some true)
    (xv2 : PySem.W.subIn K (.ref E2) (.type "ValueError") = some true)
    (xx2 : PySem.W.subIn K (.ref E2) (.ref SE) = some true)
    (x_2_0 : PySem.W.subIn K (.ref E2) (.ref E0) = some false)
    (x_2_1 : PySem.W.subIn K (.ref E2) (.ref E1) = some false)
    (x_2_2 : PySem.W.subIn K (.ref E2) (.ref E2) = some true)
    (x_2_3 : PySem.W.subIn K (.ref E2) (.ref E3) = some false)
    (x_2_4 : PySem.W.subIn K (.ref E2) (.ref E4) = some false)
    (x_2_5 : PySem.W.subIn K (.ref E2) (.ref E5) = some false)
    (x_2_6 : PySem.W.subIn K (.ref E2) (.ref G6) = some false)
    (x_2_7 : PySem.W.subIn K (.ref E2) (.ref G7) = some false)
    (x_2_8 : PySem.W.subIn K (.ref E2) (.ref G8) = some false)
    (x_2_9 : PySem.W.subIn K (.ref E2) (.ref G9) = some false)
    (xg3 : PySem.W.findIn K (.ref E3) "__getattribute__" = some (some (.builtin "BaseException.__getattribute__")))
    (xk3 : PySem.W.findIn K (.ref E3) "__getattr__" = some none)
    (xs3 : PySem.W.subIn K (.ref E3) (.type "BaseException") = some true)
    (xd3 : PySem.W.hasDictIn K E3 = true)
    (xa3 : PySem.W.findIn K (.ref E3) "__class__" = some (some (.builtin "object.__class__")))
    (xm3 : PySem.W.mroIn K E3 (.type "object") = some true)
    (xv3 : PySem.W.subIn K (.ref E3) (.type "ValueError") = some true)
    (xx3 : PySem.W.subIn K (.ref E3) (.ref SE) = some true)
    (x_3_0 : PySem.W.subIn K (.ref E3) (.ref E0) = some false)
    (x_3_1 : PySem.W.subIn K (.ref E3) (.ref E1) = some false)
    (x_3_2 : PySem.W.subIn K (.ref E3) (.ref E2) = some false)
    (x_3_3 : PySem.W.subIn K (.ref E3) (.ref E3) = some true)
    (x_3_4 : PySem.W.subIn K (.ref E3) (.ref E4) = some false)
    (x_3_5 : PySem.W.subIn K (.ref E3) (.ref E5) = some false)
    (x_3_6 : PySem.W.subIn K (.ref E3) (.ref G6) = some false)
    (x_3_7 : PySem.W.subIn K (.ref E3) (.ref G7) = some false)
    (x_3_8 : PySem.W.subIn K (.ref E3) (.ref G8) = some false)
    (x_3_9 : PySem.W.subIn K (.ref E3) (.ref G9) = some false)
    (xg4 : PySem.W.findIn K (.ref E4) "__getattribute__" = some (some (.builtin "BaseException.__getattribute__")))
    (xk4 : PySem.W.findIn K (.ref E4) "__getattr__" = some none)
    (xs4 : PySem.W.subIn K (.ref E4) (.type "BaseException") = some true)
    (xd4 : PySem.W.hasDictIn K E4 = true)
    (xa4 : PySem.W.findIn K (.ref E4) "__class__" = some (some (.builtin "object.__class__")))
    (xm4 : PySem.W.mroIn K E4 (.type "object") = some true)
    (xv4 : PySem.W.subIn K (.ref E4) (.type "ValueError") = some true)
    (xx4 : PySem.W.subIn K (.ref E4) (.ref SE) = some true)
    (x_4_0 : PySem.W.subIn K (.ref E4) (.ref E0) = some false)
    (x_4_1 : PySem.W.subIn K (.ref E4) (.ref E1) = some false)
    (x_4_2 : PySem.W.subIn K (.ref E4) (.ref E2) = some false)
    (x_4_3 : PySem.W.subIn K (.ref E4) (.ref E3) = some false)
    (x_4_4 : PySem.W.subIn K (.ref E4) (.ref E4) = some true)
    (x_4_5 : PySem.W.subIn K (.ref E4) (.ref E5) = some false)
    (x_4_6 : PySem.W.subIn K (.ref E4) (.ref G6) = some false)
    (x_4_7 : PySem.W.subIn K (.ref E4) (.ref G7) = some false)
    (x_4_8 : PySem.W.subIn K (.ref E4) (.ref G8) = some false)
    (x_4_9 : PySem.W.subIn K (.ref E4) (.ref G9) = some false)
    (xg5 : PySem.W.findIn K (.ref E5) "__getattribute__" = some (some (.builtin "BaseException.__getattribute__")))
    (xk5 : PySem.W.findIn K (.ref E5) "__getattr__" = some none)
    (xs5 : PySem.W.subIn K (.ref E5) (.type "BaseException") = some true)
    (xd5 : PySem.W.hasDictIn K E5 = true)
    (xa5 : PySem.W.findIn K (.ref E5) "__class__" = some (some (.builtin "object.__class__")))
    (xm5 : PySem.W.mroIn K E5 (.type "object") = some true)
    (xv5 : PySem.W.subIn K (.ref E5) (.type "ValueError") = some true)
    (xx5 : PySem.W.subIn K (.ref E5) (.ref SE) = some true)
    (x_5_0 : PySem.W.subIn K (.ref E5) (.ref E0) = some false)
    (x_5_1 : PySem.W.subIn K (.ref E5) (.ref E1) = some false)
    (x_5_2 : PySem.W.subIn K (.ref E5) (.ref E2) = some false)
    (x_5_3 : PySem.W.subIn K (.ref E5) (.ref E3) = some false)
    (x_5_4 : PySem.W.subIn K (.ref E5) (.ref E4) = some false)
    (x_5_5 : PySem.W.subIn K (.ref E5) (.ref E5) = some true)
    (x_5_6 : PySem.W.subIn K (.ref E5) (.ref G6) = some false)
    (x_5_7 : PySem.W.subIn K (.ref E5) (.ref G7) = some false)
    (x_5_8 : PySem.W.subIn K (.ref E5) (.ref G8) = some false)
    (x_5_9 : PySem.W.subIn K (.ref E5) (.ref G9) = some false)
    (yd0 : PySem.W.hasDictIn K E0 = true)
    (yt0 : PySem.W.typeIn K (.ref E0) = some (.type "type"))
    (yd1 : PySem.W.hasDictIn K E1 = true)
    (yt1 : PySem.W.typeIn K (.ref E1) = some (.type "type"))
    (yd2 : PySem.W.hasDictIn K E2 = true)
    (yt2 : PySem.W.typeIn K (.ref E2) = some (.type "type"))
    (yd3 : PySem.W.hasDictIn K E3 = true)
    (yt3 : PySem.W.typeIn K (.ref E3) = some (.type "type"))
    (yd4 : PySem.W.hasDictIn K E4 = true)
    (yt4 : PySem.W.typeIn K (.ref E4) = some (.type "type"))
    (yd5 : PySem.W.hasDictIn K E5 = true)
    (yt5 : PySem.W.typeIn K (.ref E5) = some (.type "type"))
    (yd6 : PySem.W.hasDictIn K G6 = true)
    (yt6 : PySem.W.typeIn K (.ref G6) = some (.type "type"))
    (yd7 : PySem.W.hasDictIn K G7 = true)
    (yt7 : PySem.W.typeIn K (.ref G7) = some (.type "type"))
    (yd8 : PySem.W.hasDictIn K G8 = true)
    (yt8 : PySem.W.typeIn K (.ref G8) = some (.type "type"))
    (yd9 : PySem.W.hasDictIn K G9 = true)
    (yt9 : PySem.W.typeIn K (.ref G9) = some (.type "type"))
    (yb : PySem.W.subIn K (.ref SE) (.type "BaseException") = some true)
    (ydS : PySem.W.hasDictIn K SE = true)
    (ytS : PySem.W.typeIn K (.ref SE) = some (.type "type"))
    (z_isinstance : PySem.W.nsIn K mainGlobals "isinstance" = some none)
    (z_int : PySem.W.nsIn K mainGlobals "int" = some none)
    (z_bool : PySem.W.nsIn K mainGlobals "bool" = some none)
    (z_str : PySem.W.nsIn K mainGlobals "str" = some none)
    (z_tuple : PySem.W.nsIn K mainGlobals "tuple" = some none)
    (z_list : PySem.W.nsIn K mainGlobals "list" = some none)
    (z_len : PySem.W.nsIn K mainGlobals "len" = some none)
    (z_min : PySem.W.nsIn K mainGlobals "min" = some none)
    (z_max : PySem.W.nsIn K mainGlobals "max" = some none)
    (z_sum : PySem.W.nsIn K mainGlobals "sum" = some none)
    (z_all : PySem.W.nsIn K mainGlobals "all" = some none)
    (z_range : PySem.W.nsIn K mainGlobals "range" = some none)
    (z_set : PySem.W.nsIn K mainGlobals "set" = some none)
    : LamX.LawAtS l w K (L2.CX l.prog w) 10 63 "script" mg fa h := by
  have e := hfa.symm.trans (PySem.W.mg_of X G a57)
  cases e
  have B : Bi mg := ⟨PySem.W.mg_none_of X G z_isinstance, PySem.W.mg_none_of X G z_int, PySem.W.mg_none_of X G z_bool, PySem.W.mg_none_of X G z_str, PySem.W.mg_none_of X G z_tuple, PySem.W.mg_none_of X G z_list, PySem.W.mg_none_of X G z_len, PySem.W.mg_none_of X G z_min, PySem.W.mg_none_of X G z_max, PySem.W.mg_none_of X G z_sum, PySem.W.mg_none_of X G z_all, PySem.W.mg_none_of X G z_range, PySem.W.mg_none_of X G z_set⟩
  have F_is_between := fun_mk (st := s_is_between) l0 c0 k0
  have m_is_between := PySem.W.mg_of X G a0
  have b_is_between := F_is_between.binds (ps := ["value", "low", "high"]) fun _ _ _ _ _ _ us hl => match us, hl with | [_, _, _], _ => rfl
  have F_is_store := fun_mk (st := s_is_store) l1 c1 k1
  have m_is_store := PySem.W.mg_of X G a1
  have b_is_store := F_is_store.binds (ps := ["value"]) fun _ _ _ _ _ _ us hl => match us, hl with | [_], _ => rfl
  have F_is_bounds := fun_mk (st := s_is_bounds) l2 c2 k2
  have m_is_bounds := PySem.W.mg_of X G a2
  have b_is_bounds := F_is_bounds.binds (ps := ["value"]) fun _ _ _ _ _ _ us hl => match us, hl with | [_], _ => rfl
  have F_check_store := fun_mk (st := s_check_store) l3 c3 k3
  have m_check_store := PySem.W.mg_of X G a3
  have b_check_store := F_check_store.binds (ps := ["value"]) fun _ _ _ _ _ _ us hl => match us, hl with | [_], _ => rfl
  have F_check_start := fun_mk (st := s_check_start) l4 c4 k4
  have m_check_start := PySem.W.mg_of X G a4
  have b_check_start := F_check_start.binds (ps := ["store", "start"]) fun _ _ _ _ _ _ us hl => match us, hl with | [_, _], _ => rfl
  have F_check_bounds := fun_mk (st := s_check_bounds) l5 c5 k5
  have m_check_bounds := PySem.W.mg_of X G a5
  have b_check_bounds := F_check_bounds.binds (ps := ["value"]) fun _ _ _ _ _ _ us hl => match us, hl with | [_], _ => rfl
  have F_amount_for := fun_mk (st := s_amount_for) l6 c6 k6
  have m_amount_for := PySem.W.mg_of X G a6
  have b_amount_for := F_amount_for.binds (ps := ["store", "position"]) fun _ _ _ _ _ _ us hl => match us, hl with | [_, _], _ => rfl
  have F_order_for := fun_mk (st := s_order_for) l7 c7 k7
  have m_order_for := PySem.W.mg_of X G a7
  have b_order_for := F_order_for.binds (ps := ["store", "position"]) fun _ _ _ _ _ _ us hl => match us, hl with | [_, _], _ => rfl
  have F_with_order := fun_mk (st := s_with_order) l8 c8 k8
  have m_with_order := PySem.W.mg_of X G a8
  have b_with_order := F_with_order.binds (ps := ["store", "stock", "coming"]) fun _ _ _ _ _ _ us hl => match us, hl with | [_, _, _], _ => rfl
  have F_begun := fun_mk (st := s_begun) l9 c9 k9
  have m_begun := PySem.W.mg_of X G a9
  have b_begun := F_begun.binds (ps := ["store", "start"]) fun _ _ _ _ _ _ us hl => match us, hl with | [_, _], _ => rfl
  have F_first_situation := fun_mk (st := s_first_situation) l10 c10 k10
  have m_first_situation := PySem.W.mg_of X G a10
  have b_first_situation := F_first_situation.binds (ps := ["store", "start"]) fun _ _ _ _ _ _ us hl => match us, hl with | [_, _], _ => rfl
  have F_next_day := fun_mk (st := s_next_day) l11 c11 k11
  have m_next_day := PySem.W.mg_of X G a11
  have b_next_day := F_next_day.binds (ps := ["store", "situation", "demand"]) fun _ _ _ _ _ _ us hl => match us, hl with | [_, _, _], _ => rfl
  have F_check_demands := fun_mk (st := s_check_demands) l12 c12 k12
  have m_check_demands := PySem.W.mg_of X G a12
  have b_check_demands := F_check_demands.binds (ps := ["demands"]) fun _ _ _ _ _ _ us hl => match us, hl with | [_], _ => rfl
  have F_check_run := fun_mk (st := s_check_run) l13 c13 k13
  have m_check_run := PySem.W.mg_of X G a13
  have b_check_run := F_check_run.binds (ps := ["store", "start", "demands"]) fun _ _ _ _ _ _ us hl => match us, hl with | [_, _, _], _ => rfl
  have F_days_of := fun_mk (st := s_days_of) l14 c14 k14
  have m_days_of := PySem.W.mg_of X G a14
  have b_days_of := F_days_of.binds (ps := ["store", "start", "demands"]) fun _ _ _ _ _ _ us hl => match us, hl with | [_, _, _], _ => rfl
  have F_run := fun_mk (st := s_run) l15 c15 k15
  have m_run := PySem.W.mg_of X G a15
  have b_run := F_run.binds (ps := ["store", "start", "demands"]) fun _ _ _ _ _ _ us hl => match us, hl with | [_, _, _], _ => rfl
  have F_situation_after := fun_mk (st := s_situation_after) l16 c16 k16
  have m_situation_after := PySem.W.mg_of X G a16
  have b_situation_after := F_situation_after.binds (ps := ["store", "start", "demands"]) fun _ _ _ _ _ _ us hl => match us, hl with | [_, _, _], _ => rfl
  have F_sums_of := fun_mk (st := s_sums_of) l17 c17 k17
  have m_sums_of := PySem.W.mg_of X G a17
  have b_sums_of := F_sums_of.binds (ps := ["store", "start", "demands"]) fun _ _ _ _ _ _ us hl => match us, hl with | [_, _, _], _ => rfl
  have F_totals := fun_mk (st := s_totals) l18 c18 k18
  have m_totals := PySem.W.mg_of X G a18
  have b_totals := F_totals.binds (ps := ["store", "start", "demands"]) fun _ _ _ _ _ _ us hl => match us, hl with | [_, _, _], _ => rfl
  have F_check_three := fun_mk (st := s_check_three) l19 c19 k19
  have m_check_three := PySem.W.mg_of X G a19
  have b_check_three := F_check_three.binds (ps := ["store", "start", "bounds"]) fun _ _ _ _ _ _ us hl => match us, hl with | [_, _, _], _ => rfl
  have F_allowed := fun_mk (st := s_allowed) l20 c20 k20
  have m_allowed := PySem.W.mg_of X G a20
  have b_allowed := F_allowed.binds (ps := ["bounds", "recent"]) fun _ _ _ _ _ _ us hl => match us, hl with | [_, _], _ => rfl
  have F_after := fun_mk (st := s_after) l21 c21 k21
  have m_after := PySem.W.mg_of X G a21
  have b_after := F_after.binds (ps := ["bounds", "recent", "demand"]) fun _ _ _ _ _ _ us hl => match us, hl with | [_, _, _], _ => rfl
  have F_first_node := fun_mk (st := s_first_node) l22 c22 k22
  have m_first_node := PySem.W.mg_of X G a22
  have b_first_node := F_first_node.binds (ps := ["store", "start"]) fun _ _ _ _ _ _ us hl => match us, hl with | [_, _], _ => rfl
  have F_steps_from := fun_mk (st := s_steps_from) l23 c23 k23
  have m_steps_from := PySem.W.mg_of X G a23
  have b_steps_from := F_steps_from.binds (ps := ["store", "bounds", "node"]) fun _ _ _ _ _ _ us hl => match us, hl with | [_, _, _], _ => rfl
  have F_all_nodes := fun_mk (st := s_all_nodes) l24 c24 k24
  have m_all_nodes := PySem.W.mg_of X G a24
  have b_all_nodes := F_all_nodes.binds (ps := ["store", "start", "bounds"]) fun _ _ _ _ _ _ us hl => match us, hl with | [_, _, _], _ => rfl
  have F_first_with := fun_mk (st := s_first_with) l25 c25 k25
  have m_first_with := PySem.W.mg_of X G a25
  have b_first_with := F_first_with.binds (ps := ["store", "start", "bounds", "place"]) fun _ _ _ _ _ _ us hl => match us, hl with | [_, _, _, _], _ => rfl
  have F_first_short := fun_mk (st := s_first_short) l26 c26 k26
  have m_first_short := PySem.W.mg_of X G a26
  have b_first_short := F_first_short.binds (ps := ["store", "start", "bounds"]) fun _ _ _ _ _ _ us hl => match us, hl with | [_, _, _], _ => rfl
  have F_first_spill := fun_mk (st := s_first_spill) l27 c27 k27
  have m_first_spill := PySem.W.mg_of X G a27
  have b_first_spill := F_first_spill.binds (ps := ["store", "start", "bounds"]) fun _ _ _ _ _ _ us hl => match us, hl with | [_, _, _], _ => rfl
  have F_is_safe := fun_mk (st := s_is_safe) l28 c28 k28
  have m_is_safe := PySem.W.mg_of X G a28
  have b_is_safe := F_is_safe.binds (ps := ["store", "start", "bounds"]) fun _ _ _ _ _ _ us hl => match us, hl with | [_, _, _], _ => rfl
  have F_extreme := fun_mk (st := s_extreme) l29 c29 k29
  have m_extreme := PySem.W.mg_of X G a29
  have b_extreme := F_extreme.binds (ps := ["store", "start", "bounds", "sign"]) fun _ _ _ _ _ _ us hl => match us, hl with | [_, _, _, _], _ => rfl
  have F_highest := fun_mk (st := s_highest) l30 c30 k30
  have m_highest := PySem.W.mg_of X G a30
  have b_highest := F_highest.binds (ps := ["store", "start", "bounds"]) fun _ _ _ _ _ _ us hl => match us, hl with | [_, _, _], _ => rfl
  have F_lowest := fun_mk (st := s_lowest) l31 c31 k31
  have m_lowest := PySem.W.mg_of X G a31
  have b_lowest := F_lowest.binds (ps := ["store", "start", "bounds"]) fun _ _ _ _ _ _ us hl => match us, hl with | [_, _, _], _ => rfl
  have F_count_situations := fun_mk (st := s_count_situations) l32 c32 k32
  have m_count_situations := PySem.W.mg_of X G a32
  have b_count_situations := F_count_situations.binds (ps := ["store", "start", "bounds"]) fun _ _ _ _ _ _ us hl => match us, hl with | [_, _, _], _ => rfl
  have F_least_level := fun_mk (st := s_least_level) l33 c33 k33
  have m_least_level := PySem.W.mg_of X G a33
  have b_least_level := F_least_level.binds (ps := ["store", "start", "bounds"]) fun _ _ _ _ _ _ us hl => match us, hl with | [_, _, _], _ => rfl
  have F_found_starts := fun_mk (st := s_found_starts) l34 c34 k34
  have m_found_starts := PySem.W.mg_of X G a34
  have b_found_starts := F_found_starts.binds (ps := ["store", "bounds"]) fun _ _ _ _ _ _ us hl => match us, hl with | [_, _], _ => rfl
  have F_least_start := fun_mk (st := s_least_start) l35 c35 k35
  have m_least_start := PySem.W.mg_of X G a35
  have b_least_start := F_least_start.binds (ps := ["store", "bounds"]) fun _ _ _ _ _ _ us hl => match us, hl with | [_, _], _ => rfl
  have F_safe_starts := fun_mk (st := s_safe_starts) l36 c36 k36
  have m_safe_starts := PySem.W.mg_of X G a36
  have b_safe_starts := F_safe_starts.binds (ps := ["store", "bounds"]) fun _ _ _ _ _ _ us hl => match us, hl with | [_, _], _ => rfl
  have F_greatest_sum := fun_mk (st := s_greatest_sum) l37 c37 k37
  have m_greatest_sum := PySem.W.mg_of X G a37
  have b_greatest_sum := F_greatest_sum.binds (ps := ["store", "start", "bounds", "days", "place", "sign"]) fun _ _ _ _ _ _ us hl => match us, hl with | [_, _, _, _, _, _], _ => rfl
  have F_most_missed := fun_mk (st := s_most_missed) l38 c38 k38
  have m_most_missed := PySem.W.mg_of X G a38
  have b_most_missed := F_most_missed.binds (ps := ["store", "start", "bounds", "days"]) fun _ _ _ _ _ _ us hl => match us, hl with | [_, _, _, _], _ => rfl
  have F_most_ordered := fun_mk (st := s_most_ordered) l39 c39 k39
  have m_most_ordered := PySem.W.mg_of X G a39
  have b_most_ordered := F_most_ordered.binds (ps := ["store", "start", "bounds", "days"]) fun _ _ _ _ _ _ us hl => match us, hl with | [_, _, _, _], _ => rfl
  have F_fewest_ordered := fun_mk (st := s_fewest_ordered) l40 c40 k40
  have m_fewest_ordered := PySem.W.mg_of X G a40
  have b_fewest_ordered := F_fewest_ordered.binds (ps := ["store", "start", "bounds", "days"]) fun _ _ _ _ _ _ us hl => match us, hl with | [_, _, _, _], _ => rfl
  have F_most_spilled := fun_mk (st := s_most_spilled) l41 c41 k41
  have m_most_spilled := PySem.W.mg_of X G a41
  have b_most_spilled := F_most_spilled.binds (ps := ["store", "start", "bounds", "days"]) fun _ _ _ _ _ _ us hl => match us, hl with | [_, _, _, _], _ => rfl
  have F_first_apart := fun_mk (st := s_first_apart) l42 c42 k42
  have m_first_apart := PySem.W.mg_of X G a42
  have b_first_apart := F_first_apart.binds (ps := ["one", "other", "start", "bounds", "is_wanted"]) fun _ _ _ _ _ _ us hl => match us, hl with | [_, _, _, _, _], _ => rfl
  have F_parting := fun_mk (st := s_parting) l43 c43 k43
  have m_parting := PySem.W.mg_of X G a43
  have b_parting := F_parting.binds (ps := ["one", "other", "start", "bounds"]) fun _ _ _ _ _ _ us hl => match us, hl with | [_, _, _, _], _ => rfl
  have F_are_alike := fun_mk (st := s_are_alike) l44 c44 k44
  have m_are_alike := PySem.W.mg_of X G a44
  have b_are_alike := F_are_alike.binds (ps := ["one", "other", "start", "bounds"]) fun _ _ _ _ _ _ us hl => match us, hl with | [_, _, _, _], _ => rfl
  have F_first_more := fun_mk (st := s_first_more) l45 c45 k45
  have m_first_more := PySem.W.mg_of X G a45
  have b_first_more := F_first_more.binds (ps := ["one", "other", "start", "bounds"]) fun _ _ _ _ _ _ us hl => match us, hl with | [_, _, _, _], _ => rfl
  have F__law_town := fun_mk (st := s__law_town) l46 c46 k46
  have m__law_town := PySem.W.mg_of X G a46
  have b__law_town := F__law_town.binds (ps := ["script"]) fun _ _ _ _ _ _ us hl => match us, hl with | [_], _ => rfl
  have F__law_draw := fun_mk (st := s__law_draw) l47 c47 k47
  have m__law_draw := PySem.W.mg_of X G a47
  have b__law_draw := F__law_draw.binds (ps := ["script", "town", "limit"]) fun _ _ _ _ _ _ us hl => match us, hl with | [_, _, _], _ => rfl
  have F__law_pick := fun_mk (st := s__law_pick) l48 c48 k48
  have m__law_pick := PySem.W.mg_of X G a48
  have b__law_pick := F__law_pick.binds (ps := ["script", "town", "choices"]) fun _ _ _ _ _ _ us hl => match us, hl with | [_, _, _], _ => rfl
  have F__law_outcome := fun_mk (st := s__law_outcome) l49 c49 k49
  have m__law_outcome := PySem.W.mg_of X G a49
  have b__law_outcome := F__law_outcome.binds (ps := ["way", "arguments"]) fun _ _ _ _ _ _ us hl => match us, hl with | [_, _], _ => rfl
  have F__law_name := fun_mk (st := s__law_name) l50 c50 k50
  have m__law_name := PySem.W.mg_of X G a50
  have b__law_name := F__law_name.binds (ps := ["caught"]) fun _ _ _ _ _ _ us hl => match us, hl with | [_], _ => rfl
  have F__law_raises := fun_mk (st := s__law_raises) l51 c51 k51
  have m__law_raises := PySem.W.mg_of X G a51
  have b__law_raises := F__law_raises.binds (ps := ["name"]) fun _ _ _ _ _ _ us hl => match us, hl with | [_], _ => rfl
  have F__law_store := fun_mk (st := s__law_store) l52 c52 k52
  have m__law_store := PySem.W.mg_of X G a52
  have b__law_store := F__law_store.binds (ps := ["script", "town", "room"]) fun _ _ _ _ _ _ us hl => match us, hl with | [_, _, _], _ => rfl
  have F__law_bounds := fun_mk (st := s__law_bounds) l53 c53 k53
  have m__law_bounds := PySem.W.mg_of X G a53
  have b__law_bounds := F__law_bounds.binds (ps := ["script", "town", "most"]) fun _ _ _ _ _ _ us hl => match us, hl with | [_, _, _], _ => rfl
  have F__law_call := fun_mk (st := s__law_call) l54 c54 k54
  have m__law_call := PySem.W.mg_of X G a54
  have b__law_call := F__law_call.binds (ps := ["way", "arguments"]) fun _ _ _ _ _ _ us hl => match us, hl with | [_, _], _ => rfl
  have F__law_bad_stores := fun_mk (st := s__law_bad_stores) l55 c55 k55
  have m__law_bad_stores := PySem.W.mg_of X G a55
  have b__law_bad_stores := F__law_bad_stores.binds (ps := []) fun _ _ _ _ _ _ us hl => match us, hl with | [], _ => rfl
  have F__law_others_raise := fun_mk (st := s__law_others_raise) l56 c56 k56
  have m__law_others_raise := PySem.W.mg_of X G a56
  have b__law_others_raise := F__law_others_raise.binds (ps := ["store", "bounds", "wrongs"]) fun _ _ _ _ _ _ us hl => match us, hl with | [_, _, _], _ => rfl
  have F_law := fun_mk (st := s_law) l57 c57 k57
  have m_law := PySem.W.mg_of X G a57
  have b_law := F_law.binds (ps := ["script"]) fun _ _ _ _ _ _ us hl => match us, hl with | [_], _ => rfl
  have Fm : Fam K mg (csOf E0 E1 E2 E3 E4 E5 G6 G7 G8 G9) SE RX := by
    refine ⟨PySem.W.mg_of X G ea0, PySem.W.mg_of X G ea1, PySem.W.mg_of X G ea2, PySem.W.mg_of X G ea3, PySem.W.mg_of X G ea4, PySem.W.mg_of X G ea5, PySem.W.mg_of X G ga6, PySem.W.mg_of X G ga7, PySem.W.mg_of X G ga8, PySem.W.mg_of X G ga9, PySem.W.mg_of X G sE, PySem.W.mg_none_of X G vE, ?_, ?_, ?_, ?_⟩
    · rintro i (rfl | rfl | rfl | rfl | rfl | rfl)
      · exact (⟨xg0, xk0, xs0, xd0, xa0, xn, xt, xm0⟩ : ExcC K E0)
      · exact (⟨xg1, xk1, xs1, xd1, xa1, xn, xt, xm1⟩ : ExcC K E1)
      · exact (⟨xg2, xk2, xs2, xd2, xa2, xn, xt, xm2⟩ : ExcC K E2)
      · exact (⟨xg3, xk3, xs3, xd3, xa3, xn, xt, xm3⟩ : ExcC K E3)
      · exact (⟨xg4, xk4, xs4, xd4, xa4, xn, xt, xm4⟩ : ExcC K E4)
      · exact (⟨xg5, xk5, xs5, xd5, xa5, xn, xt, xm5⟩ : ExcC K E5)
    · rintro i (rfl | rfl | rfl | rfl | rfl | rfl) j
      · match j with
        | 0 => exact kit_same K _
        | 1 => exact kit_no x_0_0 x_0_1 yd1 yt1
        | 2 => exact kit_no x_0_0 x_0_2 yd2 yt2
        | 3 => exact kit_no x_0_0 x_0_3 yd3 yt3
        | 4 => exact kit_no x_0_0 x_0_4 yd4 yt4
        | 5 => exact kit_no x_0_0 x_0_5 yd5 yt5
        | 6 => exact kit_no x_0_0 x_0_6 yd6 yt6
        | 7 => exact kit_no x_0_0 x_0_7 yd7 yt7
        | 8 => exact kit_no x_0_0 x_0_8 yd8 yt8
        | 9 => exact kit_no x_0_0 x_0_9 yd9 yt9
      · match j with
        | 0 => exact kit_no x_1_1 x_1_0 yd0 yt0
        | 1 => exact kit_same K _
        | 2 => exact kit_no x_1_1 x_1_2 yd2 yt2
        | 3 => exact kit_no x_1_1 x_1_3 yd3 yt3
        | 4 => exact kit_no x_1_1 x_1_4 yd4 yt4
        | 5 => exact kit_no x_1_1 x_1_5 yd5 yt5
        | 6 => exact kit_no x_1_1 x_1_6 yd6 yt6
        | 7 => exact kit_no x_1_1 x_1_7 yd7 yt7
        | 8 => exact kit_no x_1_1 x_1_8 yd8 yt8
        | 9 => exact kit_no x_1_1 x_1_9 yd9 yt9
      · match j with
        | 0 => exact kit_no x_2_2 x_2_0 yd0 yt0
        | 1 => exact kit_no x_2_2 x_2_1 yd1 yt1
        | 2 => exact kit_same K _
        | 3 => exact kit_no x_2_2 x_2_3 yd3 yt3
        | 4 => exact kit_no x_2_2 x_2_4 yd4 yt4
        | 5 => exact kit_no x_2_2 x_2_5 yd5 yt5
        | 6 => exact kit_no x_2_2 x_2_6 yd6 yt6
        | 7 => exact kit_no x_2_2 x_2_7 yd7 yt7
        | 8 => exact kit_no x_2_2 x_2_8 yd8 yt8
        | 9 => exact kit_no x_2_2 x_2_9 yd9 yt9
      · match j with
        | 0 => exact kit_no x_3_3 x_3_0 yd0 yt0
        | 1 => exact kit_no x_3_3 x_3_1 yd1 yt1
        | 2 => exact kit_no x_3_3 x_3_2 yd2 yt2
        | 3 => exact kit_same K _
        | 4 => exact kit_no x_3_3 x_3_4 yd4 yt4
        | 5 => exact kit_no x_3_3 x_3_5 yd5 yt5
        | 6 => exact kit_no x_3_3 x_3_6 yd6 yt6
        | 7 => exact kit_no x_3_3 x_3_7 yd7 yt7
        | 8 => exact kit_no x_3_3 x_3_8 yd8 yt8
        | 9 => exact kit_no x_3_3 x_3_9 yd9 yt9
      · match j with
        | 0 => exact kit_no x_4_4 x_4_0 yd0 yt0
        | 1 => exact kit_no x_4_4 x_4_1 yd1 yt1
        | 2 => exact kit_no x_4_4 x_4_2 yd2 yt2
        | 3 => exact kit_no x_4_4 x_4_3 yd3 yt3
        | 4 => exact kit_same K _
        | 5 => exact kit_no x_4_4 x_4_5 yd5 yt5
        | 6 => exact kit_no x_4_4 x_4_6 yd6 yt6
        | 7 => exact kit_no x_4_4 x_4_7 yd7 yt7
        | 8 => exact kit_no x_4_4 x_4_8 yd8 yt8
        | 9 => exact kit_no x_4_4 x_4_9 yd9 yt9
      · match j with
        | 0 => exact kit_no x_5_5 x_5_0 yd0 yt0
        | 1 => exact kit_no x_5_5 x_5_1 yd1 yt1
        | 2 => exact kit_no x_5_5 x_5_2 yd2 yt2
        | 3 => exact kit_no x_5_5 x_5_3 yd3 yt3
        | 4 => exact kit_no x_5_5 x_5_4 yd4 yt4
        | 5 => exact kit_same K _
        | 6 => exact kit_no x_5_5 x_5_6 yd6 yt6
        | 7 => exact kit_no x_5_5 x_5_7 yd7 yt7
        | 8 => exact kit_no x_5_5 x_5_8 yd8 yt8
        | 9 => exact kit_no x_5_5 x_5_9 yd9 yt9
    · rintro i (rfl | rfl | rfl | rfl | rfl | rfl)
      · exact kit_ve xv0
      · exact kit_ve xv1
      · exact kit_ve xv2
      · exact kit_ve xv3
      · exact kit_ve xv4
      · exact kit_ve xv5
    · rintro i (rfl | rfl | rfl | rfl | rfl | rfl)
      · exact PySem.W.exm_ref yb ydS ytS xx0
      · exact PySem.W.exm_ref yb ydS ytS xx1
      · exact PySem.W.exm_ref yb ydS ytS xx2
      · exact PySem.W.exm_ref yb ydS ytS xx3
      · exact PySem.W.exm_ref yb ydS ytS xx4
      · exact PySem.W.exm_ref yb ydS ytS xx5
  have X_InvalidStore : ExC K mg "InvalidStore" E0 := ⟨eq0, PySem.W.mg_of X G ea0, ek0, eb0, et0⟩
  have X_InvalidStart : ExC K mg "InvalidStart" E1 := ⟨eq1, PySem.W.mg_of X G ea1, ek1, eb1, et1⟩
  have X_InvalidBounds : ExC K mg "InvalidBounds" E2 := ⟨eq2, PySem.W.mg_of X G ea2, ek2, eb2, et2⟩
  have X_InvalidDemands : ExC K mg "InvalidDemands" E3 := ⟨eq3, PySem.W.mg_of X G ea3, ek3, eb3, et3⟩
  have X_InvalidPosition : ExC K mg "InvalidPosition" E4 := ⟨eq4, PySem.W.mg_of X G ea4, ek4, eb4, et4⟩
  have X_InvalidDays : ExC K mg "InvalidDays" E5 := ⟨eq5, PySem.W.mg_of X G ea5, ek5, eb5, et5⟩
  have hcs1 : ∀ p ∈ ([(cd43, T43), (cd45, T45)] : List (Addr × Addr)), h.get? p.2 = some { cls := .none, data := .fields #[] } := fun p hp => by
    simp only [List.mem_cons, List.not_mem_nil, or_false] at hp
    rcases hp with rfl | rfl
    · exact tb43.1
    · exact tb45.1
  have hcs2 : ∀ p ∈ ([(cd43, T43), (cd45, T45)] : List (Addr × Addr)), K.lookup p.2 = none := fun p hp => by
    simp only [List.mem_cons, List.not_mem_nil, or_false] at hp
    rcases hp with rfl | rfl
    · exact tb43.2.2
    · exact tb45.2.2
  have hcs3 : ∀ p ∈ ([(cd43, T43), (cd45, T45)] : List (Addr × Addr)), PySem.W.CodeHd h p.1 p.2 := fun p hp => by
    simp only [List.mem_cons, List.not_mem_nil, or_false] at hp
    rcases hp with rfl | rfl
    · exact PySem.W.codeHd_of_K X tb43.2.1
    · exact PySem.W.codeHd_of_K X tb45.2.1
  have hts : ∀ p ∈ ([(T43, qLam "parting"), (T45, qLam "first_more")] : List (Addr × Str)), tabW [(T43, qLam "parting"), (T45, qLam "first_more")] p.1 = some (.tab p.2) := fun p hp => by
    simp only [List.mem_cons, List.not_mem_nil, or_false] at hp
    rcases hp with rfl | rfl
    · simp [tabW, tn43_45, Ne.symm tn43_45]
    · simp [tabW, tn43_45, Ne.symm tn43_45]
  refine ⟨PySem.W.fnOf "law" "law" (defArgs s_law) (defBody s_law) (defScope s_law) .none kV57 dc57 pm57 an57 cd57 ct57, [(cd43, T43), (cd45, T45)], SpD K (S_lawT2 [(T43, qLam "parting"), (T45, qLam "first_more")]), hcs1, hcs2, hcs3, fun s v => .of_eq rfl, fun H a ns hl _ hH hS => law_sp hl ?_ hts hS, fun base _ _ TBs => ?_⟩
  · intro p hp
    simp only [List.mem_cons, List.not_mem_nil, or_false] at hp
    rcases hp with rfl | rfl
    · exact hH (cd43, T43) (by simp)
    · exact hH (cd45, T45) (by simp)
  have hcd_parting := (rfl : (PySem.W.fnOf "parting" "parting" (defArgs s_parting) (defBody s_parting) (defScope s_parting) .none kV43 dc43 pm43 an43 (.ref cd43) ct43).code = .ref cd43)
  have TB_parting := TBs (cd43, T43) (by simp)
  have hcd_first_more := (rfl : (PySem.W.fnOf "first_more" "first_more" (defArgs s_first_more) (defBody s_first_more) (defScope s_first_more) .none kV45 dc45 pm45 an45 (.ref cd45) ct45).code = .ref cd45)
  have TB_first_more := TBs (cd45, T45) (by simp)
  have C_is_between := ok_is_between (P := l.prog) (w := w) (base := base) B F_is_between m_is_between b_is_between
  have C_is_bounds := ok_is_bounds B C_is_between F_is_bounds m_is_bounds b_is_bounds
  have C_is_store := ok_is_store B C_is_between F_is_store m_is_store b_is_store
  have C_check_store := ok_check_store X_InvalidStore C_is_store F_check_store m_check_store b_check_store
  have C_check_start := ok_check_start X_InvalidStart C_is_between F_check_start m_check_start b_check_start
  have C_check_bounds := ok_check_bounds X_InvalidBounds C_is_bounds F_check_bounds m_check_bounds b_check_bounds
  have C_amount_for := ok_amount_for (P := l.prog) (w := w) (base := base) F_amount_for m_amount_for b_amount_for
  have C_with_order := ok_with_order B C_amount_for F_with_order m_with_order b_with_order
  have C_begun := ok_begun C_with_order F_begun m_begun b_begun
  have C_next_day := ok_next_day B C_with_order F_next_day m_next_day b_next_day
  have C_allowed := ok_allowed (P := l.prog) (w := w) (base := base) B F_allowed m_allowed b_allowed
  have C_after := ok_after (P := l.prog) (w := w) (base := base) F_after m_after b_after
  have C_first_node := ok_first_node C_begun F_first_node m_first_node b_first_node
  have C_steps_from := ok_steps_from C_allowed C_next_day C_after F_steps_from m_steps_from b_steps_from
  have C_all_nodes := ok_all_nodes C_first_node C_steps_from F_all_nodes m_all_nodes b_all_nodes
  have C_check_three := ok_check_three C_check_store C_check_start C_check_bounds F_check_three m_check_three b_check_three
  have C_first_with := ok_first_with B C_all_nodes C_steps_from F_first_with m_first_with b_first_with
  have C_greatest_sum := ok_greatest_sum B C_is_between C_check_three C_first_node C_steps_from F_greatest_sum m_greatest_sum b_greatest_sum
  have C_most_spilled := ok_most_spilled C_greatest_sum F_most_spilled m_most_spilled b_most_spilled
  have C_check_demands := ok_check_demands B X_InvalidDemands C_is_between F_check_demands m_check_demands b_check_demands
  have C_check_run := ok_check_run C_check_store C_check_start C_check_demands F_check_run m_check_run b_check_run
  have C_days_of := ok_days_of C_begun C_next_day F_days_of m_days_of b_days_of
  have C_run := ok_run B C_check_run C_days_of F_run m_run b_run
  have C_situation_after := ok_situation_after C_check_run C_days_of F_situation_after m_situation_after b_situation_after
  have C_sums_of := ok_sums_of B C_days_of F_sums_of m_sums_of b_sums_of
  have C_totals := ok_totals C_check_run C_sums_of F_totals m_totals b_totals
  have C_check_threeX := ok_check_threeX C_check_store C_check_start C_check_bounds F_check_three m_check_three b_check_three
  have C_first_shortX := ok_first_shortX C_check_threeX F_first_short m_first_short b_first_short
  have C_first_spillX := ok_first_spillX C_check_threeX F_first_spill m_first_spill b_first_spill
  have C_is_safeX := ok_is_safeX C_check_threeX F_is_safe m_is_safe b_is_safe
  have C_count_situationsX := ok_count_situationsX C_check_threeX F_count_situations m_count_situations b_count_situations
  have C_least_levelX := ok_least_levelX C_check_threeX F_least_level m_least_level b_least_level
  have C_extremeX := ok_extremeX C_check_threeX F_extreme m_extreme b_extreme
  have C_highestX := ok_highestX C_extremeX F_highest m_highest b_highest
  have C_lowestX := ok_lowestX C_extremeX F_lowest m_lowest b_lowest
  have C_found_startsX := ok_found_startsX C_check_store C_check_bounds F_found_starts m_found_starts b_found_starts
  have C_least_startX := ok_least_startX C_found_startsX F_least_start m_least_start b_least_start
  have C_safe_startsX := ok_safe_startsX B C_found_startsX F_safe_starts m_safe_starts b_safe_starts
  have C_greatest_sumX := ok_greatest_sumX X_InvalidDays C_is_between C_check_threeX F_greatest_sum m_greatest_sum b_greatest_sum
  have C_most_missedX := ok_most_missedX C_greatest_sumX F_most_missed m_most_missed b_most_missed
  have C_most_orderedX := ok_most_orderedX C_greatest_sumX F_most_ordered m_most_ordered b_most_ordered
  have C_most_spilledX := ok_most_spilledX C_greatest_sumX F_most_spilled m_most_spilled b_most_spilled
  have C_fewest_orderedX := ok_fewest_orderedX C_greatest_sumX F_fewest_ordered m_fewest_ordered b_fewest_ordered
  have C_order_forX := ok_order_forX X_InvalidPosition C_check_store C_is_between C_amount_for F_order_for m_order_for b_order_for
  have C_first_situationX := ok_first_situationX C_check_store C_check_start F_first_situation m_first_situation b_first_situation
  have C__law_town := ok_law_town (P := l.prog) (w := w) (base := base) B F__law_town m__law_town b__law_town
  have C__law_draw := ok_law_draw (P := l.prog) (w := w) (base := base) B F__law_draw m__law_draw b__law_draw
  have C__law_pick := ok_law_pick B C__law_draw F__law_pick m__law_pick b__law_pick
  have C__law_store := ok_law_store C__law_draw F__law_store m__law_store b__law_store
  have C__law_bounds := ok_law_bounds B C__law_draw C__law_pick F__law_bounds m__law_bounds b__law_bounds
  have C__law_bad_stores := ok_law_bad_stores (P := l.prog) (w := w) (base := base) F__law_bad_stores m__law_bad_stores b__law_bad_stores
  have C__law_name := ok_law_name (P := l.prog) (w := w) (base := base) B Fm F__law_name m__law_name b__law_name
  have C__law_raises := ok_law_raises (P := l.prog) (w := w) (base := base) F__law_raises m__law_raises b__law_raises
  have C_first_apart := ok_first_apart C_check_store C_check_start C_check_bounds C_begun C_allowed C_next_day C_after F_first_apart m_first_apart b_first_apart
  have C_parting := ok_parting hcd_parting TB_parting C_first_apart F_parting m_parting b_parting
  have C_are_alike := ok_are_alike C_parting F_are_alike m_are_alike b_are_alike
  have C_first_more := ok_first_more hcd_first_more TB_first_more C_first_apart F_first_more m_first_more b_first_more
  have C__law_call := ok_law_call C_order_forX C_first_situationX C_run C_situation_after C_totals C_first_shortX C_first_spillX C_highestX C_lowestX C_count_situationsX C_least_levelX C_is_safeX C_least_startX C_safe_startsX C_most_missedX C_most_orderedX C_fewest_orderedX C_most_spilledX C_parting C_are_alike C_first_more F__law_call m__law_call b__law_call
  have C__law_outcome := ok_law_outcome Fm C__law_call C__law_name F__law_outcome m__law_outcome b__law_outcome
  have C__law_others_raise := ok_law_others_raise B Fm C__law_outcome C__law_raises C_order_forX C_run C_most_spilled F__law_others_raise m__law_others_raise b__law_others_raise
  exact ok_law B Fm C__law_town C__law_draw C__law_pick C__law_store C__law_bounds C_is_store C_is_bounds C__law_bad_stores C__law_outcome C__law_raises C__law_others_raise F_law
theorem walk {l : PySem.W.OpenLaw} {q : Program} {loose : List Str} {XP : (Str → Option Value) → Heap → Prop} {YP : World → Heap → Prop} {d : DefRec} {K : Params → PySem.W.Frag} (hn : l.most = some 63) (hdf : d.params.defaults = [])
    (hY : ∀ (w : World) (h : Heap), YP w h → (K w.params).In h)
    (F : ∀ (w : World) (mg : Str → Option Value) (fa : Addr) (h : Heap), YP w h → (K w.params).In h → h.Ns mainGlobals mg → mg d.name = some (.ref fa) → LamX.LawAtS l w (K w.params) (L2.CX l.prog w) 10 63 "script" mg fa h) :
    PySem.W.WalkO q loose XP YP l.row.toRowW d [] (fun f vs => PySem.call f vs) :=
  LamX.walk_ofTs (n := 63) (k := 10) (x := "script") (CX := fun w => L2.CX l.prog w) hn (by decide) hdf ⟨rfl, by decide, by decide⟩ hY F
    fun w H s e s' h => by
      obtain ⟨_, _, _, _, _, _, _, _, _, _, _, _, z⟩ := h
      exact z.elim
end Law
open PySem PySem.W PyProof.Rows
set_option maxRecDepth 100000 in
set_option maxHeartbeats 0 in
theorem PySem.Challenge.cw_stockrules_k01_argument_ends_holds : PySem.Challenge.rw_stockrules_k01_argument_ends.Holds := by
  w_on; o_law; k_head; (case hw => w_witness2)
  k_fill
  refine Law.walk (l := PySem.Challenge.rw_stockrules_k01_argument_ends) rfl rfl (fun w h Y => PySem.W.km_in_of Y) ?F
  case F =>
    intro w mg fa h Y KX G hmg
    refine' Law.all_mk KX G hmg ?a0 ?l0 ?c0 ?k0 ?a1 ?l1 ?c1 ?k1 ?a2 ?l2 ?c2 ?k2 ?a3 ?l3 ?c3 ?k3 ?a4 ?l4 ?c4 ?k4 ?a5 ?l5 ?c5 ?k5 ?a6 ?l6 ?c6 ?k6 ?a7 ?l7 ?c7 ?k7 ?a8 ?l8 ?c8 ?k8 ?a9 ?l9 ?c9 ?k9 ?a10 ?l10 ?c10 ?k10 ?a11 ?l11 ?c11 ?k11 ?a12 ?l12 ?c12 ?k12 ?a13 ?l13 ?c13 ?k13 ?a14 ?l14 ?c14 ?k14 ?a15 ?l15 ?c15 ?k15 ?a16 ?l16 ?c16 ?k16 ?a17 ?l17 ?c17 ?k17 ?a18 ?l18 ?c18 ?k18 ?a19 ?l19 ?c19 ?k19 ?a20 ?l20 ?c20 ?k20 ?a21 ?l21 ?c21 ?k21 ?a22 ?l22 ?c22 ?k22 ?a23 ?l23 ?c23 ?k23 ?a24 ?l24 ?c24 ?k24 ?a25 ?l25 ?c25 ?k25 ?a26 ?l26 ?c26 ?k26 ?a27 ?l27 ?c27 ?k27 ?a28 ?l28 ?c28 ?k28 ?a29 ?l29 ?c29 ?k29 ?a30 ?l30 ?c30 ?k30 ?a31 ?l31 ?c31 ?k31 ?a32 ?l32 ?c32 ?k32 ?a33 ?l33 ?c33 ?k33 ?a34 ?l34 ?c34 ?k34 ?a35 ?l35 ?c35 ?k35 ?a36 ?l36 ?c36 ?k36 ?a37 ?l37 ?c37 ?k37 ?a38 ?l38 ?c38 ?k38 ?a39 ?l39 ?c39 ?k39 ?a40 ?l40 ?c40 ?k40 ?a41 ?l41 ?c41 ?k41 ?a42 ?l42 ?c42 ?k42 ?a43 ?l43 ?tb43 ?c43 ?k43 ?a44 ?l44 ?c44 ?k44 ?a45 ?l45 ?tb45 ?c45 ?k45 ?a46 ?l46 ?c46 ?k46 ?a47 ?l47 ?c47 ?k47 ?a48 ?l48 ?c48 ?k48 ?a49 ?l49 ?c49 ?k49 ?a50 ?l50 ?c50 ?k50 ?a51 ?l51 ?c51 ?k51 ?a52 ?l52 ?c52 ?k52 ?a53 ?l53 ?c53 ?k53 ?a54 ?l54 ?c54 ?k54 ?a55 ?l55 ?c55 ?k55 ?a56 ?l56 ?c56 ?k56 ?a57 ?l57 ?c57 ?k57 ?tn43_45 ?ea0 ?eq0 ?ek0 ?eb0 ?et0 ?ea1 ?eq1 ?ek1 ?eb1 ?et1 ?ea2 ?eq2 ?ek2 ?eb2 ?et2 ?ea3 ?eq3 ?ek3 ?eb3 ?et3 ?ea4 ?eq4 ?ek4 ?eb4 ?et4 ?ea5 ?eq5 ?ek5 ?eb5 ?et5 ?ga6 ?ga7 ?ga8 ?ga9 ?sE ?vE ?xn ?xt ?xg0 ?xk0 ?xs0 ?xd0 ?xa0 ?xm0 ?xv0 ?xx0 ?x_0_0 ?x_0_1 ?x_0_2 ?x_0_3 ?x_0_4 ?x_0_5 ?x_0_6 ?x_0_7 ?x_0_8 ?x_0_9 ?xg1 ?xk1 ?xs1 ?xd1 ?xa1 ?xm1 ?xv1 ?xx1 ?x_1_0 ?x_1_1 ?x_1_2 ?x_1_3 ?x_1_4 ?x_1_5 ?x_1_6 ?x_1_7 ?x_1_8 ?x_1_9 ?xg2 ?xk2 ?xs2 ?xd2 ?xa2 ?xm2 ?xv2 ?xx2 ?x_2_0 ?x_2_1 ?x_2_2 ?x_2_3 ?x_2_4 ?x_2_5 ?x_2_6 ?x_2_7 ?x_2_8 ?x_2_9 ?xg3 ?xk3 ?xs3 ?xd3 ?xa3 ?xm3 ?xv3 ?xx3 ?x_3_0 ?x_3_1 ?x_3_2 ?x_3_3 ?x_3_4 ?x_3_5 ?x_3_6 ?x_3_7 ?x_3_8 ?x_3_9 ?xg4 ?xk4 ?xs4 ?xd4 ?xa4 ?xm4 ?xv4 ?xx4 ?x_4_0 ?x_4_1 ?x_4_2 ?x_4_3 ?x_4_4 ?x_4_5 ?x_4_6 ?x_4_7 ?x_4_8 ?x_4_9 ?xg5 ?xk5 ?xs5 ?xd5 ?xa5 ?xm5 ?xv5 ?xx5 ?x_5_0 ?x_5_1 ?x_5_2 ?x_5_3 ?x_5_4 ?x_5_5 ?x_5_6 ?x_5_7 ?x_5_8 ?x_5_9 ?yd0 ?yt0 ?yd1 ?yt1 ?yd2 ?yt2 ?yd3 ?yt3 ?yd4 ?yt4 ?yd5 ?yt5 ?yd6 ?yt6 ?yd7 ?yt7 ?yd8 ?yt8 ?yd9 ?yt9 ?yb ?ydS ?ytS ?z_isinstance ?z_int ?z_bool ?z_str ?z_tuple ?z_list ?z_len ?z_min ?z_max ?z_sum ?z_all ?z_range ?z_set
    (case a0 => k_is)
    (case l0 => k_is)
    (case c0 => k_is)
    (case k0 => k_is)
    (case a1 => k_is)
    (case l1 => k_is)
    (case c1 => k_is)
    (case k1 => k_is)
    (case a2 => k_is)
    (case l2 => k_is)
    (case c2 => k_is)
    (case k2 => k_is)
    (case a3 => k_is)
    (case l3 => k_is)
    (case c3 => k_is)
    (case k3 => k_is)
    (case a4 => k_is)
    (case l4 => k_is)
    (case c4 => k_is)
    (case k4 => k_is)
    (case a5 => k_is)
    (case l5 => k_is)
    (case c5 => k_is)
    (case k5 => k_is)
    (case a6 => k_is)
    (case l6 => k_is)
    (case c6 => k_is)
    (case k6 => k_is)
    (case a7 => k_is)
    (case l7 => k_is)
    (case c7 => k_is)
    (case k7 => k_is)
    (case a8 => k_is)
    (case l8 => k_is)
    (case c8 => k_is)
    (case k8 => k_is)
    (case a9 => k_is)
    (case l9 => k_is)
    (case c9 => k_is)
    (case k9 => k_is)
    (case a10 => k_is)
    (case l10 => k_is)
    (case c10 => k_is)
    (case k10 => k_is)
    (case a11 => k_is)
    (case l11 => k_is)
    (case c11 => k_is)
    (case k11 => k_is)
    (case a12 => k_is)
    (case l12 => k_is)
    (case c12 => k_is)
    (case k12 => k_is)
    (case a13 => k_is)
    (case l13 => k_is)
    (case c13 => k_is)
    (case k13 => k_is)
    (case a14 => k_is)
    (case l14 => k_is)
    (case c14 => k_is)
    (case k14 => k_is)
    (case a15 => k_is)
    (case l15 => k_is)
    (case c15 => k_is)
    (case k15 => k_is)
    (case a16 => k_is)
    (case l16 => k_is)
    (case c16 => k_is)
    (case k16 => k_is)
    (case a17 => k_is)
    (case l17 => k_is)
    (case c17 => k_is)
    (case k17 => k_is)
    (case a18 => k_is)
    (case l18 => k_is)
    (case c18 => k_is)
    (case k18 => k_is)
    (case a19 => k_is)
    (case l19 => k_is)
    (case c19 => k_is)
    (case k19 => k_is)
    (case a20 => k_is)
    (case l20 => k_is)
    (case c20 => k_is)
    (case k20 => k_is)
    (case a21 => k_is)
    (case l21 => k_is)
    (case c21 => k_is)
    (case k21 => k_is)
    (case a22 => k_is)
    (case l22 => k_is)
    (case c22 => k_is)
    (case k22 => k_is)
    (case a23 => k_is)
    (case l23 => k_is)
    (case c23 => k_is)
    (case k23 => k_is)
    (case a24 => k_is)
    (case l24 => k_is)
    (case c24 => k_is)
    (case k24 => k_is)
    (case a25 => k_is)
    (case l25 => k_is)
    (case c25 => k_is)
    (case k25 => k_is)
    (case a26 => k_is)
    (case l26 => k_is)
    (case c26 => k_is)
    (case k26 => k_is)
    (case a27 => k_is)
    (case l27 => k_is)
    (case c27 => k_is)
    (case k27 => k_is)
    (case a28 => k_is)
    (case l28 => k_is)
    (case c28 => k_is)
    (case k28 => k_is)
    (case a29 => k_is)
    (case l29 => k_is)
    (case c29 => k_is)
    (case k29 => k_is)
    (case a30 => k_is)
    (case l30 => k_is)
    (case c30 => k_is)
    (case k30 => k_is)
    (case a31 => k_is)
    (case l31 => k_is)
    (case c31 => k_is)
    (case k31 => k_is)
    (case a32 => k_is)
    (case l32 => k_is)
    (case c32 => k_is)
    (case k32 => k_is)
    (case a33 => k_is)
    (case l33 => k_is)
    (case c33 => k_is)
    (case k33 => k_is)
    (case a34 => k_is)
    (case l34 => k_is)
    (case c34 => k_is)
    (case k34 => k_is)
    (case a35 => k_is)
    (case l35 => k_is)
    (case c35 => k_is)
    (case k35 => k_is)
    (case a36 => k_is)
    (case l36 => k_is)
    (case c36 => k_is)
    (case k36 => k_is)
    (case a37 => k_is)
    (case l37 => k_is)
    (case c37 => k_is)
    (case k37 => k_is)
    (case a38 => k_is)
    (case l38 => k_is)
    (case c38 => k_is)
    (case k38 => k_is)
    (case a39 => k_is)
    (case l39 => k_is)
    (case c39 => k_is)
    (case k39 => k_is)
    (case a40 => k_is)
    (case l40 => k_is)
    (case c40 => k_is)
    (case k40 => k_is)
    (case a41 => k_is)
    (case l41 => k_is)
    (case c41 => k_is)
    (case k41 => k_is)
    (case a42 => k_is)
    (case l42 => k_is)
    (case c42 => k_is)
    (case k42 => k_is)
    (case a43 => k_is)
    (case l43 => k_is)
    (case tb43 => exact ⟨PySem.W.km_tabs_of Y _ (.tail _ (.head _)), by kernel_rfl, by kernel_rfl⟩)
    (case c43 => k_is)
    (case k43 => k_is)
    (case a44 => k_is)
    (case l44 => k_is)
    (case c44 => k_is)
    (case k44 => k_is)
    (case a45 => k_is)
    (case l45 => k_is)
    (case tb45 => exact ⟨PySem.W.km_tabs_of Y _ (.head _), by kernel_rfl, by kernel_rfl⟩)
    (case c45 => k_is)
    (case k45 => k_is)
    (case a46 => k_is)
    (case l46 => k_is)
    (case c46 => k_is)
    (case k46 => k_is)
    (case a47 => k_is)
    (case l47 => k_is)
    (case c47 => k_is)
    (case k47 => k_is)
    (case a48 => k_is)
    (case l48 => k_is)
    (case c48 => k_is)
    (case k48 => k_is)
    (case a49 => k_is)
    (case l49 => k_is)
    (case c49 => k_is)
    (case k49 => k_is)
    (case a50 => k_is)
    (case l50 => k_is)
    (case c50 => k_is)
    (case k50 => k_is)
    (case a51 => k_is)
    (case l51 => k_is)
    (case c51 => k_is)
    (case k51 => k_is)
    (case a52 => k_is)
    (case l52 => k_is)
    (case c52 => k_is)
    (case k52 => k_is)
    (case a53 => k_is)
    (case l53 => k_is)
    (case c53 => k_is)
    (case k53 => k_is)
    (case a54 => k_is)
    (case l54 => k_is)
    (case c54 => k_is)
    (case k54 => k_is)
    (case a55 => k_is)
    (case l55 => k_is)
    (case c55 => k_is)
    (case k55 => k_is)
    (case a56 => k_is)
    (case l56 => k_is)
    (case c56 => k_is)
    (case k56 => k_is)
    (case a57 => k_is)
    (case l57 => k_is)
    (case c57 => k_is)
    (case k57 => k_is)
    (case tn43_45 => decide)
    (case ea0 => k_is)
    (case eq0 => k_exc)
    (case ek0 => k_is)
    (case eb0 => k_is)
    (case et0 => k_is)
    (case ea1 => k_is)
    (case eq1 => k_exc)
    (case ek1 => k_is)
    (case eb1 => k_is)
    (case et1 => k_is)
    (case ea2 => k_is)
    (case eq2 => k_exc)
    (case ek2 => k_is)
    (case eb2 => k_is)
    (case et2 => k_is)
    (case ea3 => k_is)
    (case eq3 => k_exc)
    (case ek3 => k_is)
    (case eb3 => k_is)
    (case et3 => k_is)
    (case ea4 => k_is)
    (case eq4 => k_exc)
    (case ek4 => k_is)
    (case eb4 => k_is)
    (case et4 => k_is)
    (case ea5 => k_is)
    (case eq5 => k_exc)
    (case ek5 => k_is)
    (case eb5 => k_is)
    (case et5 => k_is)
    (case ga6 => k_is)
    (case ga7 => k_is)
    (case ga8 => k_is)
    (case ga9 => k_is)
    (case sE => k_is)
    (case vE => k_is)
    (case xn => k_is)
    (case xt => k_is)
    (case xg0 => k_is)
    (case xk0 => k_is)
    (case xs0 => k_is)
    (case xd0 => k_is)
    (case xa0 => k_is)
    (case xm0 => k_is)
    (case xv0 => k_is)
    (case xx0 => k_is)
    (case x_0_0 => k_is)
    (case x_0_1 => k_is)
    (case x_0_2 => k_is)
    (case x_0_3 => k_is)
    (case x_0_4 => k_is)
    (case x_0_5 => k_is)
    (case x_0_6 => k_is)
    (case x_0_7 => k_is)
    (case x_0_8 => k_is)
    (case x_0_9 => k_is)
    (case xg1 => k_is)
    (case xk1 => k_is)
    (case xs1 => k_is)
    (case xd1 => k_is)
    (case xa1 => k_is)
    (case xm1 => k_is)
    (case xv1 => k_is)
    (case xx1 => k_is)
    (case x_1_0 => k_is)
    (case x_1_1 => k_is)
    (case x_1_2 => k_is)
    (case x_1_3 => k_is)
    (case x_1_4 => k_is)
    (case x_1_5 => k_is)
    (case x_1_6 => k_is)
    (case x_1_7 => k_is)
    (case x_1_8 => k_is)
    (case x_1_9 => k_is)
    (case xg2 => k_is)
    (case xk2 => k_is)
    (case xs2 => k_is)
    (case xd2 => k_is)
    (case xa2 => k_is)
    (case xm2 => k_is)
    (case xv2 => k_is)
    (case xx2 => k_is)
    (case x_2_0 => k_is)
    (case x_2_1 => k_is)
    (case x_2_2 => k_is)
    (case x_2_3 => k_is)
    (case x_2_4 => k_is)
    (case x_2_5 => k_is)
    (case x_2_6 => k_is)
    (case x_2_7 => k_is)
    (case x_2_8 => k_is)
    (case x_2_9 => k_is)
    (case xg3 => k_is)
    (case xk3 => k_is)
    (case xs3 => k_is)
    (case xd3 => k_is)
    (case xa3 => k_is)
    (case xm3 => k_is)
    (case xv3 => k_is)
    (case xx3 => k_is)
    (case x_3_0 => k_is)
    (case x_3_1 => k_is)
    (case x_3_2 => k_is)
    (case x_3_3 => k_is)
    (case x_3_4 => k_is)
    (case x_3_5 => k_is)
    (case x_3_6 => k_is)
    (case x_3_7 => k_is)
    (case x_3_8 => k_is)
    (case x_3_9 => k_is)
    (case xg4 => k_is)
    (case xk4 => k_is)
    (case xs4 => k_is)
    (case xd4 => k_is)
    (case xa4 => k_is)
    (case xm4 => k_is)
    (case xv4 => k_is)
    (case xx4 => k_is)
    (case x_4_0 => k_is)
    (case x_4_1 => k_is)
    (case x_4_2 => k_is)
    (case x_4_3 => k_is)
    (case x_4_4 => k_is)
    (case x_4_5 => k_is)
    (case x_4_6 => k_is)
    (case x_4_7 => k_is)
    (case x_4_8 => k_is)
    (case x_4_9 => k_is)
    (case xg5 => k_is)
    (case xk5 => k_is)
    (case xs5 => k_is)
    (case xd5 => k_is)
    (case xa5 => k_is)
    (case xm5 => k_is)
    (case xv5 => k_is)
    (case xx5 => k_is)
    (case x_5_0 => k_is)
    (case x_5_1 => k_is)
    (case x_5_2 => k_is)
    (case x_5_3 => k_is)
    (case x_5_4 => k_is)
    (case x_5_5 => k_is)
    (case x_5_6 => k_is)
    (case x_5_7 => k_is)
    (case x_5_8 => k_is)
    (case x_5_9 => k_is)
    (case yd0 => k_is)
    (case yt0 => k_is)
    (case yd1 => k_is)
    (case yt1 => k_is)
    (case yd2 => k_is)
    (case yt2 => k_is)
    (case yd3 => k_is)
    (case yt3 => k_is)
    (case yd4 => k_is)
    (case yt4 => k_is)
    (case yd5 => k_is)
    (case yt5 => k_is)
    (case yd6 => k_is)
    (case yt6 => k_is)
    (case yd7 => k_is)
    (case yt7 => k_is)
    (case yd8 => k_is)
    (case yt8 => k_is)
    (case yd9 => k_is)
    (case yt9 => k_is)
    (case yb => k_is)
    (case ydS => k_is)
    (case ytS => k_is)
    (case z_isinstance => k_is)
    (case z_int => k_is)
    (case z_bool => k_is)
    (case z_str => k_is)
    (case z_tuple => k_is)
    (case z_list => k_is)
    (case z_len => k_is)
    (case z_min => k_is)
    (case z_max => k_is)
    (case z_sum => k_is)
    (case z_all => k_is)
    (case z_range => k_is)
    (case z_set => k_is)
