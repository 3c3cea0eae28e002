import PyProof.Rows.All
import Wide.All
import OpenK.AllK
import Wide.FinOn
import KE.KStateDown
import HandS.ForMost
import HandS.WordsExc
import HandS.IsInst
import HandS.TupAny
import HandS.TupLe
import HandS.Style
import HandS.Conv
import HandS.SortInts
import HandS.SortKw
import HandS.More
import HandS.Walk
import HandS.Zip
import HandS.SetFor
import KE.GoesEnum
import KE.GoesMore
import PyProof.SumWalk
import PyProof.WalksMore
import HandS.Wide
import HandS.HeadEnd
import HandS.Head2
import HandS.HeadHook4
import PySem.Challenge.RW_ringchief_k39_bounds
import Lean
set_option Elab.async false
set_option linter.all false
set_option maxRecDepth 100000
set_option linter.all false
/-! the mathematics of the told sums and their bounds: plain lists and numbers -/
namespace RC
/-- the house d steps from i to the right (s) or left, on a ring of n; d ≤ n -/
def nbr (n i : Nat) (s : Bool) (d : Nat) : Nat := if s then (i + d) % n else (i + n - d) % n
theorem nbr_lt {n i d : Nat} {s : Bool} (h : 0 < n) : nbr n i s d < n := by
  unfold nbr; split <;> exact Nat.mod_lt _ h
/-- the first d from d on, at most k tries, at which p holds; else where the tries end -/
def first (p : Nat → Bool) : Nat → Nat → Nat
  | 0, d => d
  | k + 1, d => if p d then d else first p k (d + 1)
theorem first_le (p : Nat → Bool) : ∀ k d, first p k d ≤ d + k
  | 0, d => Nat.le_refl _
  | k + 1, d => by
    unfold first; split
    · omega
    · have := first_le p k (d + 1); omega
theorem first_ge (p : Nat → Bool) : ∀ k d, d ≤ first p k d
  | 0, d => Nat.le_refl _
  | k + 1, d => by
    unfold first; split
    · omega
    · have := first_ge p k (d + 1); omega
theorem first_lt (p : Nat → Bool) : ∀ k d e, d ≤ e → e < first p k d → p e = false
  | 0, d, e, h1, h2 => by unfold first at h2; omega
  | k + 1, d, e, h1, h2 => by
    unfold first at h2; split at h2
    · omega
    · rename_i hp
      by_cases he : e = d
      · subst he; simpa using hp
      · exact first_lt p k (d + 1) e (by omega) h2
theorem first_hit (p : Nat → Bool) : ∀ k d, first p k d < d + k → p (first p k d) = true
  | 0, d, h => by unfold first at h; omega
  | k + 1, d, h => by
    unfold first at h ⊢; split
    · assumption
    · rename_i hp
      rw [if_neg hp] at h
      exact first_hit p k (d + 1) (by omega)
theorem first_congr {p q : Nat → Bool} : ∀ k d, (∀ e, d ≤ e → e < d + k → p e = q e) → first p k d = first q k d
  | 0, d, h => rfl
  | k + 1, d, h => by
    unfold first
    rw [h d (Nat.le_refl _) (by omega), first_congr k (d + 1) (fun e h1 h2 => h e (by omega) (by omega))]

/-- whether the house d steps on is one of B and has a greater name -/
def grt (n : Nat) (nm : Nat → Int) (B : Nat → Bool) (i : Nat) (s : Bool) (d : Nat) : Bool := B (nbr n i s d) && decide (nm i < nm (nbr n i s d))
/-- by how many steps the next greater one of B comes -/
def stop (n : Nat) (nm : Nat → Int) (B : Nat → Bool) (i : Nat) (s : Bool) : Nat := first (grt n nm B i s) (n - 1) 1
section
variable {n : Nat} {nm : Nat → Int} {B : Nat → Bool} {i : Nat} {s : Bool}
theorem stop_le (h : 0 < n) : stop n nm B i s ≤ n := by
  have := first_le (grt n nm B i s) (n - 1) 1; unfold stop; omega
theorem stop_pos : 1 ≤ stop n nm B i s := first_ge _ _ _
theorem stop_before {d : Nat} (h1 : 1 ≤ d) (h2 : d < stop n nm B i s) : grt n nm B i s d = false := first_lt _ _ _ _ h1 h2
theorem stop_at (h : stop n nm B i s < n) : grt n nm B i s (stop n nm B i s) = true := by
  have h0 : 1 ≤ stop n nm B i s := stop_pos
  exact first_hit _ _ _ (by unfold stop at h h0; omega)
end
/-! ### places on the ring -/
theorem mod_two {a n : Nat} (h : a < 2 * n) : a % n = if a < n then a else a - n := by
  split
  · exact Nat.mod_eq_of_lt (by assumption)
  · rename_i h1
    rw [Nat.mod_eq_sub_mod (by omega), Nat.mod_eq_of_lt (by omega)]
/-- the steps from i to j to the right (s) or left; between 0 and n - 1 -/
def far (n i j : Nat) (s : Bool) : Nat := if s then (j + n - i) % n else (i + n - j) % n
theorem nbr_far {n i j : Nat} {s : Bool} (hi : i < n) (hj : j < n) : nbr n i s (far n i j s) = j := by
  unfold nbr far
  cases s <;> simp only [Bool.false_eq_true, if_true, if_false, ite_true, ite_false]
  · rw [mod_two (a := i + n - j) (by omega)]
    split
    · rw [mod_two (by omega)]; split <;> omega
    · rw [mod_two (by omega)]; split <;> omega
  · rw [mod_two (a := j + n - i) (by omega)]
    split
    · rw [mod_two (by omega)]; split <;> omega
    · rw [mod_two (by omega)]; split <;> omega
theorem far_lt {n i j : Nat} {s : Bool} (h : 0 < n) : far n i j s < n := by
  unfold far; split <;> exact Nat.mod_lt _ h
theorem far_pos {n i j : Nat} {s : Bool} (hi : i < n) (hj : j < n) (h : i ≠ j) : 1 ≤ far n i j s := by
  unfold far
  cases s <;> simp only [Bool.false_eq_true, if_true, if_false, ite_true, ite_false]
  · rw [mod_two (by omega)]; split <;> omega
  · rw [mod_two (by omega)]; split <;> omega
theorem nbr_inj {n i d e : Nat} {s : Bool} (hi : i < n) (hd : d < n) (he : e < n) (h : nbr n i s d = nbr n i s e) : d = e := by
  unfold nbr at h
  cases s <;> simp only [Bool.false_eq_true, if_true, if_false, ite_true, ite_false] at h
  · rw [mod_two (by omega), mod_two (by omega)] at h; split at h <;> split at h <;> omega
  · rw [mod_two (by omega), mod_two (by omega)] at h; split at h <;> split at h <;> omega
/-- a greater one of B at j: the stop is no farther than j -/
theorem stop_le_far {n : Nat} {nm : Nat → Int} {B : Nat → Bool} {i j : Nat} {s : Bool} (hi : i < n) (hj : j < n) (hB : B j = true) (hg : nm i < nm j) : stop n nm B i s ≤ far n i j s := by
  have hne : i ≠ j := fun e => by subst e; omega
  by_cases h : stop n nm B i s ≤ far n i j s
  · exact h
  · exfalso
    have h1 := stop_before (n := n) (nm := nm) (B := B) (i := i) (s := s) (d := far n i j s) (far_pos hi hj hne) (by omega)
    unfold grt at h1
    rw [nbr_far hi hj] at h1
    simp [hB, hg] at h1

/-! ### counting -/
theorem len_sub {α : Type} [DecidableEq α] : ∀ {l m : List α}, l.Nodup → (∀ x ∈ l, x ∈ m) → l.length ≤ m.length
  | [], m, _, _ => Nat.zero_le _
  | x :: l, m, h, hs => by
    have h1 : x ∈ m := hs x List.mem_cons_self
    have hn := List.nodup_cons.mp h
    have h2 : l.length ≤ (m.erase x).length := len_sub hn.2 fun y hy => by
      have hxy : y ≠ x := fun e => hn.1 (e ▸ hy)
      exact (List.mem_erase_of_ne hxy).mpr (hs y (List.mem_cons_of_mem _ hy))
    have h3 := List.length_erase_of_mem h1
    have h4 : 0 < m.length := List.length_pos_of_mem h1
    simp only [List.length_cons]
    omega
theorem nodup_map_on {α β : Type} {f : α → β} : ∀ {l : List α}, l.Nodup → (∀ x ∈ l, ∀ y ∈ l, f x = f y → x = y) → (l.map f).Nodup
  | [], _, _ => List.nodup_nil
  | x :: l, h, hf => by
    have hn := List.nodup_cons.mp h
    rw [List.map_cons, List.nodup_cons]
    refine ⟨fun hm => ?_, nodup_map_on hn.2 fun a ha b hb e => hf a (List.mem_cons_of_mem _ ha) b (List.mem_cons_of_mem _ hb) e⟩
    obtain ⟨y, hy, e⟩ := List.mem_map.mp hm
    have := hf y (List.mem_cons_of_mem _ hy) x List.mem_cons_self e
    exact hn.1 (this ▸ hy)
/-- unlike numbers from a on to below b -/
theorem len_between {l : List Nat} {a b : Nat} (hn : l.Nodup) (h : ∀ x ∈ l, a ≤ x ∧ x < b) : l.length ≤ b - a := by
  have h1 : l.length ≤ (List.range' a (b - a)).length := len_sub hn fun x hx => by
    obtain ⟨h2, h3⟩ := h x hx
    exact List.mem_range'_1.mpr ⟨h2, by omega⟩
  rwa [List.length_range'] at h1
theorem sum_le_of {α : Type} {f g : α → Nat} : ∀ {l : List α}, (∀ x ∈ l, f x ≤ g x) → (l.map f).sum ≤ (l.map g).sum
  | [], _ => Nat.le_refl _
  | x :: l, h => by
    rw [List.map_cons, List.map_cons, List.sum_cons, List.sum_cons]
    exact Nat.add_le_add (h x List.mem_cons_self) (sum_le_of fun y hy => h y (List.mem_cons_of_mem _ hy))
theorem sum_map_add {α : Type} {f g : α → Nat} : ∀ {l : List α}, (l.map fun x => f x + g x).sum = (l.map f).sum + (l.map g).sum
  | [] => rfl
  | x :: l => by
    simp only [List.map_cons, List.sum_cons]
    rw [sum_map_add]
    omega
theorem sum_map_const {α : Type} {c : Nat} : ∀ {l : List α}, (l.map fun _ => c).sum = l.length * c
  | [] => by simp
  | x :: l => by
    simp only [List.map_cons, List.sum_cons, List.length_cons]
    rw [sum_map_const, Nat.succ_mul]
    omega
/-! ### round -/
/-- how many of bs are greater -/
def grs (nm : Nat → Int) (bs : List Nat) (i : Nat) : Nat := (bs.filter fun j => decide (nm i < nm j)).length
theorem stop_grs {n : Nat} {nm : Nat → Int} {bs : List Nat} {i : Nat} {s : Bool} (hi : i < n) (hb : ∀ j ∈ bs, j < n) (hn : bs.Nodup) : stop n nm (fun j => decide (j ∈ bs)) i s + grs nm bs i ≤ n := by
  have h1 : stop n nm (fun j => decide (j ∈ bs)) i s ≤ n := stop_le (by omega)
  have h2 : ((bs.filter fun j => decide (nm i < nm j)).map fun j => far n i j s).length ≤ n - stop n nm (fun j => decide (j ∈ bs)) i s := by
    refine len_between (nodup_map_on (hn.filter _) fun x hx y hy e => ?_) fun x hx => ?_
    · have hx' := hb x (List.mem_filter.mp hx).1
      have hy' := hb y (List.mem_filter.mp hy).1
      have := congrArg (nbr n i s) e
      rwa [nbr_far hi hx', nbr_far hi hy'] at this
    · obtain ⟨j, hj, rfl⟩ := List.mem_map.mp hx
      obtain ⟨hj1, hj2⟩ := List.mem_filter.mp hj
      exact ⟨stop_le_far hi (hb j hj1) (by simp [hj1]) (by simpa using hj2), far_lt (by omega)⟩
  rw [List.length_map] at h2
  unfold grs
  omega
theorem grs_cons {nm : Nat → Int} {a : Nat} {l : List Nat} {i : Nat} : grs nm (a :: l) i = (if nm i < nm a then 1 else 0) + grs nm l i := by
  unfold grs
  rw [List.filter_cons]
  split
  · rename_i h
    simp only [decide_eq_true_eq] at h
    rw [if_pos h, List.length_cons]; omega
  · rename_i h
    simp only [decide_eq_true_eq] at h
    rw [if_neg h]; omega
theorem two_ways {nm : Nat → Int} {a : Nat} : ∀ {l : List Nat}, (∀ j ∈ l, nm j ≠ nm a) → (l.map fun i => if nm i < nm a then 1 else 0).sum + grs nm l a = l.length
  | [], _ => rfl
  | x :: l, h => by
    have h1 := h x List.mem_cons_self
    have ih := two_ways (l := l) fun j hj => h j (List.mem_cons_of_mem _ hj)
    rw [grs_cons, List.map_cons, List.sum_cons, List.length_cons]
    split <;> split <;> omega
theorem grs_sum {nm : Nat → Int} : ∀ {l : List Nat}, (l.map nm).Nodup → 2 * (l.map (grs nm l)).sum = l.length * (l.length - 1)
  | [], _ => rfl
  | a :: l, h => by
    rw [List.map_cons, List.nodup_cons] at h
    have ih := grs_sum h.2
    have hne : ∀ j ∈ l, nm j ≠ nm a := fun j hj e => h.1 (e ▸ List.mem_map_of_mem hj)
    have e1 : (l.map (grs nm (a :: l))) = l.map fun i => (if nm i < nm a then 1 else 0) + grs nm l i := by
      apply List.map_congr_left
      intro i _
      exact grs_cons
    have e2 := two_ways hne
    have e3 : grs nm (a :: l) a = grs nm l a := by rw [grs_cons, if_neg (by omega)]; omega
    rw [List.map_cons, List.sum_cons, e1, sum_map_add, e3, List.length_cons]
    have e4 : (l.length + 1) * (l.length + 1 - 1) = l.length * (l.length - 1) + 2 * l.length := by
      cases l.length with
      | zero => rfl
      | succ m => simp only [Nat.add_sub_cancel, Nat.succ_mul, Nat.mul_succ]; omega
    omega
def roundSum (n : Nat) (nm : Nat → Int) (bs : List Nat) : Nat := (bs.map fun i => stop n nm (fun j => decide (j ∈ bs)) i true).sum + n
theorem round_bound {n : Nat} {nm : Nat → Int} {bs : List Nat} (hb : ∀ j ∈ bs, j < n) (hn : bs.Nodup) (hm : (bs.map nm).Nodup) : roundSum n nm bs ≤ n * (n + 1) / 2 + n := by
  have h1 : (bs.map fun i => stop n nm (fun j => decide (j ∈ bs)) i true + grs nm bs i).sum ≤ (bs.map fun _ => n).sum := sum_le_of fun i hi => stop_grs (hb i hi) hb hn
  rw [sum_map_add, sum_map_const] at h1
  have h2 := grs_sum hm
  have h3 : bs.length ≤ n := by
    have := len_between (a := 0) (b := n) hn fun x hx => ⟨Nat.zero_le _, hb x hx⟩
    omega
  unfold roundSum
  have h4 : 2 * (bs.length * n) ≤ n * (n + 1) + bs.length * (bs.length - 1) := by
    obtain ⟨k, hk⟩ : ∃ k, n = bs.length + k := ⟨n - bs.length, by omega⟩
    generalize bs.length = m at *
    subst hk
    cases m with
    | zero => simp
    | succ m =>
      simp only [Nat.add_sub_cancel, Nat.succ_mul, Nat.mul_succ, Nat.add_mul, Nat.mul_add]
      have : m * k = k * m := Nat.mul_comm _ _
      omega
  generalize (bs.map fun i => stop n nm (fun j => decide (j ∈ bs)) i true).sum = S at *
  omega
/-! ### round, all falling to the right -/
theorem sum_down : ∀ k m : Nat, 2 * ((List.range k).map fun j => (m + k - j)).sum = k * (2 * m + k + 1)
  | 0, m => by simp
  | k + 1, m => by
    have ih := sum_down k (m + 1)
    rw [List.range_succ, List.map_append, List.sum_append]
    simp only [List.map_cons, List.map_nil, List.sum_cons, List.sum_nil]
    have e : ((List.range k).map fun j => m + (k + 1) - j) = (List.range k).map fun j => m + 1 + k - j := List.map_congr_left fun j _ => by omega
    rw [e, Nat.mul_add, ih]
    simp only [Nat.succ_mul, Nat.mul_succ, Nat.mul_add, Nat.add_mul]
    omega
theorem stop_falling {n : Nat} {nm : Nat → Int} {B : Nat → Bool} {i : Nat} (hi : i < n) (hB : ∀ j, j < n → B j = true) (hf : ∀ j k, j < k → k < n → nm k < nm j) : stop n nm B i true = n - i := by
  have h0 : ∀ d, 1 ≤ d → d < n - i → grt n nm B i true d = false := fun d h1 h2 => by
    unfold grt nbr
    rw [if_pos rfl, Nat.mod_eq_of_lt (by omega)]
    have := hf i (i + d) (by omega) (by omega)
    simp only [Bool.and_eq_false_iff, decide_eq_false_iff_not]
    right; omega
  have h1 : n - i ≤ stop n nm B i true := by
    by_cases h : n - i ≤ stop n nm B i true
    · exact h
    · exfalso
      have h2 : stop n nm B i true < n := by omega
      have h3 := stop_at h2
      rw [h0 _ stop_pos (by omega)] at h3
      cases h3
  by_cases h : stop n nm B i true ≤ n - i
  · omega
  · exfalso
    have h4 := stop_before (n := n) (nm := nm) (B := B) (i := i) (s := true) (d := n - i) (by omega) (by omega)
    have h5 : stop n nm B i true ≤ n := stop_le (by omega)
    unfold grt nbr at h4
    rw [if_pos rfl, show i + (n - i) = n by omega, Nat.mod_self] at h4
    by_cases hz : i = 0
    · omega
    · have := hf 0 i (by omega) hi
      rw [hB 0 (by omega)] at h4
      simp at h4
      omega
theorem round_falling {n : Nat} {nm : Nat → Int} (hf : ∀ j k, j < k → k < n → nm k < nm j) : roundSum n nm (List.range n) = n * (n + 1) / 2 + n := by
  unfold roundSum
  have e : ((List.range n).map fun i => stop n nm (fun j => decide (j ∈ List.range n)) i true) = (List.range n).map fun j => 0 + n - j := List.map_congr_left fun i hi => by
    rw [stop_falling (List.mem_range.mp hi) (fun j hj => by simp [hj]) hf]
    omega
  rw [e]
  have := sum_down n 0
  simp only [Nat.mul_zero, Nat.zero_add] at this ⊢
  omega
/-! ### halves: rows of (house, held) -/
abbrev Row := List (Nat × Int)
def heldAt (row : Row) (k : Nat) : Int := (row.getD k (0, 0)).2
def houseAt (row : Row) (k : Nat) : Nat := (row.getD k (0, 0)).1
def goesOn (row : Row) (k : Nat) : Bool :=
  decide (heldAt row k < heldAt row ((k + row.length - 1) % row.length)) && decide (heldAt row ((k + row.length - 2) % row.length) < heldAt row ((k + row.length - 1) % row.length))
def nextRow (row : Row) : Row := ((List.range row.length).filter (goesOn row)).map fun k => (houseAt row k, heldAt row ((k + row.length - 1) % row.length))
theorem nextRow_half {row : Row} (h : 2 ≤ row.length) : 2 * (nextRow row).length ≤ row.length := by
  unfold nextRow
  rw [List.length_map]
  have hL : 0 < row.length := by omega
  have nd : ((List.range row.length).filter (goesOn row)).Nodup := List.nodup_range.filter _
  have lt : ∀ k ∈ (List.range row.length).filter (goesOn row), k < row.length := fun k hk => List.mem_range.mp (List.mem_filter.mp hk).1
  have key : (((List.range row.length).filter (goesOn row)) ++ ((List.range row.length).filter (goesOn row)).map fun k => (k + 1) % row.length).Nodup := by
    rw [List.nodup_append]
    refine ⟨nd, nodup_map_on nd fun a ha b hb e => ?_, fun a ha b hb e => ?_⟩
    · have ha' := lt a ha
      have hb' := lt b hb
      rw [mod_two (by omega), mod_two (by omega)] at e
      split at e <;> split at e <;> omega
    · obtain ⟨c, hc, rfl⟩ := List.mem_map.mp hb
      have hc' := lt c hc
      have g1 := (List.mem_filter.mp hc).2
      have g2 := (List.mem_filter.mp ha).2
      rw [e] at g2
      unfold goesOn at g1 g2
      simp only [Bool.and_eq_true, decide_eq_true_eq] at g1 g2
      have e1 : ((c + 1) % row.length + row.length - 1) % row.length = c := by
        rw [mod_two (a := c + 1) (by omega)]
        split
        · rw [mod_two (by omega)]; split <;> omega
        · rw [mod_two (by omega)]; split <;> omega
      have e2 : ((c + 1) % row.length + row.length - 2) % row.length = (c + row.length - 1) % row.length := by
        rw [mod_two (a := c + 1) (by omega)]
        split
        · rw [show c + 1 + row.length - 2 = c + row.length - 1 by omega]
        · rw [show c + 1 - row.length + row.length - 2 = c + 1 - 2 by omega, mod_two (a := c + row.length - 1) (by omega), mod_two (by omega)]
          split <;> split <;> omega
      rw [e1, e2] at g2
      omega
  have := len_sub (m := List.range row.length) key fun x hx => by
    rcases List.mem_append.mp hx with hx | hx
    · exact (List.mem_filter.mp hx).1
    · obtain ⟨c, _, rfl⟩ := List.mem_map.mp hx
      exact List.mem_range.mpr (Nat.mod_lt _ hL)
  rw [List.length_append, List.length_map, List.length_range] at this
  omega
/-- the rows, at most fuel more -/
def rowsFrom : Nat → Row → List Row
  | 0, row => [row]
  | k + 1, row => row :: if 1 < row.length then rowsFrom k (nextRow row) else []
def rowsOf (row : Row) : List Row := rowsFrom row.length row
def halvingsL : Nat → Nat → Nat
  | 0, _ => 0
  | k + 1, m => if 1 < m then halvingsL k (m / 2) + 1 else 0
theorem halvingsL_mono : ∀ k a b : Nat, a ≤ b → halvingsL k a ≤ halvingsL k b
  | 0, _, _, _ => Nat.le_refl _
  | k + 1, a, b, h => by
    unfold halvingsL
    split
    · rw [if_pos (by omega)]
      have := halvingsL_mono k (a / 2) (b / 2) (by omega)
      omega
    · omega
theorem halvingsL_fuel : ∀ k j m : Nat, m ≤ k → m ≤ j → halvingsL k m = halvingsL j m
  | 0, j, m, h1, h2 => by
    have e : m = 0 := by omega
    subst e
    cases j <;> simp [halvingsL]
  | k + 1, 0, m, h1, h2 => by
    have e : m = 0 := by omega
    subst e
    simp [halvingsL]
  | k + 1, j + 1, m, h1, h2 => by
    unfold halvingsL
    split
    · rw [halvingsL_fuel k j (m / 2) (by omega) (by omega)]
    · rfl
theorem rowsFrom_len : ∀ (k : Nat) (row : Row), row.length ≤ k → (rowsFrom k row).length ≤ halvingsL k row.length + 1
  | 0, row, h => by simp [rowsFrom]
  | k + 1, row, h => by
    unfold rowsFrom halvingsL
    split
    · rename_i h1
      have h2 := nextRow_half (row := row) (by omega)
      have ih := rowsFrom_len k (nextRow row) (by omega)
      have h3 := halvingsL_mono k (nextRow row).length (row.length / 2) (by omega)
      simp only [List.length_cons]
      omega
    · simp
theorem rowsFrom_fuel : ∀ (k j : Nat) (row : Row), row.length ≤ k → row.length ≤ j → rowsFrom k row = rowsFrom j row
  | 0, 0, row, h1, h2 => rfl
  | 0, j + 1, row, h1, h2 => by
    unfold rowsFrom
    rw [if_neg (by omega)]
  | k + 1, 0, row, h1, h2 => by
    unfold rowsFrom
    rw [if_neg (by omega)]
  | k + 1, j + 1, row, h1, h2 => by
    unfold rowsFrom
    split
    · have h3 := nextRow_half (row := row) (by omega)
      rw [rowsFrom_fuel k j (nextRow row) (by omega) (by omega)]
    · rfl
def halvings (m : Nat) : Nat := halvingsL m m
theorem rows_bound {row : Row} {n : Nat} (h : row.length ≤ n) : (rowsOf row).length ≤ halvings n + 1 := by
  unfold rowsOf halvings
  rw [rowsFrom_fuel row.length n row (Nat.le_refl _) h]
  have h1 := rowsFrom_len n row h
  have h2 := halvingsL_mono n row.length n h
  omega
/-! ### reach -/
def sideL (r st : Nat) : Nat := if r < st then 2 * r else st
theorem sideL_le (r st : Nat) : sideL r st ≤ 2 * r := by unfold sideL; split <;> omega
/-- the reaches that are come to from rc on -/
def reaches (l r : Nat) : Nat → Nat → List Nat
  | 0, rc => [rc]
  | k + 1, rc => rc :: if rc < l ∧ rc < r then reaches l r k (2 * rc) else []
def reachLetters (l r : Nat) : Nat := ((reaches l r (min l r) 1).map fun rc => sideL rc l + sideL rc r).sum
def pows : Nat → Nat → List Nat
  | 0, rc => [rc]
  | k + 1, rc => rc :: pows k (2 * rc)
theorem reaches_sum (l r : Nat) (f : Nat → Nat) : ∀ k rc, ((reaches l r k rc).map f).sum ≤ ((pows k rc).map fun x => if x = rc ∨ (x / 2 < l ∧ x / 2 < r) then f x else 0).sum
  | 0, rc => by simp [reaches, pows]
  | k + 1, rc => by
    unfold reaches pows
    rw [List.map_cons, List.map_cons, List.sum_cons, List.sum_cons, if_pos (Or.inl rfl)]
    refine Nat.add_le_add_left ?_ _
    split
    · rename_i h
      refine Nat.le_trans (reaches_sum l r f k (2 * rc)) (sum_le_of fun x _ => ?_)
      split
      · rename_i hx
        rw [if_pos]
        · exact Nat.le_refl _
        · right
          rcases hx with rfl | hx
          · omega
          · exact hx
      · exact Nat.zero_le _
    · simp
theorem reaches_fuel (l r : Nat) : ∀ k j rc, 1 ≤ rc → min l r ≤ rc + k → min l r ≤ rc + j → reaches l r k rc = reaches l r j rc
  | 0, 0, rc, _, _, _ => rfl
  | 0, j + 1, rc, h0, h1, h2 => by
    unfold reaches
    rw [if_neg (by omega)]
  | k + 1, 0, rc, h0, h1, h2 => by
    unfold reaches
    rw [if_neg (by omega)]
  | k + 1, j + 1, rc, h0, h1, h2 => by
    unfold reaches
    split
    · rw [reaches_fuel l r k j (2 * rc) (by omega) (by omega) (by omega)]
    · rfl
theorem sum_swap {α β : Type} (g : α → β → Nat) (as : List α) : ∀ bs : List β, (as.map fun a => (bs.map (g a)).sum).sum = (bs.map fun b => (as.map fun a => g a b).sum).sum
  | [] => by simp [sum_map_const]
  | b :: bs => by
    simp only [List.map_cons, List.sum_cons]
    rw [sum_map_add, sum_swap g as bs]
theorem sum_ite {α : Type} {p : α → Bool} {c : Nat} : ∀ {l : List α}, (l.map fun a => if p a = true then c else 0).sum = (l.filter p).length * c
  | [] => by simp
  | a :: l => by
    rw [List.map_cons, List.sum_cons, sum_ite, List.filter_cons]
    split
    · rw [List.length_cons, Nat.succ_mul]; omega
    · omega
/-- houses that are more than y apart: at most n by y + 1 -/
theorem apart_count {n y : Nat} {S : List Nat} (hn : S.Nodup) (hS : ∀ i ∈ S, i < n) (hy : S ≠ [] → y < n) (ha : ∀ i ∈ S, ∀ j ∈ S, i ≠ j → y < far n i j true) : S.length * (y + 1) ≤ n := by
  have key : (S.flatMap fun i => (List.range (y + 1)).map fun t => (i + t) % n).Nodup := by
    rw [List.nodup_iff_pairwise_ne, List.pairwise_flatMap]
    refine ⟨fun i hi => ?_, ?_⟩
    · rw [← List.nodup_iff_pairwise_ne]
      refine nodup_map_on List.nodup_range fun a ha' b hb' e => ?_
      have h1 := List.mem_range.mp ha'
      have h2 := List.mem_range.mp hb'
      have h3 := hS i hi
      have h4 := hy (List.ne_nil_of_mem hi)
      rw [mod_two (by omega), mod_two (by omega)] at e
      split at e <;> split at e <;> omega
    · rw [List.nodup_iff_pairwise_ne] at hn
      refine hn.imp_of_mem fun {i j} hi hj hij a hA b hB e => ?_
      obtain ⟨t, ht, rfl⟩ := List.mem_map.mp hA
      obtain ⟨u, hu, rfl⟩ := List.mem_map.mp hB
      have h1 := List.mem_range.mp ht
      have h2 := List.mem_range.mp hu
      have h3 := hS i hi
      have h4 := hS j hj
      have h5 := hy (List.ne_nil_of_mem hi)
      have h6 := ha i hi j hj hij
      have h7 := ha j hj i hi (Ne.symm hij)
      unfold far at h6 h7
      rw [if_pos rfl, mod_two (by omega)] at h6 h7
      rw [mod_two (by omega), mod_two (by omega)] at e
      split at e <;> split at e <;> split at h6 <;> split at h7 <;> omega
  have h1 := len_sub (m := List.range n) key fun x hx => by
    obtain ⟨i, hi, hx⟩ := List.mem_flatMap.mp hx
    obtain ⟨t, _, rfl⟩ := List.mem_map.mp hx
    have := hS i hi
    exact List.mem_range.mpr (Nat.mod_lt _ (by omega))
  rw [List.length_flatMap, List.length_range] at h1
  have e : (S.map fun i => ((List.range (y + 1)).map fun t => (i + t) % n).length) = S.map fun _ => y + 1 := List.map_congr_left fun i _ => by rw [List.length_map, List.length_range]
  rw [e, sum_map_const] at h1
  exact h1
def reachSum (n : Nat) (nm : Nat → Int) (bs : List Nat) : Nat :=
  n + (bs.map fun i => reachLetters (stop n nm (fun j => decide (j ∈ bs)) i false) (stop n nm (fun j => decide (j ∈ bs)) i true)).sum
def reachB (n : Nat) : Nat → Nat → Nat
  | 0, _ => 0
  | k + 1, rc => if rc / 2 < n then 4 * rc * (n / (rc / 2 + 1)) + reachB n k (2 * rc) else 0
def reachBound (n : Nat) : Nat := 5 * n + reachB n n 2
theorem reachB_pows (n : Nat) : ∀ k rc, ((pows k rc).map fun x => if x / 2 < n then 4 * x * (n / (x / 2 + 1)) else 0).sum = reachB n (k + 1) rc
  | 0, rc => by simp [pows, reachB]
  | k + 1, rc => by
    unfold pows
    rw [List.map_cons, List.sum_cons, reachB_pows n k (2 * rc)]
    conv => rhs; unfold reachB
    split
    · rfl
    · unfold reachB
      rw [if_neg (by omega)]
theorem reachB_fuel (n : Nat) : ∀ k j rc, 1 ≤ rc → 2 * n ≤ rc + k → 2 * n ≤ rc + j → reachB n k rc = reachB n j rc
  | 0, 0, _, _, _, _ => rfl
  | 0, j + 1, rc, h, h1, h2 => by unfold reachB; rw [if_neg (by omega)]
  | k + 1, 0, rc, h, h1, h2 => by unfold reachB; rw [if_neg (by omega)]
  | k + 1, j + 1, rc, h, h1, h2 => by
    unfold reachB
    split
    · rw [reachB_fuel n k j (2 * rc) (by omega) (by omega) (by omega)]
    · rfl
theorem reachB_mono (n : Nat) : ∀ k rc, reachB n k rc ≤ reachB n (k + 1) rc
  | 0, rc => Nat.zero_le _
  | k + 1, rc => by
    unfold reachB
    split
    · exact Nat.add_le_add_left (reachB_mono n k (2 * rc)) _
    · exact Nat.le_refl _
theorem stop_apart {n : Nat} {nm : Nat → Int} {bs : List Nat} {i j y : Nat} (hi : i ∈ bs) (hj : j ∈ bs) (hb : ∀ j ∈ bs, j < n) (hne : nm i ≠ nm j)
    (h1 : ∀ s, y < stop n nm (fun j => decide (j ∈ bs)) i s) (h2 : ∀ s, y < stop n nm (fun j => decide (j ∈ bs)) j s) : y < far n i j true := by
  have li := hb i hi
  have lj := hb j hj
  have e : far n j i false = far n i j true := by
    unfold far
    simp
  rcases Int.lt_or_gt_of_ne hne with h | h
  · exact Nat.lt_of_lt_of_le (h1 true) (stop_le_far li lj (by simp [hj]) h)
  · have := Nat.lt_of_lt_of_le (h2 false) (stop_le_far lj li (by simp [hi]) h)
    rwa [e] at this
theorem reach_bound {n : Nat} {nm : Nat → Int} {bs : List Nat} (hb : ∀ j ∈ bs, j < n) (hn : bs.Nodup) (hm : ∀ i ∈ bs, ∀ j ∈ bs, nm i = nm j → i = j) : reachSum n nm bs ≤ reachBound n := by
  unfold reachSum reachBound
  have hlen : bs.length ≤ n := by
    have := len_between (a := 0) (b := n) hn fun x hx => ⟨Nat.zero_le _, hb x hx⟩
    omega
  by_cases hz : n = 0
  · subst hz
    have : bs = [] := by
      cases bs with
      | nil => rfl
      | cons a l => exact absurd (hb a List.mem_cons_self) (Nat.not_lt_zero _)
    subst this
    simp
  let L : Nat → Nat := fun i => stop n nm (fun j => decide (j ∈ bs)) i false
  let R : Nat → Nat := fun i => stop n nm (fun j => decide (j ∈ bs)) i true
  have hL : ∀ i, L i ≤ n := fun i => stop_le (by omega)
  have hR : ∀ i, R i ≤ n := fun i => stop_le (by omega)
  have s1 : (bs.map fun i => reachLetters (L i) (R i)).sum ≤ (bs.map fun i => ((pows n 1).map fun x => if x = 1 ∨ (x / 2 < L i ∧ x / 2 < R i) then 4 * x else 0).sum).sum := by
    refine sum_le_of fun i _ => ?_
    unfold reachLetters
    rw [reaches_fuel (L i) (R i) (min (L i) (R i)) n 1 (Nat.le_refl _) (by omega) (by have := hL i; omega)]
    refine Nat.le_trans (sum_le_of (g := fun rc => 4 * rc) fun rc _ => ?_) (reaches_sum (L i) (R i) (fun rc => 4 * rc) n 1)
    have := sideL_le rc (L i)
    have := sideL_le rc (R i)
    omega
  rw [sum_swap] at s1
  have s2 : ((pows n 1).map fun x => (bs.map fun i => if x = 1 ∨ (x / 2 < L i ∧ x / 2 < R i) then 4 * x else 0).sum).sum ≤ 4 * n + reachB n n 2 := by
    obtain ⟨k, rfl⟩ : ∃ k, n = k + 1 := ⟨n - 1, by omega⟩
    have e1 : pows (k + 1) 1 = 1 :: pows k 2 := rfl
    rw [e1, List.map_cons, List.sum_cons]
    have h1 : (bs.map fun i => if (1 : Nat) = 1 ∨ (1 / 2 < L i ∧ 1 / 2 < R i) then 4 * 1 else 0).sum ≤ 4 * (k + 1) := by
      have : (bs.map fun i => if (1 : Nat) = 1 ∨ (1 / 2 < L i ∧ 1 / 2 < R i) then 4 * 1 else 0) = bs.map fun _ => 4 := List.map_congr_left fun i _ => by simp
      rw [this, sum_map_const]
      omega
    have h2 : ((pows k 2).map fun x => (bs.map fun i => if x = 1 ∨ (x / 2 < L i ∧ x / 2 < R i) then 4 * x else 0).sum).sum ≤ reachB (k + 1) (k + 1) 2 := by
      rw [← reachB_pows (k + 1) k 2]
      have hp : ∀ k rc, 2 ≤ rc → ∀ x ∈ pows k rc, 2 ≤ x := by
        intro k
        induction k with
        | zero => intro rc h x hx; simp [pows] at hx; omega
        | succ k ih =>
          intro rc h x hx
          unfold pows at hx
          rcases List.mem_cons.mp hx with rfl | hx
          · exact h
          · exact ih (2 * rc) (by omega) x hx
      refine sum_le_of fun x hx => ?_
      have hx2 := hp k 2 (Nat.le_refl _) x hx
      have e3 : (bs.map fun i => if x = 1 ∨ (x / 2 < L i ∧ x / 2 < R i) then 4 * x else 0) = bs.map fun i => if (decide (x / 2 < L i) && decide (x / 2 < R i)) = true then 4 * x else 0 := List.map_congr_left fun i _ => by
        have : x ≠ 1 := by omega
        simp [this]
      rw [e3, sum_ite]
      by_cases hy : x / 2 < k + 1
      · rw [if_pos hy]
        have h3 : (bs.filter fun i => decide (x / 2 < L i) && decide (x / 2 < R i)).length * (x / 2 + 1) ≤ k + 1 := by
          refine apart_count (hn.filter _) (fun i hi => hb i (List.mem_filter.mp hi).1) (fun _ => hy) fun i hi j hj hij => ?_
          obtain ⟨hi1, hi2⟩ := List.mem_filter.mp hi
          obtain ⟨hj1, hj2⟩ := List.mem_filter.mp hj
          simp only [Bool.and_eq_true, decide_eq_true_eq] at hi2 hj2
          exact stop_apart hi1 hj1 hb (fun e => hij (hm i hi1 j hj1 e)) (fun s => by cases s; exact hi2.1; exact hi2.2) (fun s => by cases s; exact hj2.1; exact hj2.2)
        have h4 := (Nat.le_div_iff_mul_le (show 0 < x / 2 + 1 by omega)).mpr h3
        calc _ ≤ (k + 1) / (x / 2 + 1) * (4 * x) := Nat.mul_le_mul_right _ h4
          _ = _ := Nat.mul_comm _ _
      · rw [if_neg hy]
        have : (bs.filter fun i => decide (x / 2 < L i) && decide (x / 2 < R i)) = [] := by
          rw [List.filter_eq_nil_iff]
          intro i _
          have := hL i
          simp only [Bool.and_eq_true, decide_eq_true_eq]
          omega
        rw [this]
        simp
    omega
  have e : (bs.map fun i => reachLetters (stop n nm (fun j => decide (j ∈ bs)) i false) (stop n nm (fun j => decide (j ∈ bs)) i true)).sum = (bs.map fun i => reachLetters (L i) (R i)).sum := rfl
  rw [e]
  omega
end RC

set_option Elab.async false
set_option linter.all false
set_option maxRecDepth 100000
/-! a layer of steps over the hand layer's readings -/
namespace Lay
open PySem PySem.Spec PyProof.Rows L2
/-- all that was tracked stands, but what S holds; tuples stand always -/
def Chg (S : Addr → Prop) (H H' : Hp) : Prop := ∀ b o, H b = some o → (S b → ∃ xs, o = .tup xs) → H' b = some o
theorem Chg.of {S : Addr → Prop} {H H' : Hp} (h : Same H H') : Chg S H H' := fun b o e _ => h b o e
theorem Chg.trans {S : Addr → Prop} {H H1 H2 : Hp} (a : Chg S H H1) (b : Chg S H1 H2) : Chg S H H2 := fun c o h k => b c o (a c o h k) k
theorem Chg.mono {S S' : Addr → Prop} {H H' : Hp} (a : Chg S H H') (h : ∀ b, S b → S' b) : Chg S' H H' := fun c o e k => a c o e fun s => k (h c s)
theorem Chg.same {S : Addr → Prop} {H H1 H2 : Hp} (a : Chg S H H1) (b : Same H1 H2) : Chg S H H2 := fun c o h k => b c o (a c o h k)
theorem Chg.tup {S : Addr → Prop} {H H' : Hp} (a : Chg S H H') {b : Addr} {xs : List V} (h : H b = some (.tup xs)) : H' b = some (.tup xs) := a b _ h fun _ => ⟨xs, rfl⟩
theorem Chg.get {S : Addr → Prop} {H H' : Hp} (a : Chg S H H') {b : Addr} {o : HO} (h : H b = some o) (n : ¬ S b) : H' b = some o := a b _ h fun s => absurd s n
theorem same_upd {H : Hp} {p : Addr} {o : HO} (h : H p = none) : Same H (upd H p o) := fun b x e => by
  rw [upd_ne (ne_of_none e h)]
  exact e
theorem chg_upd {S : Addr → Prop} {H : Hp} {p : Addr} {o : HO} (h : S p) (ht : ∀ xs, H p ≠ some (.tup xs)) : Chg S H (upd H p o) := fun b x e k => by
  by_cases hb : b = p
  · subst hb
    obtain ⟨xs, rfl⟩ := k h
    exact absurd e (ht xs)
  · rw [upd_ne hb]
    exact e
theorem Same.tup {H H' : Hp} (a : Same H H') {b : Addr} {xs : List V} (h : H b = some (.tup xs)) : H' b = some (.tup xs) := a _ _ h
theorem same_seqT {K : PySem.W.Frag} {H H' : Hp} {a : Addr} {xs : List V} (e : Same H H') (h : SqT K H a xs) : SqT K H' a xs := by
  rcases h with (h | ⟨o, h⟩) | h
  · exact .inl (.inl (e _ _ h))
  · exact .inl (.inr ⟨o, e _ _ h⟩)
  · exact .inr h
section
variable {K : PySem.W.Frag} {σ : L2.St} {H : Hp} {Q : VK} {R : Bool → Hp → Prop} {QA : List V → Hp → Prop} {nx bk ct : L2.St → Hp → Prop} {rt : VK} {ta tb te tc : TE} {t u : TS} {c d : TT} {x y v : V} {i : Nat}
theorem g_nx (h : nx σ H) : Ends.nx ⟨nx, rt, bk, ct⟩ σ H := h
theorem g_rt (h : rt v H) : Ends.rt ⟨nx, rt, bk, ct⟩ v H := h
theorem g_seq (h : t ⟨u ⟨nx, rt, bk, ct⟩, rt, bk, ct⟩ σ H) : tSeq t u ⟨nx, rt, bk, ct⟩ σ H := h
theorem g_next (h : nx σ H) : tNext ⟨nx, rt, bk, ct⟩ σ H := h
theorem g_ret (h : te σ H rt) : tRet te ⟨nx, rt, bk, ct⟩ σ H := h
theorem g_retn (h : rt .non H) : tRetN ⟨nx, rt, bk, ct⟩ σ H := h
theorem g_drop (h : te σ H fun _ H1 => nx σ H1) : tDrop te ⟨nx, rt, bk, ct⟩ σ H := h
theorem g_asg {g : TG} (h : te σ H fun x H1 => g x σ H1 nx) : tAsg te g ⟨nx, rt, bk, ct⟩ σ H := h
theorem g_name {P : L2.St → Hp → Prop} (h : P (σ.set i (some v)) H) : gName i v σ H P := h
theorem g_if (h : c σ H fun b H1 => if b = true then t ⟨nx, rt, bk, ct⟩ σ H1 else u ⟨nx, rt, bk, ct⟩ σ H1) : tIfS c t u ⟨nx, rt, bk, ct⟩ σ H := h
theorem g_var (h : σ[i]? = some (some v)) (q : Q v H) : tVar i σ H Q := ⟨v, h, q⟩
theorem g_c (q : Q v H) : tC v σ H Q := q
theorem g_op {r : R2} (h : ta σ H fun x H1 => tb σ H1 fun y H2 => r x y H2 Q) : tOp r ta tb σ H Q := h
theorem g_un {r : V → Hp → VK → Prop} (h : ta σ H fun x H1 => r x H1 Q) : tUn r ta σ H Q := h
theorem g_I0 {g : Int → Int → V} {i j : Int} (q : Q (g i j) H) : rI0 g (.int i) (.int j) H Q := ⟨i, j, rfl, rfl, q⟩
theorem g_I {C : Int → Int → Prop} {g : Int → Int → V} {i j : Int} (hc : C i j) (q : Q (g i j) H) : rI C g (.int i) (.int j) H Q := ⟨i, j, rfl, rfl, hc, q⟩
theorem g_U {g : Int → V} {i : Int} (q : Q (g i) H) : rU g (.int i) H Q := ⟨i, rfl, q⟩
theorem g_eqI {i j : Int} (q : Q (.bl (decide (i = j))) H) : rEq (.int i) (.int j) H Q := ⟨rfl, by rw [show decide (V.int i = V.int j) = decide (i = j) by simp]; exact q⟩
theorem g_neI {i j : Int} (q : Q (.bl (!decide (i = j))) H) : rNe (.int i) (.int j) H Q := ⟨rfl, by rw [show decide (V.int i = V.int j) = decide (i = j) by simp]; exact q⟩
theorem g_eqS {i j : Str} (q : Q (.bl (decide (i = j))) H) : rEq (.str i) (.str j) H Q := ⟨rfl, by rw [show decide (V.str i = V.str j) = decide (i = j) by simp]; exact q⟩
theorem g_neS {i j : Str} (q : Q (.bl (!decide (i = j))) H) : rNe (.str i) (.str j) H Q := ⟨rfl, by rw [show decide (V.str i = V.str j) = decide (i = j) by simp]; exact q⟩
theorem g_eqB {i j : Bool} (q : Q (.bl (decide (i = j))) H) : rEq (.bl i) (.bl j) H Q := ⟨rfl, by rw [show decide (V.bl i = V.bl j) = decide (i = j) by simp]; exact q⟩
theorem g_test (h : te σ H fun x H' => ∃ k, x = .bl k ∧ R k H') : tTest te σ H R := h
theorem g_tB (h : te σ H fun x H' => ∃ k, x = .bl k ∧ R k H') : tB te σ H R := h
theorem g_bl {b : Bool} (q : R b H) : ∃ k, V.bl b = .bl k ∧ R k H := ⟨b, rfl, q⟩
theorem g_not (h : c σ H fun b H1 => R (!b) H1) : tNot c σ H R := h
theorem g_and (h : c σ H fun b H1 => if b = true then d σ H1 R else R false H1) : tAnd c d σ H R := h
theorem g_or (h : c σ H fun b H1 => if b = true then R true H1 else d σ H1 R) : tOr c d σ H R := h
theorem g_andV (h : ta σ H fun x H1 => ∃ c, x = .bl c ∧ if c = true then tb σ H1 Q else Q (.bl false) H1) : tAndV ta tb σ H Q := h
theorem g_orV (h : ta σ H fun x H1 => ∃ c, x = .bl c ∧ if c = true then Q (.bl true) H1 else tb σ H1 Q) : tOrV ta tb σ H Q := h
theorem g_notV (h : ta σ H fun x H1 => ∃ c, x = .bl c ∧ Q (.bl (!c)) H1) : tNotV ta σ H Q := h
theorem g_ifE (h : c σ H fun b H1 => if b = true then ta σ H1 Q else tb σ H1 Q) : tIf c ta tb σ H Q := h
theorem g_exbl {b : Bool} {P : Bool → Prop} (q : P b) : ∃ k, V.bl b = .bl k ∧ P k := ⟨b, rfl, q⟩
theorem g_nil (q : QA [] H) : tNil σ H QA := q
theorem g_cons {tr : TA} (h : te σ H fun x H1 => tr σ H1 fun xs H2 => QA (x :: xs) H2) : tCons te tr σ H QA := h
theorem g_cb {r : List V → Hp → VK → Prop} {ta : TA} (h : ta σ H fun vs H1 => r vs H1 Q) : tCB r ta σ H Q := h
theorem g_call {sp : Sp} {E : XK} {ta : TA} (h : ta σ H fun vs H1 => sp vs H1 Q E) : tCall sp [] E ta σ H Q := by
  have e : (fun (vs : List V) (H1 : Hp) => sp (vs ++ []) H1 Q E) = fun vs H1 => sp vs H1 Q E := by funext vs H1; rw [List.append_nil]
  show ta σ H fun vs H1 => sp (vs ++ []) H1 Q E
  rw [e]; exact h
theorem g_aug {te : TE} {ti : TIp} (h : σ[i]? = some (some x)) (q : te σ H fun y H1 => ti x y H1 fun z H2 => nx (σ.set i (some z)) H2) : tAug i te ti ⟨nx, rt, bk, ct⟩ σ H := ⟨x, h, q⟩
theorem g_ipI {f : Int → Int → Int} {i j : Int} (q : Q (.int (f i j)) H) : ipI f (.int i) (.int j) H Q := ⟨i, j, rfl, rfl, q⟩
/-- two ways -/
theorem ifd {p : Prop} [Decidable p] {A B : Prop} (h1 : p → A) (h2 : ¬ p → B) : if decide p = true then A else B := by
  by_cases h : p
  · rw [if_pos (decide_eq_true h)]; exact h1 h
  · rw [if_neg (by rw [decide_eq_false h]; exact Bool.false_ne_true)]; exact h2 h
theorem ifnd {p : Prop} [Decidable p] {A B : Prop} (h1 : ¬ p → A) (h2 : p → B) : if (!decide p) = true then A else B := by
  by_cases h : p
  · rw [if_neg (by rw [decide_eq_true h]; exact Bool.false_ne_true)]; exact h2 h
  · rw [if_pos (by rw [decide_eq_false h]; rfl)]; exact h1 h
theorem ifb {b : Bool} {A B : Prop} (h1 : b = true → A) (h2 : b = false → B) : if b = true then A else B := by
  cases b
  · exact h2 rfl
  · exact h1 rfl
theorem small {n : Nat} (h : n ≤ 100000) : n ≤ sizeLine := Nat.le_trans h (by decide)
theorem smallt {n : Nat} (h : n < 100000) : n < sizeLine := Nat.lt_of_lt_of_le h (by decide)

/-! ### by values: what wants a fact -/
def zLen (K : PySem.W.Frag) : List V → Hp → VK → Prop := fun xs H Q => ∃ p ys, xs = [.ref p] ∧ (SqL K H p ys ∨ SqT K H p ys) ∧ Q (.int ys.length) H
theorem call_len_z {X : Cx} : CallR X (.builtin "len") (zLen X.K) := call_len_seq
theorem g_len {a : Addr} {xs : List V} (h : SqL K H a xs ∨ SqT K H a xs) (q : Q (.int xs.length) H) : zLen K [.ref a] H Q := ⟨a, xs, rfl, h, q⟩
theorem g_lenL {a : Addr} {xs : List V} (h : SqL K H a xs) (q : Q (.int xs.length) H) : zLen K [.ref a] H Q := ⟨a, xs, rfl, .inl h, q⟩
theorem g_lenT {a : Addr} {xs : List V} (h : SqT K H a xs) (q : Q (.int xs.length) H) : zLen K [.ref a] H Q := ⟨a, xs, rfl, .inr h, q⟩
/-- a new tuple, a new list -/
def zNewT (xs : List V) (H : Hp) (Q : VK) : Prop := xs.length ≤ sizeLine ∧ ∀ p, H p = none → Q (.ref p) (upd H p (.tup xs))
def zNewL (xs : List V) (H : Hp) (Q : VK) : Prop := xs.length ≤ sizeLine ∧ ∀ p, H p = none → Q (.ref p) (upd H p (.lst xs))
theorem g_tup {ta : TA} (h : ta σ H fun xs H1 => zNewT xs H1 Q) : tTup ta σ H Q := h
theorem g_lst {ta : TA} (h : ta σ H fun xs H1 => zNewL xs H1 Q) : tLst ta σ H Q := h
theorem g_newT {xs : List V} (hl : xs.length ≤ 100000) (q : ∀ p H2, H p = none → Same H H2 → H2 p = some (.tup xs) → Q (.ref p) H2) : zNewT xs H Q := ⟨small hl, fun p hp => q p _ hp (same_upd hp) upd_same⟩
theorem g_newL {xs : List V} (hl : xs.length ≤ 100000) (q : ∀ p H2, H p = none → Same H H2 → H2 p = some (.lst xs) → Q (.ref p) H2) : zNewL xs H Q := ⟨small hl, fun p hp => q p _ hp (same_upd hp) upd_same⟩
/-- tuple(x), list(x) -/
def zTupO (K : PySem.W.Frag) : List V → Hp → VK → Prop := fun xs H Q => ∃ p ys, xs = [.ref p] ∧ ((SqL K H p ys ∧ ∀ l, H l = none → Q (.ref l) (upd H l (.tup ys))) ∨ (SqT K H p ys ∧ Q (.ref p) H))
theorem call_tuple_z {X : Cx} : CallR X (.type "tuple") (zTupO X.K) := call_tuple_of
theorem g_tupL {a : Addr} {xs : List V} (h : SqL K H a xs) (q : ∀ p H2, H p = none → Same H H2 → H2 p = some (.tup xs) → Q (.ref p) H2) : zTupO K [.ref a] H Q := ⟨a, xs, rfl, .inl ⟨h, fun p hp => q p _ hp (same_upd hp) upd_same⟩⟩
theorem g_tupT {a : Addr} {xs : List V} (h : SqT K H a xs) (q : Q (.ref a) H) : zTupO K [.ref a] H Q := ⟨a, xs, rfl, .inr ⟨h, q⟩⟩
def zLstO (K : PySem.W.Frag) : List V → Hp → VK → Prop := fun xs H Q => ∃ p ys, xs = [.ref p] ∧ (SqL K H p ys ∨ SqT K H p ys) ∧ ∀ l, H l = none → Q (.ref l) (upd H l (.lst ys))
theorem call_list_z {X : Cx} : CallR X (.type "list") (zLstO X.K) := call_list_of
theorem g_lstO {a : Addr} {xs : List V} (h : SqL K H a xs ∨ SqT K H a xs) (q : ∀ p H2, H p = none → Same H H2 → H2 p = some (.lst xs) → Q (.ref p) H2) : zLstO K [.ref a] H Q := ⟨a, xs, rfl, h, fun p hp => q p _ hp (same_upd hp) upd_same⟩
def zAbs : List V → Hp → VK → Prop := fun xs H Q => ∃ i, xs = [.int i] ∧ Q (.int (if i < 0 then -i else i)) H
theorem call_abs_z {X : Cx} : CallR X (.builtin "abs") zAbs := call_abs
theorem g_abs {j : Int} (q : Q (.int (if j < 0 then -j else j)) H) : zAbs [.int j] H Q := ⟨j, rfl, q⟩
def zInt1 : List V → Hp → VK → Prop := fun xs H Q => (∃ i, xs = [.int i] ∧ Q (.int i) H) ∨ ∃ k, xs = [.bl k] ∧ Q (.int (if k then 1 else 0)) H
theorem call_int_z {X : Cx} : CallR X (.type "int") zInt1 := call_int1
theorem g_intB {b : Bool} (q : Q (.int (if b then 1 else 0)) H) : zInt1 [.bl b] H Q := .inr ⟨b, rfl, q⟩
def zMax2 : List V → Hp → VK → Prop := fun xs H Q => ∃ i j, xs = [.int i, .int j] ∧ Q (.int (if j > i then j else i)) H
theorem call_max_z {X : Cx} (hc : X.calm = true) : CallR X (.builtin "max") zMax2 := call_max2 hc
theorem g_max {i j : Int} (q : Q (.int (if j > i then j else i)) H) : zMax2 [.int i, .int j] H Q := ⟨i, j, rfl, q⟩
def zMin2 : List V → Hp → VK → Prop := fun xs H Q => ∃ i j, xs = [.int i, .int j] ∧ Q (.int (if j < i then j else i)) H
theorem call_min_z {X : Cx} (hc : X.calm = true) : CallR X (.builtin "min") zMin2 := call_min2 hc
theorem g_min {i j : Int} (q : Q (.int (if j < i then j else i)) H) : zMin2 [.int i, .int j] H Q := ⟨i, j, rfl, q⟩
theorem g_ixL {p : Addr} {xs : List V} {i : Int} {v : V} (h : SqL K H p xs) (e : atI xs i = some v) (q : Q v H) : rIxL K (.ref p) (.int i) H Q := ⟨p, xs, i, v, rfl, rfl, h, e, q⟩
theorem g_ixT {p : Addr} {xs : List V} {i : Int} {v : V} (h : SqT K H p xs) (e : atI xs i = some v) (q : Q v H) : rIxT K (.ref p) (.int i) H Q := ⟨p, xs, i, v, rfl, rfl, h, e, q⟩
theorem g_inT {p : Addr} {xs : List V} (h : SqT K H p xs) (hx : flatV x = true) (ha : xs.all flatV = true) (q : Q (.bl (inV x xs)) H) : rIn K false x (.ref p) H Q := ⟨p, xs, rfl, .inr h, hx, ha, q⟩
theorem g_ninT {p : Addr} {xs : List V} (h : SqT K H p xs) (hx : flatV x = true) (ha : xs.all flatV = true) (q : Q (.bl (!inV x xs)) H) : rIn K true x (.ref p) H Q := ⟨p, xs, rfl, .inr h, hx, ha, q⟩
theorem g_inL {p : Addr} {xs : List V} (h : SqL K H p xs) (hx : flatV x = true) (ha : xs.all flatV = true) (q : Q (.bl (inV x xs)) H) : rIn K false x (.ref p) H Q := ⟨p, xs, rfl, .inl h, hx, ha, q⟩
theorem g_ninL {p : Addr} {xs : List V} (h : SqL K H p xs) (hx : flatV x = true) (ha : xs.all flatV = true) (q : Q (.bl (!inV x xs)) H) : rIn K true x (.ref p) H Q := ⟨p, xs, rfl, .inl h, hx, ha, q⟩
/-- == of data -/
theorem g_eqD {d e : PyData} (hx : Dp K H x d) (hy : Dp K H y e) (h1 : SeqAt.shaped d = true) (h2 : SeqAt.shaped e = true) (q : Q (.bl (PyData.eqv d e)) H) : rEqD K x y H Q := ⟨d, e, hx, hy, h1, h2, q⟩
theorem g_neD {d e : PyData} (hx : Dp K H x d) (hy : Dp K H y e) (h1 : SeqAt.shaped d = true) (h2 : SeqAt.shaped e = true) (q : Q (.bl (!PyData.eqv d e)) H) : rNeD K x y H Q := ⟨d, e, hx, hy, h1, h2, q⟩
/-- attributes -/
def zFld (K : PySem.W.Frag) (f : Str) : V → Hp → VK → Prop := fun x H Q => ∃ a C dx fs v, x = .ref a ∧ H a = some (.ins C dx fs) ∧ Cls K C ∧ NoAttr K C f ∧ fs.lookup f = some v ∧ Q v H
theorem g_fld {f : Str} (h : ta σ H fun x H1 => zFld K f x H1 Q) : tFld K ta f σ H Q := h
theorem g_fldv {a C dx : Addr} {fs : List (Str × V)} {f : Str} (h : H a = some (.ins C dx fs)) (hc : Cls K C) (hn : NoAttr K C f) (hl : fs.lookup f = some v) (q : Q v H) : zFld K f (.ref a) H Q := ⟨a, C, dx, fs, v, rfl, h, hc, hn, hl, q⟩
def zSet (K : PySem.W.Frag) (f : Str) (y : V) : V → Hp → (Hp → Prop) → Prop := fun x H Q => ∃ a C dx fs, x = .ref a ∧ H a = some (.ins C dx fs) ∧ Cls K C ∧ NoAttr K C f ∧ fs.length < 1000 ∧ Q (upd H a (.ins C dx (putF f y fs)))
theorem g_set {f : Str} {tv : TE} (h : tv σ H fun y H1 => ta σ H1 fun x H2 => zSet K f y x H2 (nx σ)) : sFld K ta tv f ⟨nx, rt, bk, ct⟩ σ H := h
theorem g_setv {a C dx : Addr} {fs fs' : List (Str × V)} {f : Str} {P : Hp → Prop} (h : H a = some (.ins C dx fs)) (hc : Cls K C) (hn : NoAttr K C f) (hl : fs.length < 1000) (hp : putF f y fs = fs') (q : P (upd H a (.ins C dx fs'))) : zSet K f y (.ref a) H P := ⟨a, C, dx, fs, rfl, h, hc, hn, hl, by rw [hp]; exact q⟩
/-- a method -/
def zMeth (C : Addr) (m : Str) (sp : Sp) (E : XK) (σ : L2.St) (t : TA) : V → Hp → VK → Prop := fun x H Q => ∃ a dx fs, x = .ref a ∧ H a = some (.ins C dx fs) ∧ fs.lookup m = none ∧ t σ H fun vs H2 => sp (x :: vs) H2 Q E
theorem g_meth {C : Addr} {m : Str} {sp : Sp} {E : XK} {ta' : TA} (h : ta σ H fun x H1 => zMeth C m sp E σ ta' x H1 Q) : tMeth C m sp [] E ta ta' σ H Q := by
  have e : (fun (x : V) (H1 : Hp) => zMeth C m sp E σ ta' x H1 Q) = fun x H1 => ∃ a dx fs, x = .ref a ∧ H1 a = some (.ins C dx fs) ∧ fs.lookup m = none ∧ ta' σ H1 fun vs H2 => sp (x :: (vs ++ [])) H2 Q E := by
    funext x H1
    show (∃ a dx fs, x = .ref a ∧ H1 a = some (.ins C dx fs) ∧ fs.lookup m = none ∧ ta' σ H1 fun vs H2 => sp (x :: vs) H2 Q E) = _
    simp only [List.append_nil]
  rw [e] at h
  exact h
theorem g_methv {a C dx : Addr} {m : Str} {fs : List (Str × V)} {sp : Sp} {E : XK} {ta' : TA} (h : H a = some (.ins C dx fs)) (hl : fs.lookup m = none) (q : ta' σ H fun vs H2 => sp (.ref a :: vs) H2 Q E) : zMeth C m sp E σ ta' (.ref a) H Q := ⟨a, dx, fs, rfl, h, hl, q⟩
/-- methods of built-in types -/
def zBM (K : PySem.W.Frag) (T : String) (r : V → List V → Hp → VK → Prop) (σ : L2.St) (t : TA) : V → Hp → VK → Prop := fun x H Q => tyV K T x H ∧ t σ H fun xs H2 => r x xs H2 Q
theorem g_bm {T : String} {r : V → List V → Hp → VK → Prop} {ta' : TA} (h : ta σ H fun x H1 => zBM K T r σ ta' x H1 Q) : tBM K T r ta ta' σ H Q := h
theorem g_bmL {a : Addr} {xs : List V} {r : V → List V → Hp → VK → Prop} {ta' : TA} (h : SqL K H a xs) (q : ta' σ H fun ys H2 => r (.ref a) ys H2 Q) : zBM K "list" r σ ta' (.ref a) H Q := ⟨.inl ⟨rfl, _, h⟩, q⟩
def zBM0 (K : PySem.W.Frag) (T : String) (r : V → List V → Hp → VK → Prop) : V → Hp → VK → Prop := fun x H Q => tyV K T x H ∧ r x [] H Q
theorem g_bm0 {T : String} {r : V → List V → Hp → VK → Prop} (h : ta σ H fun x H1 => zBM0 K T r x H1 Q) : tBM0 K T r ta σ H Q := h
theorem g_bm0L {a : Addr} {xs : List V} {r : V → List V → Hp → VK → Prop} (h : SqL K H a xs) (q : r (.ref a) [] H Q) : zBM0 K "list" r (.ref a) H Q := ⟨.inl ⟨rfl, _, h⟩, q⟩
theorem g_append {l : Addr} {xs : List V} (h : H l = some (.lst xs)) (hl : xs.length < 100000) (q : ∀ H2, Chg (· = l) H H2 → H2 l = some (.lst (xs ++ [y])) → Q .non H2) : rAppend (.ref l) [y] H Q :=
  ⟨l, xs, y, rfl, rfl, h, smallt hl, q _ (chg_upd rfl (by intro ys; rw [h]; intro z; cases z)) upd_same⟩
theorem g_popAt {l : Addr} {xs : List V} {i : Int} {k : Nat} (h : H l = some (.lst xs)) (e : i = (k : Int)) (hk : k < xs.length) (hl : xs.length < 100000) (q : ∀ H2 z, xs[k]? = some z → Chg (· = l) H H2 → H2 l = some (.lst (xs.eraseIdx k)) → Q z H2) : rPopAt (.ref l) [.int i] H Q := by
  subst e
  refine ⟨l, xs, k, k, xs[k], rfl, rfl, h, by omega, by omega, ?_, List.getElem?_eq_getElem hk, q _ _ (List.getElem?_eq_getElem hk) (chg_upd rfl (by intro ys; rw [h]; intro z; cases z)) upd_same⟩
  unfold seqIndex?
  simp
  omega
theorem g_setL {l : Addr} {xs : List V} {i : Int} {k : Nat} {P : Hp → Prop} (h : H l = some (.lst xs)) (e : i = (k : Int)) (hk : k < xs.length) (q : ∀ H2, Chg (· = l) H H2 → H2 l = some (.lst (xs.set k v)) → P H2) : rSetL (.ref l) (.int i) v H P := by
  subst e
  refine ⟨l, xs, k, k, rfl, rfl, h, ?_, q _ (chg_upd rfl (by intro ys; rw [h]; intro z; cases z)) upd_same⟩
  unfold ixN
  rw [if_pos (Int.natCast_nonneg k), if_pos (by omega)]
  rfl
theorem g_sub {to ti : TE} {ts : V → V → V → Hp → (Hp → Prop) → Prop} {P : L2.St → Hp → Prop} (h : to σ H fun o H1 => ti σ H1 fun i H2 => ts o i v H2 fun H3 => P σ H3) : gSub to ti ts v σ H P := h
/-- targets that are tuples -/
theorem g_gtup {a : Addr} {xs : List V} {n : Nat} {t : TGs} {P : L2.St → Hp → Prop} (h : SqT K H a xs) (hl : xs.length = n) (q : t xs σ H P) : gTup K n t (.ref a) σ H P := ⟨a, xs, rfl, h, hl, q⟩
theorem g_gcons {t : TG} {u : TGs} {r : List V} {P : L2.St → Hp → Prop} (q : t v σ H fun σ' H' => u r σ' H' P) : gCons t u (v :: r) σ H P := ⟨v, r, rfl, q⟩
theorem g_gnil {P : L2.St → Hp → Prop} (q : P σ H) : gNil [] σ H P := ⟨rfl, q⟩
theorem g_sum {a : Addr} {ns : List Int} (h : SqL K H a (ns.map V.int)) (q : Q (.int ns.sum) H) : rSum K [.ref a] H Q := ⟨a, ns, rfl, h, q⟩
theorem g_all {a : Addr} {bs : List Bool} (h : SqL K H a (bs.map V.bl)) (q : Q (.bl (bs.all id)) H) : rAll K [.ref a] H Q := ⟨a, bs, rfl, h, q⟩
theorem g_any {a : Addr} {bs : List Bool} (h : SqL K H a (bs.map V.bl)) (q : Q (.bl (bs.any id)) H) : rAny K [.ref a] H Q := ⟨a, bs, rfl, h, q⟩

/-! ### loops -/
def zFor (J : It) (g : TG) (tb : TS) : TS := fun D σ H => ∃ W : Nat → Nat → L2.St → Hp → Prop, (∃ m, W 0 m σ H) ∧ ∀ i m σ H, W i m σ H →
  (J.stop i H ∧ D.nx σ H) ∨ (J.go i H ∧ ∃ N : L2.St → Hp → Prop, (∀ σ' H', N σ' H' → ∃ m', m' < m ∧ W (i + 1) m' σ' H') ∧ ∀ x H', J.yld i H x H' → g x σ H' fun σ2 H2 => tb { D with nx := N, ct := N, bk := D.nx } σ2 H2)
theorem g_for {wi : TI} {g : TG} {tb : TS} {D : Ends} (h : wi σ H fun J H1 => zFor J g tb D σ H1) : tFor wi g tb D σ H := h
theorem g_forW {J : It} {n : Nat} {G : Hp → Prop} {Y : Nat → Hp → V → Hp → Prop} {g : TG} {tb : TS} (w : Walk J n G Y) (Pv : Nat → L2.St → Hp → Prop) (h0 : Pv 0 σ H) (hG : ∀ i σ H, i ≤ n → Pv i σ H → G H)
    (hs : ∀ i x σ H H', i < n → Pv i σ H → Y i H x H' → g x σ H' fun σ2 H2 => tb ⟨Pv (i + 1), rt, nx, Pv (i + 1)⟩ σ2 H2) (hd : ∀ σ H, Pv n σ H → nx σ H) : zFor J g tb ⟨nx, rt, bk, ct⟩ σ H :=
  for_it w (D := ⟨nx, rt, bk, ct⟩) Pv h0 hG hs hd
/-- over lo, lo + 1, .. -/
theorem g_forR {lo : Int} {n : Nat} {g : TG} {tb : TS} (Pv : Nat → L2.St → Hp → Prop) (h0 : Pv 0 σ H)
    (hs : ∀ i σ H, i < n → Pv i σ H → g (.int (lo + i)) σ H fun σ2 H2 => tb ⟨Pv (i + 1), rt, nx, Pv (i + 1)⟩ σ2 H2) (hd : ∀ σ H, Pv n σ H → nx σ H) : zFor (Itr lo n) g tb ⟨nx, rt, bk, ct⟩ σ H :=
  for_range (D := ⟨nx, rt, bk, ct⟩) Pv h0 hs hd
theorem g_forL {a : Addr} {xs : List V} {g : TG} {tb : TS} (Pv : Nat → L2.St → Hp → Prop) (h0 : Pv 0 σ H) (hl : ∀ i σ H, i ≤ xs.length → Pv i σ H → SqL K H a xs)
    (hs : ∀ i x σ H, xs[i]? = some x → Pv i σ H → g x σ H fun σ2 H2 => tb ⟨Pv (i + 1), rt, nx, Pv (i + 1)⟩ σ2 H2) (hd : ∀ σ H, Pv xs.length σ H → nx σ H) : zFor (Itl K a) g tb ⟨nx, rt, bk, ct⟩ σ H :=
  for_list (D := ⟨nx, rt, bk, ct⟩) Pv h0 hl hs hd
theorem g_forT {a : Addr} {xs : List V} {g : TG} {tb : TS} (Pv : Nat → L2.St → Hp → Prop) (h0 : Pv 0 σ H) (hl : ∀ i σ H, i ≤ xs.length → Pv i σ H → SqT K H a xs)
    (hs : ∀ i x σ H, xs[i]? = some x → Pv i σ H → g x σ H fun σ2 H2 => tb ⟨Pv (i + 1), rt, nx, Pv (i + 1)⟩ σ2 H2) (hd : ∀ σ H, Pv xs.length σ H → nx σ H) : zFor (Itt K a) g tb ⟨nx, rt, bk, ct⟩ σ H :=
  for_tup (D := ⟨nx, rt, bk, ct⟩) Pv h0 hl hs hd
/-- what is walked -/
def zIL (K : PySem.W.Frag) : V → Hp → (It → Hp → Prop) → Prop := fun x H R => ∃ a, x = .ref a ∧ (∃ xs, SqL K H a xs) ∧ R (Itl K a) H
def zIT (K : PySem.W.Frag) : V → Hp → (It → Hp → Prop) → Prop := fun x H R => ∃ a, x = .ref a ∧ (∃ xs, SqT K H a xs) ∧ R (Itt K a) H
theorem g_iList {RI : It → Hp → Prop} (h : te σ H fun x H1 => zIL K x H1 RI) : iList K te σ H RI := h
theorem g_iTup {RI : It → Hp → Prop} (h : te σ H fun x H1 => zIT K x H1 RI) : iTup K te σ H RI := h
theorem g_itL {a : Addr} {xs : List V} {RI : It → Hp → Prop} (h : SqL K H a xs) (q : RI (Itl K a) H) : zIL K (.ref a) H RI := ⟨a, rfl, ⟨xs, h⟩, q⟩
theorem g_itT {a : Addr} {xs : List V} {RI : It → Hp → Prop} (h : SqT K H a xs) (q : RI (Itt K a) H) : zIT K (.ref a) H RI := ⟨a, rfl, ⟨xs, h⟩, q⟩
def zR1 : List V → Hp → (It → Hp → Prop) → Prop := fun vs H R => ∃ j : Int, vs = [.int j] ∧ -(2 ^ 62) ≤ j ∧ j < 2 ^ 62 ∧ R (Itr 0 j.toNat) H
def zR2 : List V → Hp → (It → Hp → Prop) → Prop := fun vs H R => ∃ i j : Int, vs = [.int i, .int j] ∧ (-(2 ^ 62) ≤ i ∧ i < 2 ^ 62 ∧ -(2 ^ 62) ≤ j ∧ j < 2 ^ 62) ∧ R (Itr i (j - i).toNat) H
theorem g_iR1 {ta : TA} {RI : It → Hp → Prop} (h : ta σ H fun vs H1 => zR1 vs H1 RI) : iRng1 ta σ H RI := h
theorem g_iR2 {ta : TA} {RI : It → Hp → Prop} (h : ta σ H fun vs H1 => zR2 vs H1 RI) : iRng2 ta σ H RI := h
theorem g_r1 {n : Nat} {j : Int} {RI : It → Hp → Prop} (e : j = (n : Int)) (hn : n ≤ 1000000) (q : RI (Itr 0 n) H) : zR1 [.int j] H RI := by
  subst e
  exact ⟨(n : Int), rfl, by omega, by omega, by rw [Int.toNat_natCast]; exact q⟩
theorem g_r2 {n : Nat} {i j : Int} {RI : It → Hp → Prop} (e : (j - i).toNat = n) (h1 : -1000000 ≤ i ∧ i ≤ 1000000) (h2 : -1000000 ≤ j ∧ j ≤ 1000000) (q : RI (Itr i n) H) : zR2 [.int i, .int j] H RI := by
  subst e
  exact ⟨i, j, rfl, ⟨by omega, by omega, by omega, by omega⟩, q⟩
def zIE (K : PySem.W.Frag) : List V → Hp → (It → Hp → Prop) → Prop := fun vs H R => ∃ a xs, vs = [.ref a] ∧ SqL K H a xs ∧ R (Ite K a) H
theorem g_iEnum {ta : TA} {RI : It → Hp → Prop} (h : ta σ H fun vs H1 => zIE K vs H1 RI) : iEnum K ta σ H RI := h
theorem g_itE {a : Addr} {xs : List V} {RI : It → Hp → Prop} (h : SqL K H a xs) (q : RI (Ite K a) H) : zIE K [.ref a] H RI := ⟨a, xs, rfl, h, q⟩
/-- a while: W by a number that falls -/
def zWb (W : Nat → L2.St → Hp → Prop) (m : Nat) (tb : TS) (D : Ends) (σ : L2.St) (H1 : Hp) : Prop := ∃ N : L2.St → Hp → Prop, (∀ σ' H', N σ' H' → ∃ m', m' < m ∧ W m' σ' H') ∧ tb { D with nx := N, ct := N, bk := D.nx } σ H1
theorem g_while {tb : TS} (W : Nat → L2.St → Hp → Prop) (m0 : Nat) (h0 : W m0 σ H) (hs : ∀ m σ H, W m σ H → c σ H fun b H1 => if b = true then zWb W m tb ⟨nx, rt, bk, ct⟩ σ H1 else nx σ H1) : tWhile c tb ⟨nx, rt, bk, ct⟩ σ H :=
  ⟨W, ⟨m0, h0⟩, hs⟩
theorem g_wb {tb : TS} {W : Nat → L2.St → Hp → Prop} {m : Nat} (h : tb ⟨fun σ' H' => ∃ m', m' < m ∧ W m' σ' H', rt, nx, fun σ' H' => ∃ m', m' < m ∧ W m' σ' H'⟩ σ H) : zWb W m tb ⟨nx, rt, bk, ct⟩ σ H := ⟨_, fun _ _ h => h, h⟩
/-! ### comprehensions -/
def zLc (J : It) (g : TG) (tt : TT) (te : TE) (vs : List Nat) (σ : L2.St) (H : Hp) (Q : VK) : Prop := ∀ D, H D = none → ∃ W : Nat → Nat → Hp → Prop, (∃ m, W 0 m (upd H D (.lst []))) ∧ ∀ i m H, W i m H →
  (J.stop i H ∧ Q (.ref D) H) ∨ (J.go i H ∧ ∃ Nx : Hp → Prop, (∀ H', Nx H' → ∃ m', m' < m ∧ W (i + 1) m' H') ∧ ∀ x H', J.yld i H x H' → g x (wipe σ vs) H' fun σ2 H2 => wipe σ2 vs = wipe σ vs ∧ tt σ2 H2 fun b H3 =>
    if b = true then te σ2 H3 fun y H4 => ∃ acc, H4 D = some (.lst acc) ∧ acc.length < sizeLine ∧ Nx (upd H4 D (.lst (acc ++ [y]))) else Nx H3)
theorem g_lc {wi : TI} {g : TG} {tt : TT} {vs : List Nat} (h : wi σ H fun J H1 => zLc J g tt te vs σ H1 Q) : tLc wi g tt te vs σ H Q := h
def zPv (D : Addr) (Pv : Addr → Nat → List V → Hp → Prop) (i : Nat) (H : Hp) : Prop := ∃ acc, H D = some (.lst acc) ∧ acc.length ≤ i ∧ Pv D i acc H
def zAcc (D : Addr) (Pv : Addr → Nat → List V → Hp → Prop) (i : Nat) (y : V) (H : Hp) : Prop := ∃ acc, H D = some (.lst acc) ∧ acc.length < sizeLine ∧ zPv D Pv (i + 1) (upd H D (.lst (acc ++ [y])))
theorem g_acc {D : Addr} {Pv : Addr → Nat → List V → Hp → Prop} {acc : List V} (h : H D = some (.lst acc)) (hl : acc.length ≤ i) (hi : i < 100000) (q : ∀ H2, Chg (· = D) H H2 → H2 D = some (.lst (acc ++ [y])) → Pv D (i + 1) (acc ++ [y]) H2) : zAcc D Pv i y H :=
  ⟨acc, h, smallt (by omega), acc ++ [y], upd_same, by rw [List.length_append, List.length_singleton]; omega, q _ (chg_upd rfl (by intro ys; rw [h]; intro z; cases z)) upd_same⟩
theorem g_skip {D : Addr} {Pv : Addr → Nat → List V → Hp → Prop} {acc : List V} (h : H D = some (.lst acc)) (hl : acc.length ≤ i) (q : Pv D (i + 1) acc H) : zPv D Pv (i + 1) H := ⟨acc, h, by omega, q⟩
theorem g_lcW {J : It} {n : Nat} {G : Hp → Prop} {Y : Nat → Hp → V → Hp → Prop} {g : TG} {tt : TT} {vs : List Nat} (w : Walk J n G Y) (Pv : Addr → Nat → List V → Hp → Prop)
    (h0 : ∀ D H1, H D = none → Same H H1 → H1 D = some (.lst []) → Pv D 0 [] H1) (hG : ∀ D i acc H', i ≤ n → H' D = some (.lst acc) → Pv D i acc H' → G H')
    (hs : ∀ D i x acc H' H2, H D = none → i < n → H' D = some (.lst acc) → acc.length ≤ i → Pv D i acc H' → Y i H' x H2 → g x (wipe σ vs) H2 fun σ2 H3 => wipe σ2 vs = wipe σ vs ∧ tt σ2 H3 fun b H4 => if b = true then te σ2 H4 fun y H5 => zAcc D Pv i y H5 else zPv D Pv (i + 1) H4)
    (hd : ∀ D acc H', H D = none → H' D = some (.lst acc) → acc.length ≤ n → Pv D n acc H' → Q (.ref D) H') : zLc J g tt te vs σ H Q := fun D hD =>
  lc_it w (zPv D Pv) ⟨[], upd_same, Nat.le_refl _, h0 D _ hD (same_upd hD) upd_same⟩ (fun i H' hi ⟨acc, h1, _, h3⟩ => hG D i acc H' hi h1 h3) (fun i x H' H2 hi ⟨acc, h1, h2, h3⟩ y => hs D i x acc H' H2 hD hi h1 h2 h3 y) fun H' ⟨acc, h1, h2, h3⟩ => hd D acc H' hD h1 h2 h3
theorem g_yes (q : R true H) : tYes σ H R := q
end
end Lay

set_option Elab.async false
set_option linter.all false
set_option maxRecDepth 100000
set_option maxHeartbeats 2000000
/-! rules that the hand layer lacks -/
namespace PySem
open Sem (wp)
theorem meets_enumerate_newB1 {v : Value} {o : Obj} {H : Heap → Prop} (B : Begins v o H) :
    Meets (Builtin.«enumerate.__new__» ⟨[.type "enumerate", v], []⟩) (fun _ R s => H s.heap ∧
      R (.ok (.ret (.ref (s.heap.push o).objs.size))) { s with heap := (s.heap.push o).push { cls := .type "enumerate", data := .fields #[.none, .bool false, .ref s.heap.objs.size, rawInt 0, .none, .none] } }) :=
  .of_wp fun prog w A R s h => by
    obtain ⟨hp, g, d, tk, os⟩ := s; obtain ⟨h1, h⟩ := h
    have hsub := sub_enumerate
    have q1 : ∀ {A' : Around} {E : Value → Shared → Prop} {Q : Value → Shared → Prop}, Q (.ref hp.objs.size) ⟨hp.push o, g, d, tk, os⟩ → wpAny (model prog w) A' (pyIter v) Q E ⟨hp, g, d, tk, os⟩ :=
      fun q => B.iter prog w _ _ ⟨hp, g, d, tk, os⟩ _ h1 q
    wp_walk using q1
    refine wpAny_stack_any fun st => wpAny_pure ?_
    split
    · rename_i c _ _ _ _ _
      cases (c == Value.type "enumerate")
      · wp_walk using q1
        exact ⟨_, rfl, h⟩
      · wp_walk using q1
        exact ⟨_, rfl, h⟩
    · wp_walk using q1
      exact ⟨_, rfl, h⟩
theorem enum_begins1 {prog : Program} {w : World} {A : Around} {E : Value → Shared → Prop} {s : Shared} {v : Value} {o : Obj} {H : Heap → Prop} {Q : Value → Shared → Prop} (B : Begins v o H) (h1 : H s.heap)
    (h : ∀ h', IsEnum h' (s.heap.objs.size + 1) s.heap.objs.size 0 .none → h'.get? s.heap.objs.size = some o → h'.objs.size = s.heap.objs.size + 2 →
      (∀ b o, s.heap.get? b = some o → h'.get? b = some o) → Q (.ref (s.heap.objs.size + 1)) { s with heap := h' }) :
    wpAny (model prog w) A (call (.type "enumerate") [v]) Q E s := by
  refine callType_new F.called_enumerate (by decide) (F.typeCall_enumerate_1 _) (F.newCall_enumerate_1 _) (fun obj => F.args_object_init_2 obj _) F.entry_enumerate_new
    (meets_enumerate_newB1 B) ⟨h1, ?_⟩
  have hz : (s.heap.push o).objs.size = s.heap.objs.size + 1 := Heap.size_push ..
  show _ ∧ _
  rw [hz]
  have he : IsEnum ((s.heap.push o).push { cls := .type "enumerate", data := .fields #[.none, .bool false, .ref s.heap.objs.size, rawInt 0, .none, .none] }) (s.heap.objs.size + 1) s.heap.objs.size 0 .none := by
    have := Heap.get?_push_size (s.heap.push o) (o := { cls := .type "enumerate", data := .fields #[.none, .bool false, .ref s.heap.objs.size, rawInt 0, .none, .none] }) rfl
    rw [hz] at this; exact this
  refine ⟨⟨_, he, rfl⟩, h _ he (Heap.get?_push_of_some _ (Heap.get?_push_size _ B.free)) (by rw [Heap.size_push, hz]) fun b o x => Heap.get?_push_of_some _ (Heap.get?_push_of_some _ x)⟩
end PySem
namespace Lay
open PySem PySem.Spec PyProof.Rows L2
/-! ### for i, x in enumerate(t), t a tuple -/
def IteT (K : PySem.W.Frag) (a : Addr) : It :=
  ⟨fun i H => ∃ (xs : List V) (x : V), SqT K H a xs ∧ xs[i]? = some x, fun i H v H' => ∃ T x, v = .ref T ∧ H T = none ∧ H' = upd H T (.tup [.int (i : Nat), x]) ∧ ∀ xs, SqT K H a xs → xs[i]? = some x, fun i H => ∃ xs : List V, SqT K H a xs ∧ xs.length ≤ i⟩
theorem turn_enumT {P : Program} {w : World} {K : PySem.W.Frag} {elts : List Expr} {kk : Nat} {tpos : Pos} (a e it : Addr) :
    Turn P w K (.Tuple elts kk tpos) (IteT K a) [e, it] e (fun i h => (∃ old, IsEnum h e it ((i : Nat) : Int) old) ∧ h.IsTupleIter it a i ∧ e ≠ it ∧ a ≠ it ∧ a ≠ e) where
  mem := by simp
  obj := fun i h st b hb => by
    obtain ⟨⟨old, he⟩, ⟨o, ho, hc, hd⟩, _⟩ := st
    have e' : b = e ∨ b = it := by simpa using hb
    rcases e' with z | z
    · rw [z]; exact ⟨_, he, fun v q => nomatch q⟩
    · rw [z]; exact ⟨o, ho, fun v q => by rw [hd] at q; cases q⟩
  keep := fun i h h' st k => let ⟨⟨old, he⟩, hi, hne⟩ := st; ⟨⟨old, k e (by simp) _ he⟩, hi.at fun o q => k it (by simp) o q, hne⟩
  item := by
    intro X hP hw hK hc i pins s σ H E I hf st hg
    subst hP hw hK
    obtain ⟨⟨old, he⟩, hit, hne, hai, hae⟩ := st
    obtain ⟨xs, x, hq, hx⟩ := hg
    obtain ⟨its, rv, p, hz⟩ := I.tuple hq
    obtain ⟨u, hu, ru⟩ := rv.get hx
    have hel : e < s.heap.objs.size := Heap.lt_size he
    have hil : it < s.heap.objs.size := by obtain ⟨_, q, _⟩ := hit; exact Heap.lt_size q
    have hlt : i < its.toArray.size := by
      have := (List.getElem?_eq_some_iff.mp hu).1
      simpa using this
    refine wpAny_pyNext_enum_itemD (Draws.tuple (show X.A.in1.handled = none from I.ok.hd hc) it a hai its.toArray) he ⟨hit, show s.heap.IsTuple a its.toArray from p⟩ hlt hne (by simp [hne, Ne.symm hae]) fun y h' tk hy ho hst' hT hsz hk => ?_
    have ey : y = u := by
      have h1 : its.toArray[i]? = some u := by simpa using hu
      rw [h1] at hy
      exact (Option.some.inj hy).symm
    subst ey
    refine ⟨_, rfl, wpAny_letOwnedTupleGo_enum (s := { s with heap := h', toks := tk + 1 }) ho fun h'' he' sb => ?_⟩
    have hT2 : h''.get? s.heap.objs.size = some { cls := .type "tuple", data := .seq #[.int i tk, y] } := (sb.2 _ (Nat.ne_of_gt hel)).trans hT
    have new : ObjOk X.prog X.w (upd H s.heap.objs.size (.tup [.int (i : Nat), x])) h'' s.heap.objs.size (.tup [.int (i : Nat), x]) :=
      ⟨by show 2 ≤ sizeLine; decide, [.int i tk, y], .cons ⟨_, rfl⟩ (.cons ru .nil), ⟨_, hT2, rfl, _, rfl⟩⟩
    have I1 : Inv X pins σ (upd H s.heap.objs.size (.tup [.int (i : Nat), x])) { s with heap := h'', toks := tk + 1 } :=
      I.turnedNew (ch := [e, it]) (fun b ob hb q => (sb.2 b (fun z => hb (by simp [z]))).trans (hk b ob (fun z => hb (by simp [z])) (fun z => hb (by simp [z])) q)) hf (Nat.le_refl _) new
    refine ⟨.ref s.heap.objs.size, _, I1, rfl, ⟨_, x, rfl, I.hok.fresh (Nat.le_refl _), rfl, fun ys hy => by rw [I.tuple_inj hy hq]; exact hx⟩, ⟨⟨y, ?_⟩, hst'.1.at fun o q => (sb.2 it (Ne.symm hne)).trans q, hne, hai, hae⟩, fun b hb => ?_⟩
    · have e1 : ((i + 1 : Nat) : Int) = (i : Int) + 1 := by omega
      rw [e1]; exact he'
    · have hb' : b < s.heap.objs.size := by
        have e' : b = e ∨ b = it := by simpa using hb
        rcases e' with z | z
        · rw [z]; exact hel
        · rw [z]; exact hil
      rw [upd_ne (Nat.ne_of_lt hb')]
      exact (hf b hb).1
  done := by
    intro X hP hw hK hc i pins s σ H E I hf st hg
    subst hP hw hK
    obtain ⟨⟨old, he⟩, hit, hne, hai, hae⟩ := st
    obtain ⟨xs, hq, hx⟩ := hg
    obtain ⟨its, rv, p, hz⟩ := I.tuple hq
    obtain ⟨f0, f1, f2, f3, f4, f5⟩ := hf it (by simp)
    have hl := rv.length
    have hT : s.TypeIs (.ref e) "enumerate" := ⟨_, he, rfl⟩
    unfold pyNext
    refine wpAny_bind (wpAny_attempt (wpAny_callSpecial?_slot (name := Str.ofString "__next__") hT F.slot_enumerate_next
      (wpAny_call_entry F.slot_enumerate_next hT F.entry_enumerate_next ?_ (F.args_enumerate_next_1 _))))
    show wpAny _ _ (field (.ref e) 2 >>= _) _ _ _
    refine wpAny_bind (wpAny_field he rfl (x := .ref it) rfl ?_)
    refine wpAny_bind (wpAny_nextOf_tuple_end (show X.A.in1.handled = none from I.ok.hd hc) hit (show s.heap.IsTuple a its.toArray from p) (by simp; omega) fun h' x he' hx' => ?_)
    obtain ⟨o, ho, hc'⟩ := hx'
    refine wpAny_bind (wpAny_isInstance (T := "StopIteration") (b := true) ⟨o, ho, hc'⟩ isSubtype_stop ?_)
    exact wpAny_pure ⟨rfl, I.turned (t' := s.toks) (fun b o hb q => he' b o hb q) f0 f1 f3 f4 f5⟩
  self := fun A i s Q E st h => let ⟨⟨_, he⟩, _⟩ := st; wpAny_pyIter_enum he h

def iEnumT (K : PySem.W.Frag) (ta : TA) : TI := fun σ H R => ta σ H fun vs H1 => ∃ a xs, vs = [.ref a] ∧ SqT K H1 a xs ∧ R (IteT K a) H1
theorem pi_enumT {X : Cx} {e : Expr} {ta : TA} {p pos tpos : Pos} {elts : List Expr} {kk : Nat} (hg : Gl X "enumerate") (hm : X.mg "enumerate" = none) (ha : PA X [e] ta) (hs : starEach [e] X.env = [(false, eval e X.env)] := by rfl) :
    PI X (.Tuple elts kk tpos) (.Call (.Name "enumerate" p) [e] [] pos) (iEnumT X.K ta) := by
  refine ⟨fun pins s σ H R I h => ?_⟩
  refine Call_ (ld_blt I hg hm boot_enumerate (PyProof.Rows.callWith_type1 (thn (ha.run pos pins s σ H _ I h) fun us s1 ⟨vs, H1, I1, r1, q1⟩ => ?_) hs rfl))
  obtain ⟨a, xs, ex, hq, q⟩ := q1
  subst ex
  cases r1 with
  | cons r rr =>
    cases rr
    cases r
    obtain ⟨its, rv, p', hz⟩ := I1.tuple hq
    have hal : a < s1.heap.objs.size := by
      obtain ⟨o, ho, _⟩ := (show s1.heap.IsTuple a its.toArray from p')
      exact Heap.lt_size ho
    refine enum_begins1 (begins_tuple a its.toArray) (show s1.heap.IsTuple a its.toArray from p') fun h' he hit hsz hk => wpAny_pyIter_enum he ?_
    have I2 : Inv X pins σ H1 { s1 with heap := h' } := I1.kept (t' := s1.toks) hk
    refine ⟨s1.heap.objs.size + 1, [s1.heap.objs.size + 1, s1.heap.objs.size], _, _, H1, rfl, I2, turn_enumT a (s1.heap.objs.size + 1) s1.heap.objs.size, ⟨⟨.none, he⟩, ⟨_, hit, rfl, rfl⟩, Nat.succ_ne_self _, Nat.ne_of_lt hal, Nat.ne_of_lt (Nat.lt_succ_of_lt hal)⟩, fun b hb => ?_, q⟩
    have e' : b = s1.heap.objs.size + 1 ∨ b = s1.heap.objs.size := by simpa using hb
    have hle : s1.heap.objs.size ≤ b := by
      rcases e' with z | z
      · rw [z]; exact Nat.le_add_right _ _
      · rw [z]; exact Nat.le_refl _
    exact I1.fpOk hle (I1.hok.fresh hle)
theorem walk_enumT {K : PySem.W.Frag} {a : Addr} {xs : List V} : Walk (IteT K a) xs.length (fun H => SqT K H a xs) (YPair (fun i => some (.int (i : Nat))) (fun i => xs[i]?)) := by
  refine ⟨fun i _ hi q => ⟨xs, xs[i], q, by simp [hi]⟩, fun _ q => ⟨xs, q, Nat.le_refl _⟩, fun i H v H' _ q y => ?_⟩
  obtain ⟨T, x, h1, h2, h3, h4⟩ := y
  exact ⟨T, .int (i : Nat), x, h1, h2, h3, rfl, h4 xs q⟩
def zIET (K : PySem.W.Frag) : List V → Hp → (It → Hp → Prop) → Prop := fun vs H R => ∃ a xs, vs = [.ref a] ∧ SqT K H a xs ∧ R (IteT K a) H
theorem g_iEnumT {K : PySem.W.Frag} {σ : L2.St} {H : Hp} {ta : TA} {RI : It → Hp → Prop} (h : ta σ H fun vs H1 => zIET K vs H1 RI) : iEnumT K ta σ H RI := h
theorem g_itET {K : PySem.W.Frag} {H : Hp} {a : Addr} {xs : List V} {RI : It → Hp → Prop} (h : SqT K H a xs) (q : RI (IteT K a) H) : zIET K [.ref a] H RI := ⟨a, xs, rfl, h, q⟩
/-! ### sum(range(..)) -/
def preI (a : Int) : Nat → Int
  | 0 => 0
  | n + 1 => preI a n + (a + n)
def tSumRg (te : L2.St → Hp → (Int → Int → Hp → Prop) → Prop) : TE := fun σ H Q => te σ H fun a b H1 => (0 ≤ a ∧ a ≤ b ∧ b ≤ 100000) ∧ Q (.int (preI a (b - a).toNat)) H1
theorem preI_eq (a : Int) : ∀ n : Nat, PySem.preSum (fun i => a + (i : Nat) * 1) n = preI a n
  | 0 => rfl
  | n + 1 => by
    rw [preI, ← preI_eq a n]
    show PySem.preSum (fun i => a + (i : Nat) * 1) n + (a + (n : Int) * 1) = _
    rw [Int.mul_one]
theorem preI_bd (a : Int) (ha : 0 ≤ a ∧ a ≤ 100000) : ∀ n : Nat, n ≤ 100000 → 0 ≤ preI a n ∧ preI a n ≤ n * 200000
  | 0, _ => ⟨Int.le_refl _, by show (0 : Int) ≤ (0 : Nat) * 200000; omega⟩
  | n + 1, h => by
    have ih := preI_bd a ha n (by omega)
    unfold preI
    constructor <;> omega
theorem pe_sumRg {X : Cx} {e : Expr} {te : L2.St → Hp → (Int → Int → Hp → Prop) → Prop} {p pos : Pos} (hc : X.calm = true) (hg : Gl X "sum") (hm : X.mg "sum" = none) (he : PRg X e te) (na : starEach [e] X.env = (false, eval e X.env) :: starEach [] X.env := by rfl) : PE X (.Call (.Name "sum" p) [e] [] pos) (tSumRg te) := by
  refine ⟨fun pins s σ H Q I h => ?_⟩
  refine Call_ (ld_blt I hg hm PyProof.Rows.boot_sum (PyProof.Rows.callWith_builtin1 (PyProof.Rows.args_cons (thn (he pins s σ H _ I h) fun x s1 ⟨r, a, b, t, u, v, H1, ex, hr, I1, ok, q⟩ => PyProof.Rows.args_nil ?_) na) na rfl))
  subst ex
  obtain ⟨h1, h2, h3⟩ := ok
  refine call_sum_walk (wpAny_pyIter_range hr (small_one (by omega) (by omega) (by omega) (by omega)) ?_)
  have hn : Builtin.Range.rangeSize a b 1 = (((b - a).toNat : Nat) : Int) := rangeSize_nat a b
  refine ⟨s1.heap.objs.size, [s1.heap.objs.size], [s1.heap.objs.size], (b - a).toNat, _, _, fun i => a + (i : Nat) * 1, rfl, Walks.range (show X.A.in1.handled = none from I1.ok.hd hc) s1.heap.objs.size a 1 (b - a).toNat, ?_, fun c hb => ?_, fun i v h => h, fun j hj => ?_, fun h' tk t' hk => ?_⟩
  · show IsRangeIter _ _ _ _ _
    rw [show a + ((0 : Nat) : Int) * 1 = a by omega, show (((b - a).toNat : Nat) : Int) - ((0 : Nat) : Int) = (((b - a).toNat : Nat) : Int) by omega, ← hn]
    exact Heap.get?_push_size _ rfl
  · have e : c = s1.heap.objs.size := by simpa using hb
    rw [e, Heap.size_push]
    exact Nat.lt_succ_self _
  · obtain ⟨q1, q2⟩ := preI_bd a (by omega) (j + 1) (by omega)
    rw [preI_eq]
    have h4 : j + 1 ≤ 100000 := by omega
    unfold PySem.InLong
    show (-(2 ^ 63) ≤ a + ((j : Nat) : Int) * 1 ∧ a + ((j : Nat) : Int) * 1 < 2 ^ 63) ∧ (-(2 ^ 63) ≤ preI a (j + 1) ∧ preI a (j + 1) < 2 ^ 63)
    generalize preI a (j + 1) = z at q1 q2 ⊢
    constructor <;> constructor <;> omega
  · rw [preI_eq]
    refine ⟨.int (preI a (b - a).toNat), H1, I1.kept (t' := tk) (fun c o e => ?_), ⟨_, rfl⟩, q⟩
    refine hk c o (fun hm => ?_) (Heap.get?_push_of_some _ e)
    have e2 : c = s1.heap.objs.size := by simpa using hm
    exact absurd (Heap.lt_size e) (by rw [e2]; exact Nat.lt_irrefl _)
theorem g_sumRg {σ : L2.St} {H : Hp} {Q : VK} {te : L2.St → Hp → (Int → Int → Hp → Prop) → Prop} (h : te σ H fun a b H1 => (0 ≤ a ∧ a ≤ b ∧ b ≤ 100000) ∧ Q (.int (preI a (b - a).toNat)) H1) : tSumRg te σ H Q := h
/-! ### sorted(t, reverse=b) of a tuple of ints -/
end Lay
namespace SrtR
open PySem PyProof.Rows Srt SrtO
section
variable {prog : Program} {w : World} {A : Around} {E : Value → Shared → Prop} {s : Shared}
theorem collect_tuple {l : Addr} {vs : List Value} {Q : List Value → Shared → Prop} (hl : s.heap.IsTuple l vs.toArray)
    (h : Q vs { s with heap := (s.heap.push (seqObj "list" #[] 0)).update s.heap.objs.size (Obj.mapSeq (· ++ vs.toArray)) }) (hsz : vs.length ≤ sizeLine := by size_fits) :
    wpAny (model prog w) A (collect (.ref l)) Q E s := by
  obtain ⟨o, ho, hc, n, hd⟩ := id hl
  unfold collect
  refine wpAny_bind (wpAny_runValue (codeAny_builtin entry_proto_collect' ?_))
  show wpAny _ _ (do again (.builtin "list.__iadd__" ⟨[← newList [], .ref l], []⟩)) _ _ s
  refine wpAny_bind (wpAny_newList (wpAny_pure ⟨Code.quiet_builtin _ (by decide +kernel), codeAny_builtin entry_list_iadd' ?_⟩))
  show wpAny _ _ (Builtin.List.listExtendWith (.ref s.heap.objs.size) (.ref l) (.ref s.heap.objs.size)) _ _ { s with heap := s.heap.push (seqObj "list" #[] 0) }
  unfold Builtin.List.listExtendWith
  have ho' : (s.heap.push (seqObj "list" #[] 0)).get? l = some o := Heap.get?_push_of_some _ ho
  refine wpAny_bind (wpAny_typeOf (T := "tuple") ⟨o, ho', hc⟩ ?_)
  have ht : (Value.type "tuple" == Value.type "tuple") = true := by rfl
  rw [if_pos (by rw [ht]; simp)]
  refine wpAny_bind (listItems_at ho' hd ?_)
  refine wpAny_bind (listItems_at (xs := #[]) (n := 0) (Heap.get?_push_size _ rfl) rfl ?_)
  rw [if_neg (by simp)]
  refine wpAny_bind (listUpdate_at (xs := #[]) (n := 0) (Heap.get?_push_size _ rfl) rfl ?_ (Nat.zero_le _) (by show (#[] ++ vs.toArray).size ≤ sizeLine + 1; simp only [Array.size_append, List.size_toArray, List.length_nil]; omega))
  refine wpAny_pure ?_
  show wpAny (model prog w) A (do
      let o ← load s.heap.objs.size
      match o.data with
      | .seq xs _ => pure xs.toList
      | _ => unsupported "internal:collect") Q E { s with heap := (s.heap.push (seqObj "list" #[] 0)).update s.heap.objs.size (Obj.mapSeq (· ++ vs.toArray)) }
  refine wpAny_bind (wpAny_load (get?_update_seq (Heap.get?_push_size _ rfl) _) ?_)
  show wpAny _ _ (pure ((#[] : Array Value) ++ vs.toArray).toList) Q E _
  rw [show ((#[] : Array Value) ++ vs.toArray).toList = vs by simp]
  exact wpAny_pure h
theorem sorted_ordKT {l : Addr} {vs : List Value} {b : Bool} {kw : List (Str × Value)} {ltv : Value → Value → Bool} {Q : Value → Shared → Prop} (hk : ∀ a, Builtin.«list.sort» ⟨[.ref a], kw⟩ = Builtin.«list.sort» ⟨[.ref a], [(Str.ofString "reverse", .bool b)]⟩)
    (ha1 : argsOk "sorted" ⟨[.ref l], kw⟩) (ha2 : ∀ a, argsOk "list.sort" ⟨[a], kw⟩) (O : Swo ltv) (hl : s.heap.IsTuple l vs.toArray) (hz : vs.length ≤ sizeLine)
    (hS : 2 ≤ vs.length → ∀ (h₁ : Heap) (a : Addr), h₁.get? a = some (seqObj "list" vs.toArray 0) → (∀ b o, s.heap.get? b = some o → b ≠ a ∧ h₁.get? b = some o) → SortableO prog w A.in1.in1 { s with heap := h₁ } a vs ltv)
    (h : ∀ out : List Value, Srtd ltv out → Stb ltv out (if b = true then vs.reverse else vs) → Q (.ref (s.heap.objs.size + 1)) { s with heap := sortedAll s.heap vs (if b = true then out.toArray.reverse else out.toArray) }) :
    wpAny (model prog w) A (call (.builtin "sorted") [.ref l] kw) Q E s := by
  refine call_function_entry_kw kind_sorted plain_sorted entry_sorted ha1 ?_
  unfold Builtin.«sorted»
  refine wpAny_bind (m := checkCount "sorted" 1 1 _) (wpAny_pure ?_)
  refine wpAny_bind (collect_tuple hl ?_ hz)
  refine wpAny_bind (wpAny_newList ?_ hz)
  have hsz : ((s.heap.push (seqObj "list" #[] 0)).update s.heap.objs.size (Obj.mapSeq (· ++ vs.toArray))).objs.size = s.heap.objs.size + 1 := by
    rw [Heap.size_update, size_push']
  have hoL : (((s.heap.push (seqObj "list" #[] 0)).update s.heap.objs.size (Obj.mapSeq (· ++ vs.toArray))).push (seqObj "list" vs.toArray 0)).get? (s.heap.objs.size + 1) = some (seqObj "list" vs.toArray 0) := by
    rw [← hsz]; exact Heap.get?_push_size _ rfl
  have keep : ∀ b o, s.heap.get? b = some o → b ≠ s.heap.objs.size + 1 ∧ (((s.heap.push (seqObj "list" #[] 0)).update s.heap.objs.size (Obj.mapSeq (· ++ vs.toArray))).push (seqObj "list" vs.toArray 0)).get? b = some o := fun b o q => by
    have hlt : b < s.heap.objs.size := Heap.lt_size q
    refine ⟨Nat.ne_of_lt (Nat.lt_succ_of_lt hlt), Heap.get?_push_of_some _ ?_⟩
    rw [Heap.get?_update_ne _ _ _ _ (Nat.ne_of_lt hlt)]
    exact Heap.get?_push_of_some _ q
  show wpAny _ _ _ _ _ { s with heap := ((s.heap.push (seqObj "list" #[] 0)).update s.heap.objs.size (Obj.mapSeq (· ++ vs.toArray))).push (seqObj "list" vs.toArray 0) }
  rw [hsz]
  refine wpAny_bind (wpAny_holding (wpAny_call_entry_kw slot_list_sort ⟨_, hoL, rfl⟩ entry_list_sort ?_ (ha2 _)))
  rw [hk]
  refine list_sort_ordR O hoL hz (fun h2 => hS h2 _ _ hoL keep) fun out hs hb => ⟨_, rfl, ?_⟩
  exact wpAny_pure ⟨_, rfl, h out hs hb⟩
end
end SrtR
namespace Lay
open PySem PySem.Spec PyProof.Rows L2
section
variable {X : Cx}
def rSortedKwT (K : PySem.W.Frag) (b : Bool) (zs0 : List V) : List V → List V → Hp → VK → Prop := fun vs zs H Q => ∃ (a : Addr) (ns : List Int), vs = [V.ref a] ∧ zs = zs0 ∧ SqT K H a (ns.map V.int) ∧
  ∀ (ns' : List Int) (p : Addr), ns'.Perm ns → OrdB b ns' → H p = none → Q (.ref p) (upd H p (.lst (ns'.map V.int)))
theorem cr_sortedRevT {b : Bool} : CallRK X (.builtin "sorted") [Str.ofString "reverse"] (rSortedKwT X.K b [.bl b]) := by
  intro pins s σ H vs zs us ws Q I r rz h
  obtain ⟨a, ns, rfl, rfl, hs, q⟩ := h
  obtain rfl := Vals.ref1 r
  obtain ⟨w1, rfl, e1⟩ := vals1 rz
  obtain rfl : w1 = Value.bool b := e1
  obtain ⟨its, rv, hl, hz⟩ := I.tuple hs
  have hi := rv.ints
  refine SrtR.sorted_ordKT (fun _ => rfl) (PyProof.Rows.args_sorted_rev _ _) (fun _ => PyProof.Rows.args_list_sort_rev _ _) SrtO.swo_int (show s.heap.IsTuple a its.toArray from hl) (by rw [← rv.length]; exact hz) (fun h2 h₁ a' _ _ => SrtO.ints_sortable hi h2) fun out h1 h2 => ?_
  obtain ⟨ns', k1, k2, k3⟩ := SrtR.ints_outR hi h1 h2
  obtain ⟨ep, he'⟩ := PyProof.Rows.sortedAll_at s.heap its (if b = true then out.toArray.reverse else out.toArray)
  have hlen : (ns'.map V.int).length ≤ sizeLine := by
    rw [List.length_map, k2.length_eq]
    rw [List.length_map] at hz
    exact hz
  have e0 : ((if b = true then out.toArray.reverse else out.toArray).toList).toArray = (if b = true then out.toArray.reverse else out.toArray) := by rw [Array.toArray_toList]
  exact ⟨.ref _, upd H (s.heap.objs.size + 1) (.lst (ns'.map V.int)), I.laid (t' := s.toks) (fun _ _ => PyProof.Rows.sortedAll_old) (Nat.le_succ _) ⟨hlen, _, ep, vals_of_ints k1, by rw [e0]; exact he'⟩, rfl, q _ _ k2 k3 (I.hok.fresh (Nat.le_succ _))⟩
def zSortT (K : PySem.W.Frag) (b : Bool) : List V → List V → Hp → VK → Prop := rSortedKwT K b [.bl b]
end
section
variable {K : PySem.W.Frag} {σ : L2.St} {H : Hp} {Q : VK}
theorem g_ckw {r : List V → List V → Hp → VK → Prop} {t tk : TA} (h : t σ H fun vs H1 => tk σ H1 fun zs H2 => r vs zs H2 Q) : tCKw r t tk σ H Q := h
theorem g_sortRT {b : Bool} {a : Addr} {ns : List Int} (h : SqT K H a (ns.map V.int)) (q : ∀ ns' p H2, ns'.Perm ns → OrdB b ns' → H p = none → Same H H2 → H2 p = some (.lst (ns'.map V.int)) → Q (.ref p) H2) : rSortedKwT K b [.bl b] [.ref a] [.bl b] H Q :=
  ⟨a, ns, rfl, rfl, h, fun ns' p h1 h2 hp => q ns' p _ h1 h2 hp (same_upd hp) upd_same⟩
end
end Lay

set_option Elab.async false
set_option linter.all false
set_option maxRecDepth 100000
/-! more steps; ranges, rings, draws -/
namespace Lay
open PySem PySem.Spec PyProof.Rows L2
section
variable {K : PySem.W.Frag} {σ : L2.St} {H : Hp} {Q : VK} {te ta tb : TE} {x y v : V}
def zRev (K : PySem.W.Frag) : V → Hp → VK → Prop := fun x H Q => ∃ a xs, x = .ref a ∧ SqL K H a xs ∧ ∀ p, H p = none → Q (.ref p) (upd H p (.lst xs.reverse))
theorem g_rev (h : te σ H fun x H1 => zRev K x H1 Q) : tRevL K te σ H Q := h
theorem g_revL {a : Addr} {xs : List V} (h : SqL K H a xs) (q : ∀ p H2, H p = none → Same H H2 → H2 p = some (.lst xs.reverse) → Q (.ref p) H2) : zRev K (.ref a) H Q := ⟨a, xs, rfl, h, fun p hp => q p _ hp (same_upd hp) upd_same⟩
abbrev vN (l : List Nat) : List V := l.map fun (i : Nat) => V.int (i : Int)
abbrev vI (l : List Int) : List V := l.map V.int
theorem rgV_nat {n : Nat} {j : Int} (e : j = (n : Int)) : rgV 0 j = vN (List.range n) := by
  subst e
  unfold rgV vN
  rw [show ((n : Int) - 0).toNat = n by omega]
  apply List.map_congr_left
  intro i _
  rw [Int.zero_add]
def zTR : Int → Int → Hp → VK → Prop := fun a b H1 Q => RgOk a b ∧ ∀ q, H1 q = none → Q (.ref q) (upd H1 q (.tup (rgV a b)))
def zLR : Int → Int → Hp → VK → Prop := fun a b H1 Q => RgOk a b ∧ ∀ q, H1 q = none → Q (.ref q) (upd H1 q (.lst (rgV a b)))
theorem g_tupRg1 (h : ta σ H fun x H1 => ∃ n, x = .int n ∧ zTR 0 n H1 Q) : tTupRg (tRg1 ta) σ H Q := h
theorem g_lstRg1 (h : ta σ H fun x H1 => ∃ n, x = .int n ∧ zLR 0 n H1 Q) : tLstRg (tRg1 ta) σ H Q := h
theorem g_exint {P : Int → Prop} {i : Int} (q : P i) : ∃ n, V.int i = .int n ∧ P n := ⟨i, rfl, q⟩
theorem g_tr {j : Int} {n : Nat} (e : j = (n : Int)) (hn : n ≤ 100000) (q : ∀ p H2, H p = none → Same H H2 → H2 p = some (.tup (vN (List.range n))) → Q (.ref p) H2) : zTR 0 j H Q :=
  ⟨RgOk.of_le (by omega) (by omega) (by omega) (by omega), fun p hp => by rw [rgV_nat e]; exact q p _ hp (same_upd hp) upd_same⟩
theorem g_lr {j : Int} {n : Nat} (e : j = (n : Int)) (hn : n ≤ 100000) (q : ∀ p H2, H p = none → Same H H2 → H2 p = some (.lst (vN (List.range n))) → Q (.ref p) H2) : zLR 0 j H Q :=
  ⟨RgOk.of_le (by omega) (by omega) (by omega) (by omega), fun p hp => by rw [rgV_nat e]; exact q p _ hp (same_upd hp) upd_same⟩
theorem g_cat {a b : Addr} {xs ys : List V} (h1 : H a = some (.lst xs)) (h2 : H b = some (.lst ys)) (hl : xs.length + ys.length ≤ 100000) (q : ∀ p H2, H p = none → Same H H2 → H2 p = some (.lst (xs ++ ys)) → Q (.ref p) H2) : rCat (.ref a) (.ref b) H Q :=
  ⟨a, b, xs, ys, rfl, rfl, h1, h2, small hl, fun p hp => q p _ hp (same_upd hp) upd_same⟩
theorem g_isiI {j : Int} (q : Q (.bl true) H) : rIsi K [.int j, .ty "int"] H Q := ⟨_, _, .type "int", .type "int", true, rfl, .ty "int", .base (.int j), kit_ty (by decide +kernel), q⟩
theorem g_isiB {j : Int} (q : Q (.bl false) H) : rIsi K [.int j, .ty "bool"] H Q := ⟨_, _, .type "int", .type "bool", false, rfl, .ty "bool", .base (.int j), kit_ty (by decide +kernel), q⟩
theorem g_divW {i j : Int} {f : Int → Int → V} (h0 : 0 < j) (h1 : j ≤ 100000000000) (q : Q (f i j) H) : rI CDivW f (.int i) (.int j) H Q :=
  ⟨i, j, rfl, rfl, wide_div (b := 40) h0 (by omega) (by decide) (by decide), q⟩
theorem inV_vN {l : List Nat} {j : Nat} : inV (.int (j : Int)) (vN l) = decide (j ∈ l) := by
  unfold inV vN
  rw [List.any_map]
  rw [Bool.eq_iff_iff]
  simp only [List.any_eq_true, Function.comp, decide_eq_true_eq]
  constructor
  · rintro ⟨x, hx, e⟩
    have h1 : (x : Int) = j := by simpa [eqV] using e
    have h2 : x = j := by omega
    rw [← h2]
    exact hx
  · intro h
    exact ⟨j, h, by simp [eqV]⟩
theorem flat_vN {l : List Nat} : (vN l).all flatV = true := by
  simp [vN, flatV]
theorem vN_get {l : List Nat} {i : Nat} {x : V} (h : (vN l)[i]? = some x) : ∃ j : Nat, l[i]? = some j ∧ x = .int j := by
  rw [List.getElem?_map] at h
  cases e : l[i]? with
  | none => rw [e] at h; cases h
  | some j => rw [e] at h; cases h; exact ⟨j, rfl, rfl⟩
theorem vI_get {l : List Int} {i : Nat} {x : V} (h : (vI l)[i]? = some x) : ∃ j : Int, l[i]? = some j ∧ x = .int j := by
  rw [List.getElem?_map] at h
  cases e : l[i]? with
  | none => rw [e] at h; cases h
  | some j => rw [e] at h; cases h; exact ⟨j, rfl, rfl⟩
/-- a negative place, from behind -/
theorem atI_neg {xs : List V} {k : Nat} {i : Int} {v : V} (e : i = -((k : Nat) : Int)) (h0 : 0 < k) (hk : k ≤ xs.length) (h : xs[xs.length - k]? = some v) : atI xs i = some v := by
  subst e
  unfold atI ixN
  rw [if_neg (by omega), if_pos (by omega)]
  have e : (-(k : Int) + (xs.length : Int)).toNat = xs.length - k := by omega
  have e' : ((xs.length : Int) + -(k : Int)).toNat = xs.length - k := by omega
  first | (rw [e]; exact h) | (rw [e']; exact h) | (simp only [Option.bind_some]; rw [show (-(k : Int) + (xs.length : Int)).toNat = xs.length - k by omega]; exact h)
theorem Chg.drop {S S' : Addr → Prop} {H H' : Hp} (h : Chg S H H') (hs : ∀ b, S b → S' b ∨ H b = none) : Chg S' H H' := fun b o e k => h b o e fun s => by
  rcases hs b s with t | t
  · exact k t
  · rw [e] at t; cases t
theorem Chg.seqT {S : Addr → Prop} {H H' : Hp} {a : Addr} {xs : List V} (h : Chg S H H') (hs : H a = some (.tup xs)) : SqT K H' a xs := .inl (.inl (h.tup hs))
theorem tupT {a : Addr} {xs : List V} (hs : H a = some (.tup xs)) : SqT K H a xs := .inl (.inl hs)
theorem lstL {a : Addr} {xs : List V} (hs : H a = some (.lst xs)) : SqL K H a xs := by first | exact .inl (.inl hs) | exact .inl hs
theorem Chg.rfl' {S : Addr → Prop} {H : Hp} : Chg S H H := fun _ _ h _ => h
theorem chg_sqT {S : Addr → Prop} {H H' : Hp} {a : Addr} {xs : List V} (h : Chg S H H') (hs : SqT K H a xs) (hf : ∀ o ys, H a = some (.frz o ys) → ¬ S a) : SqT K H' a xs := by
  rcases hs with (hs | ⟨o, hs⟩) | hs
  · exact .inl (.inl (h.tup hs))
  · exact .inl (.inr ⟨o, h.get hs (hf _ _ hs)⟩)
  · exact .inr hs
theorem pe_globI {X : Cx} {x : Str} {i : Int} {pos : Pos} (hg : Gl X x) (h : ∃ t, X.mg x = some (.int i t)) (hd : (x == ("__debug__" : Str)) = false := by decide) : PE X (.Name x pos) (tC (.int i)) := by
  obtain ⟨t, h⟩ := h
  exact pe_glob (v := .int i) hg h ⟨t, rfl⟩ (hd)
/-! ### comprehensions over a tuple, a list, a range; the variable in slot i -/
theorem wipe_back {σ : L2.St} {i : Nat} {x : V} : wipe ((σ.set i none).set i (some x)) [i] = wipe σ [i] := by
  show ((σ.set i none).set i (some x)).set i none = σ.set i none
  rw [List.set_set, List.set_set]
theorem g_lcT {a : Addr} {xs : List V} {i : Nat} {tt : TT} (Pv : Addr → Nat → List V → Hp → Prop)
    (h0 : ∀ D H1, H D = none → Same H H1 → H1 D = some (.lst []) → Pv D 0 [] H1) (hG : ∀ D k acc H', k ≤ xs.length → H' D = some (.lst acc) → Pv D k acc H' → SqT K H' a xs)
    (hs : ∀ D k x acc H', H D = none → xs[k]? = some x → H' D = some (.lst acc) → acc.length ≤ k → Pv D k acc H' → tt ((σ.set i none).set i (some x)) H' fun b H4 => if b = true then te ((σ.set i none).set i (some x)) H4 fun y H5 => zAcc D Pv k y H5 else zPv D Pv (k + 1) H4)
    (hd : ∀ D acc H', H D = none → H' D = some (.lst acc) → acc.length ≤ xs.length → Pv D xs.length acc H' → Q (.ref D) H') : zLc (Itt K a) (gName i) tt te [i] σ H Q :=
  g_lcW walk_tup Pv h0 hG (fun D k x acc H' H2 hD hk h1 h2 h3 y => by
    obtain ⟨rfl, hx⟩ := y
    exact ⟨wipe_back, hs D k x acc H2 hD hx h1 h2 h3⟩) hd
theorem g_lcL {a : Addr} {xs : List V} {i : Nat} {tt : TT} (Pv : Addr → Nat → List V → Hp → Prop)
    (h0 : ∀ D H1, H D = none → Same H H1 → H1 D = some (.lst []) → Pv D 0 [] H1) (hG : ∀ D k acc H', k ≤ xs.length → H' D = some (.lst acc) → Pv D k acc H' → SqL K H' a xs)
    (hs : ∀ D k x acc H', H D = none → xs[k]? = some x → H' D = some (.lst acc) → acc.length ≤ k → Pv D k acc H' → tt ((σ.set i none).set i (some x)) H' fun b H4 => if b = true then te ((σ.set i none).set i (some x)) H4 fun y H5 => zAcc D Pv k y H5 else zPv D Pv (k + 1) H4)
    (hd : ∀ D acc H', H D = none → H' D = some (.lst acc) → acc.length ≤ xs.length → Pv D xs.length acc H' → Q (.ref D) H') : zLc (Itl K a) (gName i) tt te [i] σ H Q :=
  g_lcW walk_list Pv h0 hG (fun D k x acc H' H2 hD hk h1 h2 h3 y => by
    obtain ⟨rfl, hx⟩ := y
    exact ⟨wipe_back, hs D k x acc H2 hD hx h1 h2 h3⟩) hd
theorem g_lcR {lo : Int} {n : Nat} {i : Nat} {tt : TT} (Pv : Addr → Nat → List V → Hp → Prop)
    (h0 : ∀ D H1, H D = none → Same H H1 → H1 D = some (.lst []) → Pv D 0 [] H1)
    (hs : ∀ D k acc H', H D = none → k < n → H' D = some (.lst acc) → acc.length ≤ k → Pv D k acc H' → tt ((σ.set i none).set i (some (.int (lo + k)))) H' fun b H4 => if b = true then te ((σ.set i none).set i (some (.int (lo + k)))) H4 fun y H5 => zAcc D Pv k y H5 else zPv D Pv (k + 1) H4)
    (hd : ∀ D acc H', H D = none → H' D = some (.lst acc) → acc.length ≤ n → Pv D n acc H' → Q (.ref D) H') : zLc (Itr lo n) (gName i) tt te [i] σ H Q :=
  g_lcW walk_range Pv h0 (fun _ _ _ _ _ _ _ => True.intro) (fun D k x acc H' H2 hD hk h1 h2 h3 y => by
    obtain ⟨rfl, rfl⟩ := y
    exact ⟨wipe_back, hs D k acc H2 hD hk h1 h2 h3⟩) hd
theorem take_succ_map {α : Type} {f : α → V} {l : List α} {k : Nat} {x : α} (h : l[k]? = some x) : (l.take k).map f ++ [f x] = (l.take (k + 1)).map f := by
  rw [List.take_succ, h]
  simp
end
section
/-! ### lists side by side -/
def All2 {α : Type} (R : V → α → Prop) (xs : List V) (l : List α) : Prop := xs.length = l.length ∧ ∀ (k : Nat) (x : V) (y : α), xs[k]? = some x → l[k]? = some y → R x y
theorem All2.nil {α : Type} {R : V → α → Prop} : All2 R [] ([] : List α) := ⟨rfl, fun k x y h => by simp at h⟩
theorem All2.mono {α : Type} {R S : V → α → Prop} {xs : List V} {l : List α} (h : All2 R xs l) (hs : ∀ x y, R x y → S x y) : All2 S xs l := ⟨h.1, fun k x y a b => hs x y (h.2 k x y a b)⟩
theorem All2.snoc {α : Type} {R : V → α → Prop} {xs : List V} {l : List α} {x : V} {y : α} (h : All2 R xs l) (hr : R x y) : All2 R (xs ++ [x]) (l ++ [y]) := by
  refine ⟨by simp [h.1], fun k a b ha hb => ?_⟩
  by_cases hk : k < xs.length
  · rw [List.getElem?_append_left hk] at ha
    rw [List.getElem?_append_left (by rw [← h.1]; exact hk)] at hb
    exact h.2 k a b ha hb
  · have hk' : xs.length ≤ k := by omega
    rw [List.getElem?_append_right hk'] at ha
    rw [List.getElem?_append_right (by rw [← h.1]; exact hk'), ← h.1] at hb
    by_cases h0 : k - xs.length = 0
    · rw [h0] at ha hb
      simp at ha hb
      rw [← ha, ← hb]
      exact hr
    · rw [List.getElem?_eq_none (by simp; omega)] at ha
      cases ha
theorem All2.get {α : Type} {R : V → α → Prop} {xs : List V} {l : List α} {k : Nat} {y : α} (h : All2 R xs l) (hy : l[k]? = some y) : ∃ x, xs[k]? = some x ∧ R x y := by
  have hk : k < l.length := by
    rcases Nat.lt_or_ge k l.length with z | z
    · exact z
    · rw [List.getElem?_eq_none z] at hy; cases hy
  have hx : k < xs.length := by rw [h.1]; exact hk
  exact ⟨xs[k], List.getElem?_eq_getElem hx, h.2 k _ _ (List.getElem?_eq_getElem hx) hy⟩
theorem All2.get' {α : Type} {R : V → α → Prop} {xs : List V} {l : List α} {k : Nat} {x : V} (h : All2 R xs l) (hx : xs[k]? = some x) : ∃ y, l[k]? = some y ∧ R x y := by
  have hk : k < xs.length := by
    rcases Nat.lt_or_ge k xs.length with z | z
    · exact z
    · rw [List.getElem?_eq_none z] at hx; cases hx
  have hl : k < l.length := by rw [← h.1]; exact hk
  exact ⟨l[k], List.getElem?_eq_getElem hl, h.2 k _ _ hx (List.getElem?_eq_getElem hl)⟩
theorem at_back {xs : List V} {k d : Nat} {i : Int} {v : V} (e : i = (k : Int) - (d : Int)) (hk : k < xs.length) (hd : d ≤ xs.length) (h : xs[(k + xs.length - d) % xs.length]? = some v) : atI xs i = some v := by
  by_cases hc : d ≤ k
  · have e1 : i = ((k - d : Nat) : Int) := by omega
    rw [e1]
    refine atI_nat ?_
    rw [show k + xs.length - d = (k - d) + xs.length by omega, Nat.add_mod_right, Nat.mod_eq_of_lt (by omega)] at h
    exact h
  · refine atI_neg (k := d - k) (by omega) (by omega) (by omega) ?_
    rw [Nat.mod_eq_of_lt (by omega)] at h
    rw [show xs.length - (d - k) = k + xs.length - d by omega]
    exact h
theorem lt_of_get {α : Type} {l : List α} {k : Nat} {x : α} (h : l[k]? = some x) : k < l.length := by
  rcases Nat.lt_or_ge k l.length with z | z
  · exact z
  · rw [List.getElem?_eq_none z] at h; cases h
/-! ### draws: a list of three numbers, at most m mixed draws yet -/
variable {K : PySem.W.Frag} {σ : L2.St} {H : Hp} {Q : VK} {te ta tb : TE} {x y v : V}
def HandAt (H : Hp) (p : Addr) (m : Nat) : Prop := ∃ (a b : Int) (n : Nat), H p = some (.lst [.int a, .int b, .int (n : Int)]) ∧ 0 ≤ a ∧ 0 ≤ b ∧ b < 4000000000000000000 ∧ n ≤ m
theorem HandAt.same {H H2 : Hp} {p : Addr} {m : Nat} (h : HandAt H p m) (e : Same H H2) : HandAt H2 p m := by
  obtain ⟨a, b, n, h1, h2⟩ := h
  exact ⟨a, b, n, e _ _ h1, h2⟩
theorem HandAt.chg {S : Addr → Prop} {H H2 : Hp} {p : Addr} {m : Nat} (h : HandAt H p m) (e : Chg S H H2) (hp : ¬ S p) : HandAt H2 p m := by
  obtain ⟨a, b, n, h1, h2⟩ := h
  exact ⟨a, b, n, e.get h1 hp, h2⟩
theorem HandAt.mono {H : Hp} {p : Addr} {m k : Nat} (h : HandAt H p m) (e : m ≤ k) : HandAt H p k := by
  obtain ⟨a, b, n, h1, h2, h3, h4, h5⟩ := h
  exact ⟨a, b, n, h1, h2, h3, h4, by omega⟩
theorem HandAt.ne {H : Hp} {p l : Addr} {m : Nat} (h : HandAt H p m) (e : H l = none) : l ≠ p := by
  obtain ⟨a, b, n, h1, _⟩ := h
  intro z
  rw [z, h1] at e
  cases e
def sp_take : Sp := fun vs H Q _ => ∃ (p : Addr) (m many : Nat), vs = [.ref p, .int (many : Int)] ∧ HandAt H p m ∧ m ≤ 1000000000 ∧ 0 < many ∧ many ≤ 100000000000 ∧
  ∀ (r : Nat) H2, r < many → Chg (· = p) H H2 → HandAt H2 p (m + 1) → Q (.int (r : Int)) H2
theorem g_take {p : Addr} {m : Nat} {j : Int} {E : XK} (many : Nat) (h : HandAt H p m) (e : j = (many : Int)) (hm : m ≤ 1000000000) (h0 : 0 < many) (h1 : many ≤ 100000000000) (q : ∀ (r : Nat) H2, r < many → Chg (· = p) H H2 → HandAt H2 p (m + 1) → Q (.int (r : Int)) H2) : sp_take [.ref p, .int j] H Q E := by
  subst e
  exact ⟨p, m, many, rfl, h, hm, h0, h1, q⟩
end
end Lay

set_option Elab.async false
set_option linter.all false
set_option maxRecDepth 100000
/-! the rules with the part K named: they serve inside comprehensions, too -/
namespace Lay
open PySem PySem.Spec PyProof.Rows L2
section
variable {X : Cx} (K : PySem.W.Frag)
theorem ix_tupC (h : X.K = K := by rfl) : IxR X (rIxT K) := by subst h; exact ix_tup
theorem ix_listC (h : X.K = K := by rfl) : IxR X (rIxL K) := by subst h; exact ix_list
theorem op_inC (h : X.K = K := by rfl) : OpR X (compareOp .In) (rIn K false) := by subst h; exact op_in_seq
theorem op_notInC (h : X.K = K := by rfl) : OpR X (compareOp .NotIn) (rIn K true) := by subst h; exact op_notIn_seq
theorem op_eqDC (hu : X.A.units + 64 < cLine) (h : X.K = K := by rfl) : OpR X (compareOp .Eq) (rEqD K) := by subst h; exact op_eqD hu
theorem op_neDC (hu : X.A.units + 64 < cLine) (h : X.K = K := by rfl) : OpR X (compareOp .NotEq) (rNeD K) := by subst h; exact op_neD hu
theorem op_catAC (h : X.K = K := by rfl) : OpR X (binaryOp .Add) (rCatA K) := by subst h; exact op_catA
theorem sl_listC (h : X.K = K := by rfl) : SlR X (rSlL K) := by subst h; exact sl_list
theorem sl_tupAC (h : X.K = K := by rfl) : SlR X (rSlA K) := by subst h; exact sl_tupA
theorem call_lenC (h : X.K = K := by rfl) : CallR X (.builtin "len") (zLen K) := by subst h; exact call_len_z
theorem call_tupleC (h : X.K = K := by rfl) : CallR X (.type "tuple") (zTupO K) := by subst h; exact call_tuple_z
theorem call_listC (h : X.K = K := by rfl) : CallR X (.type "list") (zLstO K) := by subst h; exact call_list_z
theorem cr_sumC (hc : X.calm = true) (h : X.K = K := by rfl) : CallR X (.builtin "sum") (rSum K) := by subst h; exact cr_sum hc
theorem cr_allC (hc : X.calm = true) (h : X.K = K := by rfl) : CallR X (.builtin "all") (rAll K) := by subst h; exact cr_all hc
theorem cr_anyC (hc : X.calm = true) (h : X.K = K := by rfl) : CallR X (.builtin "any") (rAny K) := by subst h; exact cr_any hc
theorem cr_maxC (hc : X.calm = true) (h : X.K = K := by rfl) : CallR X (.builtin "max") (rMax K) := by subst h; exact cr_max hc
theorem cr_minC (hc : X.calm = true) (h : X.K = K := by rfl) : CallR X (.builtin "min") (rMin K) := by subst h; exact cr_min hc
theorem cr_sortedIC (h : X.K = K := by rfl) : CallR X (.builtin "sorted") (rSortedI K) := by subst h; exact cr_sortedI
theorem cr_sortedRevTC {b : Bool} (h : X.K = K := by rfl) : CallRK X (.builtin "sorted") [Str.ofString "reverse"] (rSortedKwT K b [.bl b]) := by subst h; exact cr_sortedRevT
theorem call_isiC (h : X.K = K := by rfl) : CallR X (.builtin "isinstance") (rIsi K) := by subst h; exact call_isi
theorem pe_fldC {e : Expr} {f : Str} {pos : Pos} {ta : TE} (he : PE X e ta) (hb : attributeBase e f X.env (eval e X.env) = eval e X.env) (h : X.K = K := by rfl) : PE X (.Attribute e f pos) (tFld K ta f) := by subst h; exact pe_fld he hb
theorem pe_revLC {e : Expr} {te : TE} {k : Nat} {p1 p2 p3 pos : Pos} (he : PE X e te) (h : X.K = K := by rfl) : PE X (.Subscript e (.Slice none none (some (.UnaryOp .USub (.Constant (.int 1) k p1) p2)) p3) pos) (tRevL K te) := by subst h; exact pe_revL he
theorem pg_tupC {pos : Pos} {es : List Expr} {k : Nat} {t : TGs} (n : Nat) (hc : X.calm = true) (hp : PGs X es t)
    (hn : (assignEach es X.env).length = n := by rfl) (hst : (assignEach es X.env).findIdx? (·.1) = none := by rfl) (h : X.K = K := by rfl) : PG X (.Tuple es k pos) (gTup K n t) := by subst h; exact pg_tup hc hp hn hst
theorem pi_listC {tg l : Expr} {tl : TE} (hl : PE X l tl) (h : X.K = K := by rfl) : PI X tg l (iList K tl) := by subst h; exact pi_list hl
theorem pi_tupC {tg l : Expr} {tl : TE} (hl : PE X l tl) (h : X.K = K := by rfl) : PI X tg l (iTup K tl) := by subst h; exact pi_tup hl
theorem pi_enumTC {e : Expr} {ta : TA} {p pos tpos : Pos} {elts : List Expr} {kk : Nat} (hg : Gl X "enumerate") (hm : X.mg "enumerate" = none) (ha : PA X [e] ta) (hs : starEach [e] X.env = [(false, eval e X.env)] := by rfl) (h : X.K = K := by rfl) :
    PI X (.Tuple elts kk tpos) (.Call (.Name "enumerate" p) [e] [] pos) (iEnumT K ta) := by subst h; exact pi_enumT hg hm ha hs
theorem pi_enumC {e : Expr} {ta : TA} {p pos tpos : Pos} {elts : List Expr} {kk : Nat} (hg : Gl X "enumerate") (hm : X.mg "enumerate" = none) (ha : PA X [e] ta) (hs : starEach [e] X.env = [(false, eval e X.env)] := by rfl) (h : X.K = K := by rfl) :
    PI X (.Tuple elts kk tpos) (.Call (.Name "enumerate" p) [e] [] pos) (iEnum K ta) := by subst h; exact pi_enum hg hm ha hs
variable {o e : Expr} {es : List Expr} {to : TE} {t : TA} {name : Str} {apos cpos : Pos} {T id : String} {r : V → List V → Hp → VK → Prop}
theorem pe_bm0C (pa : PlainAttrs T) (slot : Slot T name id) (hty : typeOf (.builtin id) = pure (.type "method_descriptor")) (hm : MtR X id r) (ho : PE X o to)
    (hbase : attributeBase o name X.env (eval o X.env) = eval o X.env := by rfl) (hline : (apos.endLine == cpos.line) = true := by rfl) (h : X.K = K := by rfl) : PE X (.Call (.Attribute o name apos) [] [] cpos) (tBM0 K T r to) := by
  subst h; exact pe_bm0 pa slot hty hm ho hbase hline
theorem pe_bmC (pa : PlainAttrs T) (slot : Slot T name id) (hty : typeOf (.builtin id) = pure (.type "method_descriptor")) (hm : MtR X id r) (ho : PE X o to) (ha : PA X (e :: es) t)
    (hbase : attributeBase o name X.env (eval o X.env) = eval o X.env := by rfl)
    (hfew : ((backTo cpos (starEach (e :: es) X.env)).all (fun x => !x.1) && (backToKw cpos (keywordEach [] X.env)).all (fun x => x.1.isSome)
      && decide ((e :: es).length + ([] : List Keyword).length + (if ([] : List Keyword).isEmpty then 0 else 1) < 30)) = true := by rfl)
    (hline : (apos.endLine == cpos.line) = true := by rfl) (hs : starEach (e :: es) X.env = (false, eval e X.env) :: starEach es X.env := by rfl) (hplain : (backTo cpos (starEach es X.env)).any (·.1) = false := by rfl) (h : X.K = K := by rfl) :
    PE X (.Call (.Attribute o name apos) (e :: es) [] cpos) (tBM K T r to t) := by
  subst h; exact pe_bm pa slot hty hm ho ha hbase hfew hline hs hplain
end
section
variable {H : Hp} {Q : VK} {f : Int → Int → V} {i j : Int}
theorem g_rg1 {σ : L2.St} {ta : TE} {R : Int → Int → Hp → Prop} (h : ta σ H fun x H1 => ∃ n, x = .int n ∧ R 0 n H1) : tRg1 ta σ H R := h
theorem g_mulL (h : -(2 ^ 64) < i ∧ i < 2 ^ 64) (q : Q (f i j) H) : rI CMul f (.int i) (.int j) H Q := ⟨i, j, rfl, rfl, Or.inl h, q⟩
theorem g_mulR (h : -(2 ^ 64) < j ∧ j < 2 ^ 64) (q : Q (f i j) H) : rI CMul f (.int i) (.int j) H Q := ⟨i, j, rfl, rfl, Or.inr h, q⟩
theorem g_powS (h : 0 ≤ j ∧ j ≤ 1000000 ∧ i.natAbs < 2 ^ 64) (q : Q (f i j) H) : rI CPow f (.int i) (.int j) H Q := ⟨i, j, rfl, rfl, h, q⟩
theorem g_divS (h : 0 < j ∧ j < 1073741824) (q : Q (f i j) H) : rI CDiv f (.int i) (.int j) H Q := ⟨i, j, rfl, rfl, h, q⟩
theorem map_erase {α β : Type} (f : α → β) : ∀ (l : List α) (k : Nat), (l.map f).eraseIdx k = (l.eraseIdx k).map f
  | [], k => by simp
  | a :: l, 0 => rfl
  | a :: l, k + 1 => by rw [List.map_cons, List.eraseIdx_cons_succ, List.eraseIdx_cons_succ, List.map_cons, map_erase f l k]
theorem chg_none {S : Addr → Prop} {H H' : Hp} {l : Addr} (h : Chg S H H') (hl : H' l = none) (hs : ∀ o, H l = some o → ¬ S l) : H l = none := by
  cases e : H l with
  | none => rfl
  | some o => rw [h.get e (hs o e)] at hl; cases hl
theorem hand_none {H H' : Hp} {p l : Addr} {m : Nat} (h : Chg (· = p) H H') (hp : HandAt H' p m) (hl : H' l = none) : H l = none :=
  chg_none h hl fun o _ z => hp.ne hl z
end
end Lay

set_option Elab.async false
set_option linter.all false
set_option maxRecDepth 100000
local macro_rules | `(tactic| walk_at "g1") => `(tactic| first
  | with_reducible refine Lay.g_seq ?_
  | with_reducible refine Lay.g_asg ?_
  | with_reducible refine Lay.g_op ?_
  | with_reducible refine Lay.g_var rfl ?_
  | with_reducible refine Lay.g_c ?_
  | with_reducible refine Lay.g_I0 ?_
  | with_reducible refine Lay.g_name ?_
  | with_reducible refine Lay.g_cb ?_
  | with_reducible refine Lay.g_cons ?_
  | with_reducible refine Lay.g_nil ?_
  | with_reducible refine Lay.g_call ?_
  | with_reducible refine Lay.g_if ?_
  | with_reducible refine Lay.g_test ?_
  | with_reducible refine Lay.g_tB ?_
  | with_reducible refine Lay.g_bl ?_
  | with_reducible refine Lay.g_exbl ?_
  | with_reducible refine Lay.g_fld ?_
  | with_reducible refine Lay.g_meth ?_
  | with_reducible refine Lay.g_eqI ?_
  | with_reducible refine Lay.g_neI ?_
  | with_reducible refine Lay.g_eqS ?_
  | with_reducible refine Lay.g_neS ?_
  | with_reducible refine Lay.g_eqB ?_
  | with_reducible refine Lay.g_and ?_
  | with_reducible refine Lay.g_or ?_
  | with_reducible refine Lay.g_not ?_
  | with_reducible refine Lay.g_andV ?_
  | with_reducible refine Lay.g_orV ?_
  | with_reducible refine Lay.g_notV ?_
  | with_reducible refine Lay.g_ifE ?_
  | with_reducible refine Lay.g_un ?_
  | with_reducible refine Lay.g_U ?_
  | with_reducible refine Lay.g_next ?_
  | with_reducible refine Lay.g_ret ?_
  | with_reducible refine Lay.g_retn ?_
  | with_reducible refine Lay.g_drop ?_
  | with_reducible refine Lay.g_set ?_
  | with_reducible refine Lay.g_tup ?_
  | with_reducible refine Lay.g_lst ?_
  | with_reducible refine Lay.g_bm ?_
  | with_reducible refine Lay.g_bm0 ?_
  | with_reducible refine Lay.g_sub ?_
  | with_reducible refine Lay.g_abs ?_
  | with_reducible refine Lay.g_intB ?_
  | with_reducible refine Lay.g_max ?_
  | with_reducible refine Lay.g_min ?_
  | with_reducible refine Lay.g_gcons ?_
  | with_reducible refine Lay.g_gnil ?_
  | with_reducible refine Lay.g_aug rfl ?_
  | with_reducible refine Lay.g_ipI ?_
  | with_reducible refine Lay.g_nx ?_
  | with_reducible refine Lay.g_for ?_
  | with_reducible refine Lay.g_iList ?_
  | with_reducible refine Lay.g_iTup ?_
  | with_reducible refine Lay.g_iR1 ?_
  | with_reducible refine Lay.g_iR2 ?_
  | with_reducible refine Lay.g_iEnum ?_
  | with_reducible refine Lay.g_iEnumT ?_
  | with_reducible refine Lay.g_sumRg ?_
  | with_reducible refine Lay.g_rg1 ?_
  | with_reducible refine Lay.g_ckw ?_
  | with_reducible refine Lay.g_rev ?_
  | with_reducible refine Lay.g_tupRg1 ?_
  | with_reducible refine Lay.g_lstRg1 ?_
  | with_reducible refine Lay.g_exint ?_
  | with_reducible refine Lay.g_lc ?_
  | with_reducible refine Lay.g_yes ?_
  | with_reducible refine L2.iteT ?_
  | with_reducible refine L2.iteF ?_
  | with_reducible refine Lay.g_rt ?_
  | ((with_reducible refine Lay.g_I ?hc ?_); (case hc => first | (show _ < _; omega) | exact ⟨by omega, by omega⟩ | exact Or.inl ⟨by omega, by omega⟩ | exact Or.inr ⟨by omega, by omega⟩)))
local macro_rules | `(tactic| walk_at "go") => `(tactic| repeat walk_at "g1")

namespace G
open PySem PySem.Spec PyProof.Rows L2 Lay
def topS (i : Nat) : Stmt := PySem.Challenge.pw_ringchief_k39_bounds.main.body.getD i (.Pass ⟨0, 0, 0, 0⟩)
abbrev s_stop_of : Stmt := topS 1
abbrev N_stop_of : List Str := ["ring", "some", "house", "side", "many", "far", "other"]
theorem sc_stop_of : FnScope N_stop_of ["ring", "some", "house", "side"] (defScope s_stop_of) := ⟨rfl, rfl, rfl, by decide +kernel, rfl, by decide +kernel, by decide +kernel⟩
abbrev s_round_letters : Stmt := topS 5
abbrev N_round_letters : List Str := ["ring", "some", "house"]
theorem sc_round_letters : FnScope N_round_letters ["ring", "some"] (defScope s_round_letters) := ⟨rfl, rfl, rfl, by decide +kernel, rfl, by decide +kernel, by decide +kernel⟩
abbrev s_next_row : Stmt := topS 6
abbrev N_next_row : List Str := ["row", "found", "place", "house", "held", "near"]
theorem sc_next_row : FnScope N_next_row ["row"] (defScope s_next_row) := ⟨rfl, rfl, rfl, by decide +kernel, rfl, by decide +kernel, by decide +kernel⟩
abbrev s_phases : Stmt := topS 7
abbrev N_phases : List Str := ["ring", "some", "house", "row", "rows"]
theorem sc_phases : FnScope N_phases ["ring", "some"] (defScope s_phases) := ⟨rfl, rfl, rfl, by decide +kernel, rfl, by decide +kernel, by decide +kernel⟩
abbrev s_side_letters : Stmt := topS 8
abbrev N_side_letters : List Str := ["reach", "stop"]
theorem sc_side_letters : FnScope N_side_letters ["reach", "stop"] (defScope s_side_letters) := ⟨rfl, rfl, rfl, by decide +kernel, rfl, by decide +kernel, by decide +kernel⟩
abbrev s_reach_letters : Stmt := topS 9
abbrev N_reach_letters : List Str := ["left", "right", "total", "reach", "is_on"]
theorem sc_reach_letters : FnScope N_reach_letters ["left", "right"] (defScope s_reach_letters) := ⟨rfl, rfl, rfl, by decide +kernel, rfl, by decide +kernel, by decide +kernel⟩
abbrev s_told_letters : Stmt := topS 10
abbrev N_told_letters : List Str := ["way", "ring", "some", "many", "total", "house"]
theorem sc_told_letters : FnScope N_told_letters ["way", "ring", "some"] (defScope s_told_letters) := ⟨rfl, rfl, rfl, by decide +kernel, rfl, by decide +kernel, by decide +kernel⟩
abbrev s_halvings : Stmt := topS 11
abbrev N_halvings : List Str := ["many", "times"]
theorem sc_halvings : FnScope N_halvings ["many"] (defScope s_halvings) := ⟨rfl, rfl, rfl, by decide +kernel, rfl, by decide +kernel, by decide +kernel⟩
abbrev s_reach_bound : Stmt := topS 12
abbrev N_reach_bound : List Str := ["many", "total", "reach"]
theorem sc_reach_bound : FnScope N_reach_bound ["many"] (defScope s_reach_bound) := ⟨rfl, rfl, rfl, by decide +kernel, rfl, by decide +kernel, by decide +kernel⟩
abbrev s_bound : Stmt := topS 13
abbrev N_bound : List Str := ["way", "many"]
theorem sc_bound : FnScope N_bound ["way", "many"] (defScope s_bound) := ⟨rfl, rfl, rfl, by decide +kernel, rfl, by decide +kernel, by decide +kernel⟩
abbrev s_law_hand : Stmt := topS 15
abbrev N_law_hand : List Str := ["_law_script", "_law_k", "_law_cell"]
theorem sc_law_hand : FnScope N_law_hand ["_law_script", "_law_k"] (defScope s_law_hand) := ⟨rfl, rfl, rfl, by decide +kernel, rfl, by decide +kernel, by decide +kernel⟩
abbrev s_law_take : Stmt := topS 16
abbrev N_law_take : List Str := ["_law_from", "_law_many", "_law_digit", "_law_turn", "_law_mixed"]
theorem sc_law_take : FnScope N_law_take ["_law_from", "_law_many"] (defScope s_law_take) := ⟨rfl, rfl, rfl, by decide +kernel, rfl, by decide +kernel, by decide +kernel⟩
abbrev s_law_order : Stmt := topS 17
abbrev N_law_order : List Str := ["_law_from", "_law_many", "_law_way", "_law_turn", "_law_k", "_law_left"]
theorem sc_law_order : FnScope N_law_order ["_law_from", "_law_many"] (defScope s_law_order) := ⟨rfl, rfl, rfl, by decide +kernel, rfl, by decide +kernel, by decide +kernel⟩
abbrev s_law_ring : Stmt := topS 18
abbrev N_law_ring : List Str := ["_law_from", "_law_many", "_law_order_here", "_law_k"]
theorem sc_law_ring : FnScope N_law_ring ["_law_from", "_law_many"] (defScope s_law_ring) := ⟨rfl, rfl, rfl, by decide +kernel, rfl, by decide +kernel, by decide +kernel⟩
abbrev s_law_some : Stmt := topS 19
abbrev N_law_some : List Str := ["_law_from", "_law_many", "_law_way", "_law_one", "_law_k"]
theorem sc_law_some : FnScope N_law_some ["_law_from", "_law_many"] (defScope s_law_some) := ⟨rfl, rfl, rfl, by decide +kernel, rfl, by decide +kernel, by decide +kernel⟩
abbrev s_law_size : Stmt := topS 20
abbrev N_law_size : List Str := ["_law_from"]
theorem sc_law_size : FnScope N_law_size ["_law_from"] (defScope s_law_size) := ⟨rfl, rfl, rfl, by decide +kernel, rfl, by decide +kernel, by decide +kernel⟩
abbrev s_law_word : Stmt := topS 21
abbrev N_law_word : List Str := ["_law_from", "_law_many", "_law_most", "_law_k"]
theorem sc_law_word : FnScope N_law_word ["_law_from", "_law_many"] (defScope s_law_word) := ⟨rfl, rfl, rfl, by decide +kernel, rfl, by decide +kernel, by decide +kernel⟩
abbrev s_law_bound : Stmt := topS 22
abbrev N_law_bound : List Str := ["_law_way", "_law_many", "_law_k", "_law_total"]
theorem sc_law_bound : FnScope N_law_bound ["_law_way", "_law_many"] (defScope s_law_bound) := ⟨rfl, rfl, rfl, by decide +kernel, rfl, by decide +kernel, by decide +kernel⟩
abbrev s_law_is : Stmt := topS 23
abbrev N_law_is : List Str := ["_law_found", "_law_due"]
theorem sc_law_is : FnScope N_law_is ["_law_found", "_law_due"] (defScope s_law_is) := ⟨rfl, rfl, rfl, by decide +kernel, rfl, by decide +kernel, by decide +kernel⟩
abbrev s_law_from_behind : Stmt := topS 24
abbrev N_law_from_behind : List Str := ["_law_power", "_law_names", "_law_k", "_law_name"]
theorem sc_law_from_behind : FnScope N_law_from_behind ["_law_power"] (defScope s_law_from_behind) := ⟨rfl, rfl, rfl, by decide +kernel, rfl, by decide +kernel, by decide +kernel⟩
abbrev s_law : Stmt := topS 25
abbrev N_law : List Str := ["_law_script", "_law_k", "_law_from", "_law_many", "_law_here", "_law_begun", "_law_way", "_law_due", "_law_word_here", "_law_falling", "_law_other", "_law_dear"]
theorem sc_law : FnScope N_law ["_law_script"] (defScope s_law) := ⟨rfl, rfl, rfl, by decide +kernel, rfl, by decide +kernel, by decide +kernel⟩
def fdAt (K : PySem.W.Frag) (p : Str × Option Str) : FuncData := match K.lookup (He.fAd K p) with
  | some ⟨_, _, .func fd, _⟩ => fd
  | _ => default
def fd_stop_of (K : PySem.W.Frag) : FuncData := fdAt K ("stop_of", none)
def fd_round_letters (K : PySem.W.Frag) : FuncData := fdAt K ("round_letters", none)
def fd_next_row (K : PySem.W.Frag) : FuncData := fdAt K ("next_row", none)
def fd_phases (K : PySem.W.Frag) : FuncData := fdAt K ("phases", none)
def fd_side_letters (K : PySem.W.Frag) : FuncData := fdAt K ("side_letters", none)
def fd_reach_letters (K : PySem.W.Frag) : FuncData := fdAt K ("reach_letters", none)
def fd_told_letters (K : PySem.W.Frag) : FuncData := fdAt K ("told_letters", none)
def fd_halvings (K : PySem.W.Frag) : FuncData := fdAt K ("halvings", none)
def fd_reach_bound (K : PySem.W.Frag) : FuncData := fdAt K ("reach_bound", none)
def fd_bound (K : PySem.W.Frag) : FuncData := fdAt K ("bound", none)
def fd_law_hand (K : PySem.W.Frag) : FuncData := fdAt K ("_law_hand", none)
def fd_law_take (K : PySem.W.Frag) : FuncData := fdAt K ("_law_take", none)
def fd_law_order (K : PySem.W.Frag) : FuncData := fdAt K ("_law_order", none)
def fd_law_ring (K : PySem.W.Frag) : FuncData := fdAt K ("_law_ring", none)
def fd_law_some (K : PySem.W.Frag) : FuncData := fdAt K ("_law_some", none)
def fd_law_size (K : PySem.W.Frag) : FuncData := fdAt K ("_law_size", none)
def fd_law_word (K : PySem.W.Frag) : FuncData := fdAt K ("_law_word", none)
def fd_law_bound (K : PySem.W.Frag) : FuncData := fdAt K ("_law_bound", none)
def fd_law_is (K : PySem.W.Frag) : FuncData := fdAt K ("_law_is", none)
def fd_law_from_behind (K : PySem.W.Frag) : FuncData := fdAt K ("_law_from_behind", none)
def fd_law (K : PySem.W.Frag) : FuncData := fdAt K ("law", none)
structure Txt (K : PySem.W.Frag) (mg : Str → Option Value) : Prop where
  F_stop_of : Fun K "stop_of" "stop_of" s_stop_of (He.ga K "stop_of") (fd_stop_of K)
  F_round_letters : Fun K "round_letters" "round_letters" s_round_letters (He.ga K "round_letters") (fd_round_letters K)
  F_next_row : Fun K "next_row" "next_row" s_next_row (He.ga K "next_row") (fd_next_row K)
  F_phases : Fun K "phases" "phases" s_phases (He.ga K "phases") (fd_phases K)
  F_side_letters : Fun K "side_letters" "side_letters" s_side_letters (He.ga K "side_letters") (fd_side_letters K)
  F_reach_letters : Fun K "reach_letters" "reach_letters" s_reach_letters (He.ga K "reach_letters") (fd_reach_letters K)
  F_told_letters : Fun K "told_letters" "told_letters" s_told_letters (He.ga K "told_letters") (fd_told_letters K)
  F_halvings : Fun K "halvings" "halvings" s_halvings (He.ga K "halvings") (fd_halvings K)
  F_reach_bound : Fun K "reach_bound" "reach_bound" s_reach_bound (He.ga K "reach_bound") (fd_reach_bound K)
  F_bound : Fun K "bound" "bound" s_bound (He.ga K "bound") (fd_bound K)
  F_law_hand : Fun K "_law_hand" "_law_hand" s_law_hand (He.ga K "_law_hand") (fd_law_hand K)
  F_law_take : Fun K "_law_take" "_law_take" s_law_take (He.ga K "_law_take") (fd_law_take K)
  F_law_order : Fun K "_law_order" "_law_order" s_law_order (He.ga K "_law_order") (fd_law_order K)
  F_law_ring : Fun K "_law_ring" "_law_ring" s_law_ring (He.ga K "_law_ring") (fd_law_ring K)
  F_law_some : Fun K "_law_some" "_law_some" s_law_some (He.ga K "_law_some") (fd_law_some K)
  F_law_size : Fun K "_law_size" "_law_size" s_law_size (He.ga K "_law_size") (fd_law_size K)
  F_law_word : Fun K "_law_word" "_law_word" s_law_word (He.ga K "_law_word") (fd_law_word K)
  F_law_bound : Fun K "_law_bound" "_law_bound" s_law_bound (He.ga K "_law_bound") (fd_law_bound K)
  F_law_is : Fun K "_law_is" "_law_is" s_law_is (He.ga K "_law_is") (fd_law_is K)
  F_law_from_behind : Fun K "_law_from_behind" "_law_from_behind" s_law_from_behind (He.ga K "_law_from_behind") (fd_law_from_behind K)
  F_law : Fun K "law" "law" s_law (He.ga K "law") (fd_law K)
  m_stop_of : mg "stop_of" = some (.ref (He.ga K "stop_of"))
  m_round_letters : mg "round_letters" = some (.ref (He.ga K "round_letters"))
  m_next_row : mg "next_row" = some (.ref (He.ga K "next_row"))
  m_phases : mg "phases" = some (.ref (He.ga K "phases"))
  m_side_letters : mg "side_letters" = some (.ref (He.ga K "side_letters"))
  m_reach_letters : mg "reach_letters" = some (.ref (He.ga K "reach_letters"))
  m_told_letters : mg "told_letters" = some (.ref (He.ga K "told_letters"))
  m_halvings : mg "halvings" = some (.ref (He.ga K "halvings"))
  m_reach_bound : mg "reach_bound" = some (.ref (He.ga K "reach_bound"))
  m_bound : mg "bound" = some (.ref (He.ga K "bound"))
  m_law_hand : mg "_law_hand" = some (.ref (He.ga K "_law_hand"))
  m_law_take : mg "_law_take" = some (.ref (He.ga K "_law_take"))
  m_law_order : mg "_law_order" = some (.ref (He.ga K "_law_order"))
  m_law_ring : mg "_law_ring" = some (.ref (He.ga K "_law_ring"))
  m_law_some : mg "_law_some" = some (.ref (He.ga K "_law_some"))
  m_law_size : mg "_law_size" = some (.ref (He.ga K "_law_size"))
  m_law_word : mg "_law_word" = some (.ref (He.ga K "_law_word"))
  m_law_bound : mg "_law_bound" = some (.ref (He.ga K "_law_bound"))
  m_law_is : mg "_law_is" = some (.ref (He.ga K "_law_is"))
  m_law_from_behind : mg "_law_from_behind" = some (.ref (He.ga K "_law_from_behind"))
  m_law : mg "law" = some (.ref (He.ga K "law"))
  n_len : mg "len" = none
  n_range : mg "range" = none
  n_sum : mg "sum" = none
  n_enumerate : mg "enumerate" = none
  n_tuple : mg "tuple" = none
  n_int : mg "int" = none
  n_isinstance : mg "isinstance" = none
  n_bool : mg "bool" = none
  n_max : mg "max" = none
  n_min : mg "min" = none
  n_sorted : mg "sorted" = none
  g_LEFT : ∃ t, mg "LEFT" = some (.int (-1) t)
  g_RIGHT : ∃ t, mg "RIGHT" = some (.int (1) t)
  k_stop_of : PySem.W.keepIn K (.ref (He.ga K "stop_of")) = true
  b_stop_of : Binds K (fd_stop_of K) ["ring", "some", "house", "side"] []
  k_round_letters : PySem.W.keepIn K (.ref (He.ga K "round_letters")) = true
  b_round_letters : Binds K (fd_round_letters K) ["ring", "some"] []
  k_next_row : PySem.W.keepIn K (.ref (He.ga K "next_row")) = true
  b_next_row : Binds K (fd_next_row K) ["row"] []
  k_phases : PySem.W.keepIn K (.ref (He.ga K "phases")) = true
  b_phases : Binds K (fd_phases K) ["ring", "some"] []
  k_side_letters : PySem.W.keepIn K (.ref (He.ga K "side_letters")) = true
  b_side_letters : Binds K (fd_side_letters K) ["reach", "stop"] []
  k_reach_letters : PySem.W.keepIn K (.ref (He.ga K "reach_letters")) = true
  b_reach_letters : Binds K (fd_reach_letters K) ["left", "right"] []
  k_told_letters : PySem.W.keepIn K (.ref (He.ga K "told_letters")) = true
  b_told_letters : Binds K (fd_told_letters K) ["way", "ring", "some"] []
  k_halvings : PySem.W.keepIn K (.ref (He.ga K "halvings")) = true
  b_halvings : Binds K (fd_halvings K) ["many"] []
  k_reach_bound : PySem.W.keepIn K (.ref (He.ga K "reach_bound")) = true
  b_reach_bound : Binds K (fd_reach_bound K) ["many"] []
  k_bound : PySem.W.keepIn K (.ref (He.ga K "bound")) = true
  b_bound : Binds K (fd_bound K) ["way", "many"] []
  k_law_hand : PySem.W.keepIn K (.ref (He.ga K "_law_hand")) = true
  b_law_hand : Binds K (fd_law_hand K) ["_law_script", "_law_k"] []
  k_law_take : PySem.W.keepIn K (.ref (He.ga K "_law_take")) = true
  b_law_take : Binds K (fd_law_take K) ["_law_from", "_law_many"] []
  k_law_order : PySem.W.keepIn K (.ref (He.ga K "_law_order")) = true
  b_law_order : Binds K (fd_law_order K) ["_law_from", "_law_many"] []
  k_law_ring : PySem.W.keepIn K (.ref (He.ga K "_law_ring")) = true
  b_law_ring : Binds K (fd_law_ring K) ["_law_from", "_law_many"] []
  k_law_some : PySem.W.keepIn K (.ref (He.ga K "_law_some")) = true
  b_law_some : Binds K (fd_law_some K) ["_law_from", "_law_many"] []
  k_law_size : PySem.W.keepIn K (.ref (He.ga K "_law_size")) = true
  b_law_size : Binds K (fd_law_size K) ["_law_from"] []
  k_law_word : PySem.W.keepIn K (.ref (He.ga K "_law_word")) = true
  b_law_word : Binds K (fd_law_word K) ["_law_from", "_law_many"] []
  k_law_bound : PySem.W.keepIn K (.ref (He.ga K "_law_bound")) = true
  b_law_bound : Binds K (fd_law_bound K) ["_law_way", "_law_many"] []
  k_law_is : PySem.W.keepIn K (.ref (He.ga K "_law_is")) = true
  b_law_is : Binds K (fd_law_is K) ["_law_found", "_law_due"] []
  k_law_from_behind : PySem.W.keepIn K (.ref (He.ga K "_law_from_behind")) = true
  b_law_from_behind : Binds K (fd_law_from_behind K) ["_law_power"] []
  k_law : PySem.W.keepIn K (.ref (He.ga K "law")) = true
  b_law : Binds K (fd_law K) ["_law_script"] []
section
variable {P : Program} {w : World} {K : PySem.W.Frag} {mg : Str → Option Value} {base : Heap}
def sgn (s : Bool) : Int := if s then 1 else -1
def nmL (ring : List Int) (i : Nat) : Int := ring.getD i 0
theorem nbr_int {n h d : Nat} {s : Bool} (hn : h < n) (hd : d ≤ n) : ((h : Int) + sgn s * (d : Int)) % (n : Int) = (RC.nbr n h s d : Nat) := by
  unfold RC.nbr sgn
  cases s
  · simp only [Bool.false_eq_true, if_false]
    have e : (h : Int) + -1 * (d : Int) = ((h + n - d : Nat) : Int) + -1 * (n : Int) := by omega
    rw [e, Int.add_mul_emod_self_right]
    exact (Int.natCast_emod _ _).symm
  · simp only [if_true]
    rw [Int.one_mul, ← Int.natCast_add]
    exact (Int.natCast_emod _ _).symm
theorem at_vI {l : List Int} {j : Nat} (h : j < l.length) : atI (vI l) (j : Int) = some (.int (nmL l j)) := by
  refine atI_nat ?_
  rw [List.getElem?_map, List.getElem?_eq_getElem h]
  simp [nmL, List.getD, h]
/-- a ring and some of it stand there -/
def RS (K : PySem.W.Frag) (H : Hp) (ra sa : Addr) (ring : List Int) (bs : List Nat) : Prop := SqT K H ra (vI ring) ∧ SqT K H sa (vN bs) ∧ (∀ j ∈ bs, j < ring.length) ∧ ring.length ≤ 64
theorem RS.same {H H2 : Hp} {ra sa : Addr} {ring : List Int} {bs : List Nat} (h : RS K H ra sa ring bs) (e : Same H H2) : RS K H2 ra sa ring bs := ⟨same_seqT e h.1, same_seqT e h.2.1, h.2.2⟩
abbrev stopL (ring : List Int) (bs : List Nat) (h : Nat) (s : Bool) : Nat := RC.stop ring.length (nmL ring) (fun j => decide (j ∈ bs)) h s
def sp_stop (K : PySem.W.Frag) : Sp := fun vs H Q _ => ∃ (ra sa : Addr) (ring : List Int) (bs : List Nat) (h : Nat) (s : Bool), vs = [.ref ra, .ref sa, .int (h : Int), .int (sgn s)] ∧ RS K H ra sa ring bs ∧ h < ring.length ∧
  Q (.int (RC.stop ring.length (nmL ring) (fun j => decide (j ∈ bs)) h s : Nat)) H
theorem ok_stop (T : Txt K mg) : FnOk P w K mg base CX0 1 (He.ga K "stop_of") (fd_stop_of K) ["ring", "some", "house", "side"] (sp_stop K) := by
  refine T.F_stop_of.ok sc_stop_of (fun vs H Q E h => ?_) (fun cdv A outer s H vs Q E hr h => ?_)
  · obtain ⟨_, _, _, _, _, _, rfl, _⟩ := h; rfl
  · obtain ⟨ra, sa, ring, bs, h, s, rfl, ⟨hR, hB, hb, h64⟩, hh, q⟩ := h
    refine ⟨_, (pss_cons (ps_set (i := 4) sc_stop_of.nd rfl (Or.inl rfl) (pe_callB (call_lenC K) (by rfl) T.n_len PySem.boot_len (pa_cons (pv 0) pa_nil)))
      (pss_cons (ps_for PassesOwn.never rfl (pi_range2 rfl T.n_range (pa_cons pe_int (pa_cons (pv 4) pa_nil))) (pg_name (i := 5) sc_stop_of.nd rfl (Or.inl rfl))
        (pss_cons (ps_set (i := 6) sc_stop_of.nd rfl (Or.inl rfl) (pe_op op_mod (pe_op op_add (pv 2) (pe_op op_mul (pv 3) (pv 5))) (pv 4)))
        (pss_one (ps_if (PW.pt (pw_and (pt_cmpR (op_inC K) (pv 6) (pv 1) rfl) (pw_and1 (pt_cmpR op_gt (pe_ix (ix_tupC K) (pv 0) (pv 6) (fun _ _ => rfl)) (pe_ix (ix_tupC K) (pv 0) (pv 2) (fun _ _ => rfl)) (nomark _)))))
          (pss_one (ps_ret (pv 5)))
          pss_nil))))
      (pss_one (ps_ret (pv 4))))), ?_⟩
    walk_at "go"
    refine g_lenT hR ?_
    rw [show (vI ring).length = ring.length by simp]
    walk_at "go"
    refine g_r2 (n := ring.length - 1) (by omega) (by omega) (by omega) ?_
    refine g_forR (fun i σ H' => H' = H ∧ (∃ v5 v6, σ = [some (.ref ra), some (.ref sa), some (.int h), some (.int (sgn s)), some (.int ring.length), v5, v6]) ∧ RC.first (RC.grt ring.length (nmL ring) (fun j => decide (j ∈ bs)) h s) (ring.length - 1 - i) (1 + i) = RC.stop ring.length (nmL ring) (fun j => decide (j ∈ bs)) h s) ⟨rfl, ⟨_, _, rfl⟩, rfl⟩ ?_ ?_
    · rintro i σ H' hi ⟨rfl, ⟨v5, v6, rfl⟩, he⟩
      have hs : sgn s = 1 ∨ sgn s = -1 := by unfold sgn; cases s <;> simp
      walk_at "go"
      rw [show (1 : Int) + (i : Int) = ((1 + i : Nat) : Int) by omega, nbr_int hh (by omega)]
      have hj : RC.nbr ring.length h s (1 + i) < ring.length := RC.nbr_lt (by omega)
      walk_at "go"
      refine g_inT hB rfl flat_vN ?_
      walk_at "go"
      rw [inV_vN]
      rw [show ring.length - 1 - i = (ring.length - 1 - (i + 1)) + 1 by omega] at he
      unfold RC.first at he
      refine ifd (fun hm => ?_) (fun hm => ?_)
      · walk_at "go"
        refine g_ixT hR (at_vI hj) ?_
        walk_at "go"
        refine g_ixT hR (at_vI hh) ?_
        walk_at "go"
        refine ifd (fun hg => ?_) (fun hg => ?_)
        · walk_at "go"
          rw [if_pos (by unfold RC.grt; simp [hm, hg])] at he
          rw [← he] at q
          exact q
        · walk_at "go"
          rw [if_neg (by unfold RC.grt; simp [hm]; omega), Nat.add_assoc] at he
          exact ⟨rfl, ⟨_, _, rfl⟩, he⟩
      · walk_at "go"
        rw [if_neg (by unfold RC.grt; simp [hm]), Nat.add_assoc] at he
        exact ⟨rfl, ⟨_, _, rfl⟩, he⟩
    · rintro σ H' ⟨rfl, ⟨v5, v6, rfl⟩, he⟩
      walk_at "go"
      rw [show ring.length - 1 - (ring.length - 1) = 0 by omega] at he
      have e2 : RC.stop ring.length (nmL ring) (fun j => decide (j ∈ bs)) h s = ring.length := by
        rw [← he]
        show 1 + (ring.length - 1) = ring.length
        omega
      rw [e2] at q
      exact q
theorem g_stop {H : Hp} {Q : VK} {E : XK} {ra sa : Addr} {ring : List Int} {bs : List Nat} {h : Nat} {d : Int} (s : Bool) (hR : RS K H ra sa ring bs) (hh : h < ring.length) (hd : d = sgn s) (q : Q (.int (stopL ring bs h s : Nat)) H) : sp_stop K [.ref ra, .ref sa, .int (h : Int), .int d] H Q E := by
  subst hd
  exact ⟨ra, sa, ring, bs, h, s, rfl, hR, hh, q⟩
end
end G

set_option Elab.async false
set_option linter.all false
set_option maxRecDepth 100000
namespace G
open PySem PySem.Spec PyProof.Rows L2 Lay
section
variable {P : Program} {w : World} {K : PySem.W.Frag} {mg : Str → Option Value} {base : Heap}
abbrev roundL (ring : List Int) (bs : List Nat) : Nat := RC.roundSum ring.length (nmL ring) bs
theorem sum_nat {l : List Nat} : (l.map fun (i : Nat) => (i : Int)).sum = ((l.sum : Nat) : Int) := by
  induction l with
  | nil => rfl
  | cons a l ih => simp only [List.map_cons, List.sum_cons, ih]; omega
def sp_round (K : PySem.W.Frag) : Sp := fun vs H Q _ => ∃ (ra sa : Addr) (ring : List Int) (bs : List Nat), vs = [.ref ra, .ref sa] ∧ RS K H ra sa ring bs ∧ bs.length ≤ 64 ∧
  ∀ H2, Same H H2 → Q (.int (roundL ring bs : Nat)) H2
theorem g_round {H : Hp} {Q : VK} {E : XK} {ra sa : Addr} {ring : List Int} {bs : List Nat} (hR : RS K H ra sa ring bs) (hb : bs.length ≤ 64) (q : ∀ H2, Same H H2 → Q (.int (roundL ring bs : Nat)) H2) : sp_round K [.ref ra, .ref sa] H Q E := ⟨ra, sa, ring, bs, rfl, hR, hb, q⟩
theorem ok_round (T : Txt K mg) : FnOk P w K mg base CX0 2 (He.ga K "round_letters") (fd_round_letters K) ["ring", "some"] (sp_round K) := by
  have G_stop_of := fun {P w base} => ok_stop (P := P) (w := w) (base := base) T
  refine T.F_round_letters.ok sc_round_letters (fun vs H Q E h => ?_) (fun cdv A outer s H vs Q E hr h => ?_)
  · obtain ⟨_, _, _, _, rfl, _⟩ := h; rfl
  · obtain ⟨ra, sa, ring, bs, rfl, hR, h64, q⟩ := h
    refine ⟨_, (pss_one (ps_ret (pe_op op_add (pe_callB (cr_sumC K rfl) (by rfl) T.n_sum (by decide +kernel) (pa_cons (pe_lc (own := [("house", 2)]) (g := gName 2) rfl sc_round_letters.nd (pi_tupC K (pv 1)) (blkOk_by (N := N_round_letters) (sc := defScope s_round_letters) (by decide +kernel)) (fun _ _ _ _ _ => (pg_name (i := 2) sc_round_letters.nd rfl (Or.inl rfl))) (fun _ _ _ _ _ => pts_nil) (fun _ _ _ _ _ => (pe_call G_stop_of (hr.mono (by decide)) rfl T.m_stop_of T.k_stop_of T.b_stop_of .nil pass0 (pa_cons (pv 0) (pa_cons (pv 1) (pa_cons (pv 2) (pa_cons (pe_globI rfl T.g_RIGHT) pa_nil))))))) pa_nil)) (pe_callB (call_lenC K) (by rfl) T.n_len PySem.boot_len (pa_cons (pv 0) pa_nil))))), ?_⟩
    walk_at "go"
    refine g_itT hR.2.1 ?_
    walk_at "go"
    refine g_lcT (xs := vN bs) (fun D k acc H' => Same H H' ∧ acc = (bs.take k).map fun i => V.int (stopL ring bs i true : Nat)) (fun D H1 hD hs h1 => ⟨hs, by simp⟩) (fun D k acc H' hk h1 h2 => same_seqT h2.1 hR.2.1) (fun D k x acc H' hD hx h1 hl h2 => ?_) (fun D acc H' hD h1 hl h2 => ?_)
    · obtain ⟨hs, ha⟩ := h2
      obtain ⟨i, hi, rfl⟩ := vN_get hx
      have him : i ∈ bs := List.mem_of_getElem? hi
      walk_at "go"
      refine g_stop true (hR.same hs) (hR.2.2.1 i him) rfl ?_
      have hk : k < bs.length := by
        rcases Nat.lt_or_ge k bs.length with h | h
        · exact h
        · rw [List.getElem?_eq_none h] at hi; cases hi
      refine g_acc h1 hl (by omega) fun H2 hc h3 => ⟨fun b o e => hc.get (hs _ _ e) (fun z => by rw [z] at e; rw [hD] at e; cases e), ?_⟩
      rw [ha]
      exact take_succ_map (f := fun i => V.int (stopL ring bs i true : Nat)) hi
    · obtain ⟨hs, ha⟩ := h2
      rw [show (vN bs).length = bs.length by simp, List.take_length] at ha
      walk_at "go"
      refine g_sum (ns := (bs.map fun i => stopL ring bs i true).map fun (i : Nat) => (i : Int)) (lstL (by rw [h1, ha, List.map_map, List.map_map]; rfl)) ?_
      walk_at "go"
      refine g_lenT (same_seqT hs hR.1) ?_
      walk_at "go"
      rw [sum_nat, show (vI ring).length = ring.length by simp, ← Int.natCast_add]
      exact q H' hs
/-! ### numbers -/
def sp_side : Sp := fun vs H Q _ => ∃ r st : Nat, vs = [.int (r : Int), .int (st : Int)] ∧ Q (.int (RC.sideL r st : Nat)) H
theorem ok_side (T : Txt K mg) : FnOk P w K mg base CX0 1 (He.ga K "side_letters") (fd_side_letters K) ["reach", "stop"] sp_side := by
  refine T.F_side_letters.ok sc_side_letters (fun vs H Q E h => ?_) (fun cdv A outer s H vs Q E hr h => ?_)
  · obtain ⟨_, _, rfl, _⟩ := h; rfl
  · obtain ⟨r, st, rfl, q⟩ := h
    refine ⟨_, (pss_cons (ps_if (pt_cmpR op_gt (pv 1) (pv 0) (nomark _))
        (pss_one (ps_ret (pe_op op_mul pe_int (pv 0))))
        pss_nil)
      (pss_one (ps_ret (pv 1)))), ?_⟩
    unfold RC.sideL at q
    walk_at "go"
    refine ifd (fun h => ?_) (fun h => ?_)
    · walk_at "go"
      rw [if_pos (by omega)] at q
      exact q
    · walk_at "go"
      rw [if_neg (by omega)] at q
      exact q
def sp_reachL : Sp := fun vs H Q _ => ∃ l r : Nat, vs = [.int (l : Int), .int (r : Int)] ∧ l ≤ 1000000 ∧ r ≤ 1000000 ∧ Q (.int (RC.reachLetters l r : Nat)) H
theorem ok_reachL (T : Txt K mg) : FnOk P w K mg base CX0 2 (He.ga K "reach_letters") (fd_reach_letters K) ["left", "right"] sp_reachL := by
  have G_side_letters := fun {P w base} => ok_side (P := P) (w := w) (base := base) T
  refine T.F_reach_letters.ok sc_reach_letters (fun vs H Q E h => ?_) (fun cdv A outer s H vs Q E hr h => ?_)
  · obtain ⟨_, _, rfl, _⟩ := h; rfl
  · obtain ⟨l, r, rfl, hl, hr', q⟩ := h
    refine ⟨_, (pss_cons (ps_set (i := 2) sc_reach_letters.nd rfl (Or.inl rfl) pe_int)
      (pss_cons (ps_set (i := 3) sc_reach_letters.nd rfl (Or.inl rfl) pe_int)
      (pss_cons (ps_set (i := 4) sc_reach_letters.nd rfl (Or.inl rfl) pe_bl)
      (pss_cons (ps_while PassesOwn.never (pt_val (pv 4))
        (pss_cons (ps_aug (i := 2) sc_reach_letters.nd rfl (Or.inl rfl) (pe_op op_add (pe_call G_side_letters (hr.mono (by decide)) rfl T.m_side_letters T.k_side_letters T.b_side_letters .nil pass0 (pa_cons (pv 3) (pa_cons (pv 0) pa_nil))) (pe_call G_side_letters (hr.mono (by decide)) rfl T.m_side_letters T.k_side_letters T.b_side_letters .nil pass0 (pa_cons (pv 3) (pa_cons (pv 1) pa_nil)))) ip_add)
        (pss_cons (ps_set (i := 4) sc_reach_letters.nd rfl (Or.inl rfl) (pe_and (pe_cmpR op_gt (pv 0) (pv 3) (nomark _)) (pe_one (pe_cmpR op_gt (pv 1) (pv 3) (nomark _)))))
        (pss_one (ps_set (i := 3) sc_reach_letters.nd rfl (Or.inl rfl) (pe_op op_mul pe_int (pv 3)))))))
      (pss_one (ps_ret (pv 2))))))), ?_⟩
    walk_at "go"
    refine g_while (fun m σ H' => H' = H ∧ ∃ (t rc : Nat) (b : Bool), σ = [some (.int l), some (.int r), some (.int t), some (.int rc), some (.bl b)] ∧
      (b = true → 1 ≤ rc ∧ ∃ k, min l r ≤ rc + k ∧ m = k + 2 ∧ t + ((RC.reaches l r k rc).map fun rc => RC.sideL rc l + RC.sideL rc r).sum = RC.reachLetters l r) ∧ (b = false → m = 1 ∧ t = RC.reachLetters l r)) (min l r + 2) ⟨rfl, 0, 1, true, rfl, fun _ => ⟨Nat.le_refl _, min l r, by omega, rfl, by unfold RC.reachLetters; omega⟩, fun z => (by cases z)⟩ ?_
    rintro m σ H' ⟨rfl, t, rc, b, rfl, h1, h2⟩
    walk_at "go"
    refine ifb (fun hb => ?_) (fun hb => ?_)
    · subst hb
      obtain ⟨h0, k, hk, rfl, e⟩ := h1 rfl
      refine g_wb ?_
      walk_at "go"
      refine ⟨rc, l, rfl, ?_⟩
      walk_at "go"
      refine ⟨rc, r, rfl, ?_⟩
      walk_at "go"
      have e1 : ∀ x y : Nat, (t : Int) + ((x : Int) + (y : Int)) = ((t + (x + y) : Nat) : Int) := by intro x y; omega
      rw [e1]
      by_cases hc : rc < l ∧ rc < r
      · refine ifd (fun h3 => ?_) (fun h3 => by omega)
        walk_at "go"
        obtain ⟨k', rfl⟩ : ∃ k', k = k' + 1 := ⟨k - 1, by omega⟩
        refine ⟨k' + 2, by omega, rfl, t + (RC.sideL rc l + RC.sideL rc r), 2 * rc, true, ?_, fun _ => ⟨by omega, k', by omega, rfl, ?_⟩, fun z => (by cases z)⟩
        · rw [decide_eq_true (by omega)]; rfl
        · unfold RC.reaches at e
          rw [if_pos hc, List.map_cons, List.sum_cons] at e
          omega
      · have hT : t + (RC.sideL rc l + RC.sideL rc r) = RC.reachLetters l r := by
          cases k with
          | zero => unfold RC.reaches at e; simp only [List.map_cons, List.map_nil, List.sum_cons, List.sum_nil] at e; omega
          | succ k => unfold RC.reaches at e; rw [if_neg hc] at e; simp only [List.map_cons, List.map_nil, List.sum_cons, List.sum_nil] at e; omega
        refine ifd (fun h3 => ?_) (fun h3 => ?_)
        · walk_at "go"
          refine ⟨1, by omega, rfl, t + (RC.sideL rc l + RC.sideL rc r), 2 * rc, false, ?_, fun z => (by cases z), fun _ => ⟨rfl, hT⟩⟩
          rw [decide_eq_false (by omega)]; rfl
        · walk_at "go"
          exact ⟨1, by omega, rfl, t + (RC.sideL rc l + RC.sideL rc r), 2 * rc, false, rfl, fun z => (by cases z), fun _ => ⟨rfl, hT⟩⟩
    · obtain ⟨_, e⟩ := h2 hb
      walk_at "go"
      rw [e]
      exact q
def sp_halv : Sp := fun vs H Q _ => ∃ m : Nat, vs = [.int (m : Int)] ∧ Q (.int (RC.halvings m : Nat)) H
theorem ok_halv (T : Txt K mg) : FnOk P w K mg base CX0 1 (He.ga K "halvings") (fd_halvings K) ["many"] sp_halv := by
  refine T.F_halvings.ok sc_halvings (fun vs H Q E h => ?_) (fun cdv A outer s H vs Q E hr h => ?_)
  · obtain ⟨_, rfl, _⟩ := h; rfl
  · obtain ⟨m, rfl, q⟩ := h
    refine ⟨_, (pss_cons (ps_set (i := 1) sc_halvings.nd rfl (Or.inl rfl) pe_int)
      (pss_cons (ps_while PassesOwn.never (pt_cmpR op_gt (pv 0) pe_int (nomark _))
        (pss_cons (ps_set (i := 0) sc_halvings.nd rfl (Or.inl rfl) (pe_op op_fdiv (pv 0) pe_int))
        (pss_one (ps_aug (i := 1) sc_halvings.nd rfl (Or.inl rfl) pe_int ip_add))))
      (pss_one (ps_ret (pv 1))))), ?_⟩
    walk_at "go"
    refine g_while (fun k σ H' => H' = H ∧ ∃ x t : Nat, σ = [some (.int x), some (.int t)] ∧ x ≤ k ∧ t + RC.halvingsL k x = RC.halvings m) m ⟨rfl, m, 0, rfl, Nat.le_refl _, by unfold RC.halvings; omega⟩ ?_
    rintro k σ H' ⟨rfl, x, t, rfl, hx, e⟩
    walk_at "go"
    refine ifd (fun h => ?_) (fun h => ?_)
    · refine g_wb ?_
      walk_at "go"
      obtain ⟨k', rfl⟩ : ∃ k', k = k' + 1 := ⟨k - 1, by omega⟩
      unfold RC.halvingsL at e
      rw [if_pos (by omega)] at e
      refine ⟨k', by omega, rfl, x / 2, t + 1, ?_, by omega, by omega⟩
      rw [show ((x : Int) / 2) = ((x / 2 : Nat) : Int) by omega]
      rfl
    · walk_at "go"
      have : RC.halvingsL k x = 0 := by
        cases k with
        | zero => rfl
        | succ k => unfold RC.halvingsL; rw [if_neg (by omega)]
      rw [this, Nat.add_zero] at e
      rw [e]
      exact q
def sp_rbound : Sp := fun vs H Q _ => ∃ m : Nat, vs = [.int (m : Int)] ∧ m ≤ 100000 ∧ Q (.int (RC.reachBound m : Nat)) H
theorem ok_rbound (T : Txt K mg) : FnOk P w K mg base CX0 1 (He.ga K "reach_bound") (fd_reach_bound K) ["many"] sp_rbound := by
  refine T.F_reach_bound.ok sc_reach_bound (fun vs H Q E h => ?_) (fun cdv A outer s H vs Q E hr h => ?_)
  · obtain ⟨_, rfl, _⟩ := h; rfl
  · obtain ⟨m, rfl, hm, q⟩ := h
    refine ⟨_, (pss_cons (ps_set (i := 1) sc_reach_bound.nd rfl (Or.inl rfl) (pe_op op_mul pe_int (pv 0)))
      (pss_cons (ps_set (i := 2) sc_reach_bound.nd rfl (Or.inl rfl) pe_int)
      (pss_cons (ps_while PassesOwn.never (pt_cmpR op_lt (pe_op op_fdiv (pv 2) pe_int) (pv 0) (nomark _))
        (pss_cons (ps_aug (i := 1) sc_reach_bound.nd rfl (Or.inl rfl) (pe_op op_mul (pe_op op_mul pe_int (pv 2)) (pe_op op_fdiv (pv 0) (pe_op op_add (pe_op op_fdiv (pv 2) pe_int) pe_int))) ip_add)
        (pss_one (ps_set (i := 2) sc_reach_bound.nd rfl (Or.inl rfl) (pe_op op_mul pe_int (pv 2))))))
      (pss_one (ps_ret (pv 1)))))), ?_⟩
    walk_at "go"
    refine g_while (fun k σ H' => H' = H ∧ ∃ t rc : Nat, σ = [some (.int m), some (.int t), some (.int rc)] ∧ 2 ≤ rc ∧ 2 * m ≤ rc * (k + 1) ∧ t + RC.reachB m k rc = RC.reachBound m) m ⟨rfl, 5 * m, 2, rfl, by omega, by omega, rfl⟩ ?_
    rintro k σ H' ⟨rfl, t, rc, rfl, h2, hj, e⟩
    walk_at "go"
    refine ifd (fun h => ?_) (fun h => ?_)
    · refine g_wb ?_
      walk_at "go"
      obtain ⟨j', rfl⟩ : ∃ j', k = j' + 1 := ⟨k - 1, by
        cases k with
        | zero => rw [Nat.zero_add, Nat.mul_one] at hj; omega
        | succ k => omega⟩
      have hj' : 2 * m ≤ 2 * rc * (j' + 1) := by
        have h8 : rc * (j' + 1 + 1) ≤ rc * (2 * (j' + 1)) := Nat.mul_le_mul_left _ (by omega)
        have h9 : rc * (2 * (j' + 1)) = 2 * rc * (j' + 1) := by rw [← Nat.mul_assoc, Nat.mul_comm rc 2]
        omega
      unfold RC.reachB at e
      rw [if_pos (by omega)] at e
      refine ⟨j', by omega, rfl, t + 4 * rc * (m / (rc / 2 + 1)), 2 * rc, ?_, by omega, hj', by omega⟩
      have e1 : (t : Int) + 4 * (rc : Int) * ((m : Int) / ((rc : Int) / 2 + 1)) = ((t + 4 * rc * (m / (rc / 2 + 1)) : Nat) : Int) := by
        rw [Int.natCast_add, Int.natCast_mul, Int.natCast_mul, Int.natCast_ediv]
        rfl
      rw [e1]
      rfl
    · walk_at "go"
      have : RC.reachB m k rc = 0 := by
        cases k with
        | zero => rfl
        | succ k => unfold RC.reachB; rw [if_neg (by omega)]
      rw [this, Nat.add_zero] at e
      rw [e]
      exact q
end
end G

set_option Elab.async false
set_option linter.all false
set_option maxRecDepth 100000
namespace G
open PySem PySem.Spec PyProof.Rows L2 Lay
section
variable {P : Program} {w : World} {K : PySem.W.Frag} {mg : Str → Option Value} {base : Heap}
def PairAt (H : Hp) (x : V) (y : Nat × Int) : Prop := ∃ a, x = .ref a ∧ H a = some (.tup [.int (y.1 : Int), .int y.2])
theorem PairAt.same {H H2 : Hp} {x : V} {y : Nat × Int} (e : Same H H2) (h : PairAt H x y) : PairAt H2 x y := by
  obtain ⟨a, h1, h2⟩ := h
  exact ⟨a, h1, e _ _ h2⟩
def RowAt (H : Hp) (p : Addr) (row : RC.Row) : Prop := ∃ xs, H p = some (.tup xs) ∧ All2 (PairAt H) xs row
theorem RowAt.same {H H2 : Hp} {p : Addr} {row : RC.Row} (h : RowAt H p row) (e : Same H H2) : RowAt H2 p row := by
  obtain ⟨xs, h1, h2⟩ := h
  exact ⟨xs, e _ _ h1, h2.mono fun x y => PairAt.same e⟩
theorem same_of_chg {H H1 H2 : Hp} {l : Addr} (h : Same H H1) (e : Chg (· = l) H1 H2) (hl : H l = none) : Same H H2 := fun b o hb => e.get (h _ _ hb) fun z => by rw [z, hl] at hb; cases hb
theorem same_trans {H H1 H2 : Hp} (h : Same H H1) (e : Same H1 H2) : Same H H2 := fun b o hb => e _ _ (h _ _ hb)
def sp_nextRow : Sp := fun vs H Q _ => ∃ (p : Addr) (row : RC.Row), vs = [.ref p] ∧ RowAt H p row ∧ 2 ≤ row.length ∧ row.length ≤ 1000 ∧ ∀ l H2, Same H H2 → RowAt H2 l (RC.nextRow row) → Q (.ref l) H2
def nxt (row : RC.Row) (k : Nat) : RC.Row := ((List.range k).filter (RC.goesOn row)).map fun k => (RC.houseAt row k, RC.heldAt row ((k + row.length - 1) % row.length))
theorem nxt_succ {row : RC.Row} {k : Nat} : nxt row (k + 1) = if RC.goesOn row k = true then nxt row k ++ [(RC.houseAt row k, RC.heldAt row ((k + row.length - 1) % row.length))] else nxt row k := by
  unfold nxt
  rw [List.range_succ, List.filter_append, List.map_append]
  split
  · rename_i h; simp [h]
  · rename_i h; simp [h]
theorem nxt_len {row : RC.Row} {k : Nat} : (nxt row k).length ≤ k := by
  unfold nxt
  rw [List.length_map]
  exact Nat.le_trans (List.length_filter_le _ _) (by rw [List.length_range]; exact Nat.le_refl _)
theorem ok_nextRow (T : Txt K mg) : FnOk P w K mg base CX0 1 (He.ga K "next_row") (fd_next_row K) ["row"] sp_nextRow := by
  refine T.F_next_row.ok sc_next_row (fun vs H Q E h => ?_) (fun cdv A outer s H vs Q E hr h => ?_)
  · obtain ⟨_, _, rfl, _⟩ := h; rfl
  · obtain ⟨p, row, rfl, ⟨xs, hp, hxs⟩, h2, hL, q⟩ := h
    refine ⟨_, (pss_cons (ps_set (i := 1) sc_next_row.nd rfl (Or.inl rfl) (pe_lst pa_nil))
      (pss_cons (ps_for PassesOwn.never rfl (pi_enumTC K (by rfl) T.n_enumerate (pa_cons (pv 0) pa_nil)) (pg_tupC K 2 rfl (pgs_cons (pg_name (i := 2) sc_next_row.nd rfl (Or.inl rfl)) (pgs_cons (pg_tupC K 2 rfl (pgs_cons (pg_name (i := 3) sc_next_row.nd rfl (Or.inl rfl)) (pgs_cons (pg_name (i := 4) sc_next_row.nd rfl (Or.inl rfl)) pgs_nil))) pgs_nil)))
        (pss_cons (ps_set (i := 5) sc_next_row.nd rfl (Or.inl rfl) (pe_ix (ix_tupC K) (pe_ix (ix_tupC K) (pv 0) (pe_op op_sub (pv 2) pe_int) (fun _ _ => rfl)) pe_int (fun _ _ => rfl)))
        (pss_one (ps_if (PW.pt (pw_and (pt_cmpR op_gt (pv 5) (pv 4) (nomark _)) (pw_and1 (pt_cmpR op_gt (pv 5) (pe_ix (ix_tupC K) (pe_ix (ix_tupC K) (pv 0) (pe_op op_sub (pv 2) pe_int) (fun _ _ => rfl)) pe_int (fun _ _ => rfl)) (nomark _)))))
          (pss_one (ps_expr (pe_bmC K PySem.F.plainAttrs_list PySem.F.slot_list_append PySem.F.type_list_append mt_append (pv 1) (pa_cons (pe_tup (pa_cons (pv 3) (pa_cons (pv 5) pa_nil))) pa_nil))))
          pss_nil))))
      (pss_one (ps_ret (pe_callTy (call_tupleC K) (by rfl) T.n_tuple boot_tuple (pa_cons (pv 1) pa_nil)))))), ?_⟩
    have hlen := hxs.1
    have get : ∀ H', Same H H' → ∀ k, k < row.length → ∃ a, xs[k]? = some (.ref a) ∧ H' a = some (.tup [.int (RC.houseAt row k : Int), .int (RC.heldAt row k)]) := fun H' hs k hk => by
      obtain ⟨x, hx, a, rfl, ha⟩ := hxs.get (List.getElem?_eq_getElem hk)
      refine ⟨a, hx, ?_⟩
      have e1 : RC.houseAt row k = row[k].1 := by unfold RC.houseAt; simp [List.getD, hk]
      have e2 : RC.heldAt row k = row[k].2 := by unfold RC.heldAt; simp [List.getD, hk]
      rw [e1, e2]
      exact hs _ _ ha
    walk_at "go"
    refine g_newL (by simp) fun l H1 hl hs1 h1 => ?_
    walk_at "go"
    refine g_itET (tupT (hs1 _ _ hp)) ?_
    refine g_forW (n := xs.length) walk_enumT (fun i σ H' => Same H H' ∧ (∃ v2 v3 v4 v5, σ = [some (.ref p), some (.ref l), v2, v3, v4, v5]) ∧ ∃ ys, H' l = some (.lst ys) ∧ All2 (PairAt H') ys (nxt row i)) ⟨hs1, ⟨_, _, _, _, rfl⟩, [], h1, All2.nil⟩ (fun i σ H' hi h => tupT (h.1 _ _ hp)) ?_ ?_
    · rintro i x σ H2 H3 hi ⟨hs2, ⟨v2, v3, v4, v5, rfl⟩, ys, hy, hys⟩ ⟨T', u, v, rfl, hT, rfl, e1, e2⟩
      cases e1
      have hs3 : Same H (upd H2 T' (.tup [.int (i : Nat), v])) := same_trans hs2 (same_upd hT)
      have hy3 : (upd H2 T' (.tup [.int (i : Nat), v])) l = some (.lst ys) := same_upd hT _ _ hy
      have hn3 : (upd H2 T' (.tup [.int (i : Nat), v])) T' = some (.tup [.int (i : Nat), v]) := upd_same
      have hys3 : All2 (PairAt (upd H2 T' (.tup [.int (i : Nat), v]))) ys (nxt row i) := hys.mono fun x y => PairAt.same (same_upd hT)
      generalize upd H2 T' (.tup [.int (i : Nat), v]) = H4 at *
      have hi' : i < row.length := by omega
      obtain ⟨a, ha1, ha2⟩ := get H4 hs3 i hi'
      replace e2 : xs[i]? = some v := e2
      rw [e2] at ha1
      cases ha1
      obtain ⟨b, hb1, hb2⟩ := get H4 hs3 ((i + row.length - 1) % row.length) (Nat.mod_lt _ (by omega))
      obtain ⟨c, hc1, hc2⟩ := get H4 hs3 ((i + row.length - 2) % row.length) (Nat.mod_lt _ (by omega))
      rw [← hlen] at hb1 hc1
      refine g_gtup (tupT hn3) rfl ?_
      walk_at "go"
      refine g_gtup (tupT ha2) rfl ?_
      walk_at "go"
      refine g_ixT (tupT (hs3 _ _ hp)) (at_back (k := i) (d := 1) rfl (by omega) (by omega) hb1) ?_
      refine g_ixT (tupT hb2) rfl ?_
      walk_at "go"
      have hgo : RC.goesOn row i = (decide (RC.heldAt row i < RC.heldAt row ((i + row.length - 1) % row.length)) && decide (RC.heldAt row ((i + row.length - 2) % row.length) < RC.heldAt row ((i + row.length - 1) % row.length))) := rfl
      refine ifd (fun g1 => ?_) (fun g1 => ?_)
      · walk_at "go"
        refine g_ixT (tupT (hs3 _ _ hp)) (at_back (k := i) (d := 2) rfl (by omega) (by omega) hc1) ?_
        walk_at "go"
        refine g_ixT (tupT hc2) rfl ?_
        walk_at "go"
        refine ifd (fun g2 => ?_) (fun g2 => ?_)
        · walk_at "go"
          refine g_bmL (lstL hy3) ?_
          walk_at "go"
          refine g_newT (by simp) fun t H5 ht hs5 h5 => ?_
          walk_at "go"
          refine g_append (hs5 _ _ hy3) (by rw [hys.1]; have := nxt_len (row := row) (k := i); omega) fun H6 hc6 h6 => ?_
          walk_at "go"
          have hs6 : Same H H6 := same_of_chg (same_trans hs3 hs5) hc6 hl
          refine ⟨hs6, ⟨_, _, _, _, rfl⟩, _, h6, ?_⟩
          rw [nxt_succ, if_pos (by rw [hgo]; simp; omega)]
          refine All2.snoc (hys3.mono fun x y hxy => ?_) ⟨t, rfl, hc6.tup h5⟩
          obtain ⟨a', h7, h8⟩ := hxy
          exact ⟨a', h7, hc6.tup (hs5 _ _ h8)⟩
        · walk_at "go"
          refine ⟨hs3, ⟨_, _, _, _, rfl⟩, ys, hy3, ?_⟩
          rw [nxt_succ, if_neg (by rw [hgo]; simp; omega)]
          exact hys3
      · walk_at "go"
        refine ⟨hs3, ⟨_, _, _, _, rfl⟩, ys, hy3, ?_⟩
        rw [nxt_succ, if_neg (by rw [hgo]; simp; omega)]
        exact hys3
    · rintro σ H2 ⟨hs2, ⟨v2, v3, v4, v5, rfl⟩, ys, hy, hys⟩
      walk_at "go"
      refine g_tupL (lstL hy) fun t H3 ht hs3 h3 => ?_
      refine q t H3 (same_trans hs2 hs3) ⟨ys, h3, ?_⟩
      rw [hlen] at hys
      exact hys.mono fun x y => PairAt.same hs3
def row0 (ring : List Int) (bs : List Nat) : RC.Row := bs.map fun i => (i, nmL ring i)
def sp_phases (K : PySem.W.Frag) : Sp := fun vs H Q _ => ∃ (ra sa : Addr) (ring : List Int) (bs : List Nat), vs = [.ref ra, .ref sa] ∧ RS K H ra sa ring bs ∧ bs.length ≤ 64 ∧
  ∀ l H2 xs, Same H H2 → H2 l = some (.tup xs) → xs.length = (RC.rowsOf (row0 ring bs)).length → Q (.ref l) H2
theorem ok_phases (T : Txt K mg) : FnOk P w K mg base CX0 2 (He.ga K "phases") (fd_phases K) ["ring", "some"] (sp_phases K) := by
  have G_next_row := fun {P w base} => ok_nextRow (P := P) (w := w) (base := base) T
  refine T.F_phases.ok sc_phases (fun vs H Q E h => ?_) (fun cdv A outer s H vs Q E hr h => ?_)
  · obtain ⟨_, _, _, _, rfl, _⟩ := h; rfl
  · obtain ⟨ra, sa, ring, bs, rfl, hR, h64, q⟩ := h
    refine ⟨_, (pss_cons (ps_set (i := 3) sc_phases.nd rfl (Or.inl rfl) (pe_callTy (call_tupleC K) (by rfl) T.n_tuple boot_tuple (pa_cons (pe_lc (own := [("house", 2)]) (g := gName 2) rfl sc_phases.nd (pi_tupC K (pv 1)) (blkOk_by (N := N_phases) (sc := defScope s_phases) (by decide +kernel)) (fun _ _ _ _ _ => (pg_name (i := 2) sc_phases.nd rfl (Or.inl rfl))) (fun _ _ _ _ _ => pts_nil) (fun _ _ _ _ _ => (pe_tup (pa_cons (pv 2) (pa_cons (pe_ix (ix_tupC K) (pv 0) (pv 2) (fun _ _ => rfl)) pa_nil))))) pa_nil)))
      (pss_cons (ps_set (i := 4) sc_phases.nd rfl (Or.inl rfl) (pe_lst (pa_cons (pv 3) pa_nil)))
      (pss_cons (ps_while PassesOwn.never (pt_cmpR op_gt (pe_callB (call_lenC K) (by rfl) T.n_len PySem.boot_len (pa_cons (pv 3) pa_nil)) pe_int (nomark _))
        (pss_cons (ps_set (i := 3) sc_phases.nd rfl (Or.inl rfl) (pe_call G_next_row (hr.mono (by decide)) rfl T.m_next_row T.k_next_row T.b_next_row .nil pass0 (pa_cons (pv 3) pa_nil)))
        (pss_one (ps_expr (pe_bmC K PySem.F.plainAttrs_list PySem.F.slot_list_append PySem.F.type_list_append mt_append (pv 4) (pa_cons (pv 3) pa_nil))))))
      (pss_one (ps_ret (pe_callTy (call_tupleC K) (by rfl) T.n_tuple boot_tuple (pa_cons (pv 4) pa_nil))))))), ?_⟩
    walk_at "go"
    refine g_itT hR.2.1 ?_
    walk_at "go"
    refine g_lcT (xs := vN bs) (fun D k acc H' => Same H H' ∧ All2 (PairAt H') acc (row0 ring (bs.take k))) (fun D H1 hD hs h1 => ⟨hs, All2.nil⟩) (fun D k acc H' hk h1 h2 => same_seqT h2.1 hR.2.1) (fun D k x acc H' hD hx h1 hl h2 => ?_) (fun D acc H' hD h1 hl h2 => ?_)
    · obtain ⟨hs, ha⟩ := h2
      obtain ⟨i, hi, rfl⟩ := vN_get hx
      have him : i ∈ bs := List.mem_of_getElem? hi
      have hk : k < bs.length := lt_of_get hi
      walk_at "go"
      refine g_ixT (same_seqT hs hR.1) (at_vI (hR.2.2.1 i him)) ?_
      walk_at "go"
      refine g_newT (by simp) fun t H2 ht hs2 h2 => ?_
      refine g_acc (hs2 _ _ h1) hl (by omega) fun H3 hc h3 => ⟨same_of_chg (same_trans hs hs2) hc hD, ?_⟩
      have e : row0 ring (bs.take (k + 1)) = row0 ring (bs.take k) ++ [(i, nmL ring i)] := by
        unfold row0
        rw [List.take_succ, hi]
        simp
      rw [e]
      refine All2.snoc (ha.mono fun x y hxy => ?_) ⟨t, rfl, hc.tup h2⟩
      obtain ⟨a', h7, h8⟩ := hxy
      exact ⟨a', h7, hc.tup (hs2 _ _ h8)⟩
    · obtain ⟨hs, ha⟩ := h2
      rw [show (vN bs).length = bs.length by simp, List.take_length] at ha
      walk_at "go"
      refine g_tupL (lstL h1) fun t H2 ht hs2 h2 => ?_
      walk_at "go"
      refine g_newL (by simp) fun rl H3 hrl hs3 h3 => ?_
      walk_at "go"
      have hs03 : Same H H3 := same_trans hs (same_trans hs2 hs3)
      have hrl0 : H rl = none := by
        cases e : H rl with
        | none => rfl
        | some o => have := same_trans hs hs2 _ _ e; rw [hrl] at this; cases this
      have hl0 : (row0 ring bs).length = bs.length := by unfold row0; simp
      refine g_while (fun m σ H' => Same H H' ∧ ∃ (t' : Addr) (v2 : Option V) (row : RC.Row) (ys : List V) (k : Nat), σ = [some (.ref ra), some (.ref sa), v2, some (.ref t'), some (.ref rl)] ∧ RowAt H' t' row ∧ H' rl = some (.lst ys) ∧
        row.length ≤ m ∧ row.length ≤ 64 ∧ ys.length + m ≤ 200 ∧ ys.length + (RC.rowsFrom m row).length = (RC.rowsOf (row0 ring bs)).length + 1) bs.length ⟨hs03, t, _, row0 ring bs, [.ref t], 0, rfl, ⟨acc, hs3 _ _ h2, ha.mono fun x y => PairAt.same (same_trans hs2 hs3)⟩, h3, ?_, ?_, ?_, ?_⟩ ?_
      · omega
      · omega
      · simp; omega
      · unfold RC.rowsOf
        rw [hl0]
        simp
        omega
      rintro m σ H4 ⟨hs4, t', v2, row, ys, k, rfl, hrow, hys, h5, h64', h6, h7⟩
      obtain ⟨xs, hx1, hx2⟩ := id hrow
      walk_at "go"
      refine g_lenT (tupT hx1) ?_
      walk_at "go"
      rw [hx2.1]
      refine ifd (fun hc => ?_) (fun hc => ?_)
      · refine g_wb ?_
        walk_at "go"
        refine ⟨t', row, rfl, hrow, by omega, by omega, fun l H5 hs5 hrow5 => ?_⟩
        walk_at "go"
        refine g_bmL (lstL (hs5 _ _ hys)) ?_
        walk_at "go"
        refine g_append (hs5 _ _ hys) (by omega) fun H6 hc6 h6' => ?_
        walk_at "go"
        obtain ⟨m', rfl⟩ : ∃ m', m = m' + 1 := ⟨m - 1, by omega⟩
        have hh := RC.nextRow_half (row := row) (by omega)
        unfold RC.rowsFrom at h7
        rw [if_pos (by omega), List.length_cons] at h7
        refine ⟨m', by omega, same_of_chg (same_trans hs4 hs5) hc6 hrl0, l, _, RC.nextRow row, _, k, rfl, ?_, h6', by omega, by omega, ?_, ?_⟩
        · obtain ⟨xs', e1, e2⟩ := hrow5
          refine ⟨xs', hc6.tup e1, e2.mono fun x y hxy => ?_⟩
          obtain ⟨a', h7, h8⟩ := hxy
          exact ⟨a', h7, hc6.tup h8⟩
        · simp; omega
        · simp; omega
      · walk_at "go"
        refine g_tupL (lstL hys) fun l H5 hl5 hs5 h5' => ?_
        refine q l H5 ys (same_trans hs4 hs5) h5' ?_
        have : (RC.rowsFrom m row).length = 1 := by
          cases m with
          | zero => rfl
          | succ m => unfold RC.rowsFrom; rw [if_neg (by omega)]; rfl
        omega
end
end G

set_option Elab.async false
set_option linter.all false
set_option maxRecDepth 100000
namespace G
open PySem PySem.Spec PyProof.Rows L2 Lay
section
variable {P : Program} {w : World} {K : PySem.W.Frag} {mg : Str → Option Value} {base : Heap}
inductive Way | round | halves | reach | whole
def Way.str : Way → Str
  | .round => "round"
  | .halves => "halves"
  | .reach => "reach"
  | .whole => "whole"
theorem ifT {p : Prop} [Decidable p] {A B : Prop} (h : p) (a : A) : if decide p = true then A else B := by rw [if_pos (decide_eq_true h)]; exact a
theorem ifF {p : Prop} [Decidable p] {A B : Prop} (h : ¬ p) (a : B) : if decide p = true then A else B := by rw [if_neg (by rw [decide_eq_false h]; exact Bool.false_ne_true)]; exact a
def boundN : Way → Nat → Nat
  | .round, n => n * (n + 1) / 2 + n
  | .halves, n => 2 * n * (RC.halvings n + 1)
  | .whole, n => n * (n - 1)
  | .reach, n => RC.reachBound n
def toldN : Way → List Int → List Nat → Nat
  | .round, ring, bs => roundL ring bs
  | .halves, ring, bs => 2 * ring.length * (RC.rowsOf (row0 ring bs)).length
  | .whole, ring, bs => ring.length * (ring.length - 1)
  | .reach, ring, bs => RC.reachSum ring.length (nmL ring) bs
theorem mul_pred (n : Nat) : (n : Int) * ((n : Int) - 1) = ((n * (n - 1) : Nat) : Int) := by
  cases n with
  | zero => rfl
  | succ m => rw [show ((m + 1 : Nat) : Int) - 1 = (m : Int) by omega]; rfl
def sp_told (K : PySem.W.Frag) : Sp := fun vs H Q _ => ∃ (way : Way) (ra sa : Addr) (ring : List Int) (bs : List Nat), vs = [.str way.str, .ref ra, .ref sa] ∧ RS K H ra sa ring bs ∧ bs.length ≤ 64 ∧
  ∀ H2, Same H H2 → Q (.int (toldN way ring bs : Nat)) H2
theorem ok_told (T : Txt K mg) : FnOk P w K mg base CX0 3 (He.ga K "told_letters") (fd_told_letters K) ["way", "ring", "some"] (sp_told K) := by
  have G_stop_of := fun {P w base} => ok_stop (P := P) (w := w) (base := base) T
  have G_round_letters := fun {P w base} => ok_round (P := P) (w := w) (base := base) T
  have G_phases := fun {P w base} => ok_phases (P := P) (w := w) (base := base) T
  have G_reach_letters := fun {P w base} => ok_reachL (P := P) (w := w) (base := base) T
  refine T.F_told_letters.ok sc_told_letters (fun vs H Q E h => ?_) (fun cdv A outer s H vs Q E hr h => ?_)
  · obtain ⟨_, _, _, _, _, rfl, _⟩ := h; rfl
  · obtain ⟨way, ra, sa, ring, bs, rfl, hR, h64, q⟩ := h
    refine ⟨_, (pss_cons (ps_set (i := 3) sc_told_letters.nd rfl (Or.inl rfl) (pe_callB (call_lenC K) (by rfl) T.n_len PySem.boot_len (pa_cons (pv 1) pa_nil)))
      (pss_cons (ps_if (pt_cmpR op_eq (pv 0) pe_str (nomark _))
        (pss_one (ps_ret (pe_call G_round_letters (hr.mono (by decide)) rfl T.m_round_letters T.k_round_letters T.b_round_letters .nil pass0 (pa_cons (pv 1) (pa_cons (pv 2) pa_nil)))))
        pss_nil)
      (pss_cons (ps_if (pt_cmpR op_eq (pv 0) pe_str (nomark _))
        (pss_one (ps_ret (pe_op op_mul (pe_op op_mul pe_int (pv 3)) (pe_callB (call_lenC K) (by rfl) T.n_len PySem.boot_len (pa_cons (pe_call G_phases (hr.mono (by decide)) rfl T.m_phases T.k_phases T.b_phases .nil pass0 (pa_cons (pv 1) (pa_cons (pv 2) pa_nil))) pa_nil)))))
        pss_nil)
      (pss_cons (ps_if (pt_cmpR op_eq (pv 0) pe_str (nomark _))
        (pss_one (ps_ret (pe_op op_mul (pv 3) (pe_op op_sub (pv 3) pe_int))))
        pss_nil)
      (pss_cons (ps_set (i := 4) sc_told_letters.nd rfl (Or.inl rfl) (pv 3))
      (pss_cons (ps_for PassesOwn.never rfl (pi_tupC K (pv 2)) (pg_name (i := 5) sc_told_letters.nd rfl (Or.inl rfl))
        (pss_one (ps_aug (i := 4) sc_told_letters.nd rfl (Or.inl rfl) (pe_call G_reach_letters (hr.mono (by decide)) rfl T.m_reach_letters T.k_reach_letters T.b_reach_letters .nil pass0 (pa_cons (pe_call G_stop_of (hr.mono (by decide)) rfl T.m_stop_of T.k_stop_of T.b_stop_of .nil pass0 (pa_cons (pv 1) (pa_cons (pv 2) (pa_cons (pv 5) (pa_cons (pe_globI rfl T.g_LEFT) pa_nil))))) (pa_cons (pe_call G_stop_of (hr.mono (by decide)) rfl T.m_stop_of T.k_stop_of T.b_stop_of .nil pass0 (pa_cons (pv 1) (pa_cons (pv 2) (pa_cons (pv 5) (pa_cons (pe_globI rfl T.g_RIGHT) pa_nil))))) pa_nil))) ip_add)))
      (pss_one (ps_ret (pv 4))))))))), ?_⟩
    have hl : (vI ring).length = ring.length := by simp
    have hn := hR.2.2.2
    walk_at "go"
    refine g_lenT hR.1 ?_
    rw [hl]
    walk_at "go"
    cases way
    · refine ifT rfl ?_
      walk_at "go"
      exact g_round hR h64 q
    · refine ifF (by decide +kernel) ?_
      walk_at "go"
      refine ifT rfl ?_
      walk_at "go"
      refine ⟨ra, sa, ring, bs, rfl, hR, h64, fun l H2 xs hs h2 hx => ?_⟩
      walk_at "go"
      refine g_lenT (tupT h2) ?_
      walk_at "go"
      rw [hx]
      have e : (2 : Int) * (ring.length : Int) * ((RC.rowsOf (row0 ring bs)).length : Int) = ((2 * ring.length * (RC.rowsOf (row0 ring bs)).length : Nat) : Int) := by
        rw [Int.natCast_mul, Int.natCast_mul]; rfl
      rw [e]
      exact q H2 hs
    · refine ifF (by decide +kernel) ?_
      walk_at "go"
      refine ifF (by decide +kernel) ?_
      walk_at "go"
      refine ifF (by decide +kernel) ?_
      walk_at "go"
      refine g_itT hR.2.1 ?_
      refine g_forT (xs := vN bs) (fun k σ H' => Same H H' ∧ ∃ v5, σ = [some (.str Way.reach.str), some (.ref ra), some (.ref sa), some (.int ring.length), some (.int ((ring.length + ((bs.take k).map fun i => RC.reachLetters (stopL ring bs i false) (stopL ring bs i true)).sum : Nat) : Int)), v5]) ⟨fun _ _ h => h, _, by rfl⟩ (fun i σ H' hi h => same_seqT h.1 hR.2.1) ?_ ?_
      · rintro k x σ H' hx ⟨hs, v5, rfl⟩
        obtain ⟨i, hi, rfl⟩ := vN_get hx
        have him : i ∈ bs := List.mem_of_getElem? hi
        have hin := hR.2.2.1 i him
        walk_at "go"
        refine g_stop false (hR.same hs) hin rfl ?_
        walk_at "go"
        refine g_stop true (hR.same hs) hin rfl ?_
        walk_at "go"
        have l1 : stopL ring bs i false ≤ ring.length := RC.stop_le (by omega)
        have l2 : stopL ring bs i true ≤ ring.length := RC.stop_le (by omega)
        refine ⟨_, _, rfl, by omega, by omega, ?_⟩
        walk_at "go"
        have e : ((ring.length + ((bs.take k).map fun i => RC.reachLetters (stopL ring bs i false) (stopL ring bs i true)).sum : Nat) : Int) + ((RC.reachLetters (stopL ring bs i false) (stopL ring bs i true) : Nat) : Int) = ((ring.length + ((bs.take (k + 1)).map fun i => RC.reachLetters (stopL ring bs i false) (stopL ring bs i true)).sum : Nat) : Int) := by
          rw [List.take_succ, hi]
          simp only [List.map_append, List.sum_append, Option.toList_some, List.map_cons, List.map_nil, List.sum_cons, List.sum_nil]
          omega
        rw [e]
        exact ⟨hs, _, rfl⟩
      · rintro σ H' ⟨hs, v5, rfl⟩
        walk_at "go"
        rw [show (vN bs).length = bs.length by simp, List.take_length]
        exact q H' hs
    · refine ifF (by decide +kernel) ?_
      walk_at "go"
      refine ifF (by decide +kernel) ?_
      walk_at "go"
      refine ifT rfl ?_
      walk_at "go"
      rw [mul_pred]
      exact q H fun _ _ h => h
def sp_bound : Sp := fun vs H Q _ => ∃ (way : Way) (n : Nat), vs = [.str way.str, .int (n : Int)] ∧ n ≤ 1000 ∧ Q (.int (boundN way n : Nat)) H
theorem ok_bound (T : Txt K mg) : FnOk P w K mg base CX0 2 (He.ga K "bound") (fd_bound K) ["way", "many"] sp_bound := by
  have G_halvings := fun {P w base} => ok_halv (P := P) (w := w) (base := base) T
  have G_reach_bound := fun {P w base} => ok_rbound (P := P) (w := w) (base := base) T
  refine T.F_bound.ok sc_bound (fun vs H Q E h => ?_) (fun cdv A outer s H vs Q E hr h => ?_)
  · obtain ⟨_, _, rfl, _⟩ := h; rfl
  · obtain ⟨way, n, rfl, hn, q⟩ := h
    refine ⟨_, (pss_cons (ps_if (pt_cmpR op_eq (pv 0) pe_str (nomark _))
        (pss_one (ps_ret (pe_op op_add (pe_op op_fdiv (pe_op op_mul (pv 1) (pe_op op_add (pv 1) pe_int)) pe_int) (pv 1))))
        pss_nil)
      (pss_cons (ps_if (pt_cmpR op_eq (pv 0) pe_str (nomark _))
        (pss_one (ps_ret (pe_op op_mul (pe_op op_mul pe_int (pv 1)) (pe_op op_add (pe_call G_halvings (hr.mono (by decide)) rfl T.m_halvings T.k_halvings T.b_halvings .nil pass0 (pa_cons (pv 1) pa_nil)) pe_int))))
        pss_nil)
      (pss_cons (ps_if (pt_cmpR op_eq (pv 0) pe_str (nomark _))
        (pss_one (ps_ret (pe_op op_mul (pv 1) (pe_op op_sub (pv 1) pe_int))))
        pss_nil)
      (pss_one (ps_ret (pe_call G_reach_bound (hr.mono (by decide)) rfl T.m_reach_bound T.k_reach_bound T.b_reach_bound .nil pass0 (pa_cons (pv 1) pa_nil))))))), ?_⟩
    walk_at "go"
    cases way
    · refine ifT rfl ?_
      walk_at "go"
      have e : (n : Int) * ((n : Int) + 1) / 2 + (n : Int) = ((n * (n + 1) / 2 + n : Nat) : Int) := by
        rw [Int.natCast_add, Int.natCast_ediv, Int.natCast_mul]; rfl
      rw [e]
      exact q
    · refine ifF (by decide +kernel) ?_
      walk_at "go"
      refine ifT rfl ?_
      walk_at "go"
      refine ⟨n, rfl, ?_⟩
      walk_at "go"
      have e : (2 : Int) * (n : Int) * ((RC.halvings n : Nat) + 1 : Int) = ((2 * n * (RC.halvings n + 1) : Nat) : Int) := by
        rw [Int.natCast_mul, Int.natCast_mul]; rfl
      rw [e]
      exact q
    · refine ifF (by decide +kernel) ?_
      walk_at "go"
      refine ifF (by decide +kernel) ?_
      walk_at "go"
      refine ifF (by decide +kernel) ?_
      walk_at "go"
      exact ⟨n, rfl, by omega, q⟩
    · refine ifF (by decide +kernel) ?_
      walk_at "go"
      refine ifF (by decide +kernel) ?_
      walk_at "go"
      refine ifT rfl ?_
      walk_at "go"
      rw [mul_pred]
      exact q
end
end G

set_option Elab.async false
set_option linter.all false
set_option maxRecDepth 100000
namespace G
open PySem PySem.Spec PyProof.Rows L2 Lay
section
variable {P : Program} {w : World} {K : PySem.W.Frag} {mg : Str → Option Value} {base : Heap}
def sp_hand (K : PySem.W.Frag) : Sp := fun vs H Q _ => ∃ (p : Addr) (ns : List Int) (k : Nat), vs = [.ref p, .int (k : Int)] ∧ SqL K H p (vI ns) ∧ k ≤ 1000 ∧ ∀ l H2, H l = none → Same H H2 → HandAt H2 l 0 → Q (.ref l) H2
theorem ok_hand (T : Txt K mg) : FnOk P w K mg base CX0 1 (He.ga K "_law_hand") (fd_law_hand K) ["_law_script", "_law_k"] (sp_hand K) := by
  refine T.F_law_hand.ok sc_law_hand (fun vs H Q E h => ?_) (fun cdv A outer s H vs Q E hr h => ?_)
  · obtain ⟨_, _, _, rfl, _⟩ := h; rfl
  · obtain ⟨p, ns, k, rfl, hs, hk, q⟩ := h
    refine ⟨_, (pss_cons (ps_set (i := 2) sc_law_hand.nd rfl (Or.inl rfl) pe_int)
      (pss_cons (ps_if (pt_cmpR op_lt (pv 1) (pe_callB (call_lenC K) (by rfl) T.n_len PySem.boot_len (pa_cons (pv 0) pa_nil)) (nomark _))
        (pss_one (ps_set (i := 2) sc_law_hand.nd rfl (Or.inl rfl) (pe_ix (ix_listC K) (pv 0) (pv 1) (fun _ _ => rfl))))
        pss_nil)
      (pss_one (ps_ret (pe_lst (pa_cons (pe_op op_mul (pv 2) (pe_callTy call_int_z (by rfl) T.n_int (by decide +kernel) (pa_cons (pe_cmpR op_ge (pv 2) (pe_op op_pow pe_int pe_int) (nomark _)) pa_nil))) (pa_cons (pe_op op_add (pe_op op_add (pe_op op_mod (pv 2) pe_int) (pe_op op_mul pe_int (pv 1))) pe_int) (pa_cons pe_int pa_nil)))))))), ?_⟩
    have key : ∀ c : Int, ∀ l H2, H l = none → Same H H2 → H2 l = some (.lst [.int (c * if decide (c ≥ 10 ^ Int.toNat 18) = true then 1 else 0), .int (c % 2305843009213693951 + 7919 * (k : Int) + 3), .int 0]) → Q (.ref l) H2 := by
      intro c l H2 hl hs2 h2
      refine q l H2 hl hs2 ⟨_, _, 0, h2, ?_, by omega, by omega, Nat.le_refl _⟩
      split
      · rename_i h
        have h' := of_decide_eq_true h
        have : (0 : Int) ≤ 10 ^ Int.toNat 18 := by decide
        omega
      · omega
    walk_at "go"
    refine g_lenL hs ?_
    walk_at "go"
    refine ifd (fun h => ?_) (fun h => ?_)
    · walk_at "go"
      rw [show (vI ns).length = ns.length by simp] at h
      refine g_ixL hs (atI_nat (by rw [List.getElem?_map, List.getElem?_eq_getElem (show k < ns.length by omega)]; rfl)) ?_
      walk_at "go"
      exact g_newL (by simp) (key _)
    · walk_at "go"
      exact g_newL (by simp) (key 0)
theorem ok_take (T : Txt K mg) : FnOk P w K mg base CX0 1 (He.ga K "_law_take") (fd_law_take K) ["_law_from", "_law_many"] sp_take := by
  refine T.F_law_take.ok sc_law_take (fun vs H Q E h => ?_) (fun cdv A outer s H vs Q E hr h => ?_)
  · obtain ⟨_, _, _, rfl, _⟩ := h; rfl
  · obtain ⟨p, m, many, rfl, ⟨a, b, n, hp, ha, hb, hb2, hn⟩, hm, h0, h1, q⟩ := h
    refine ⟨_, (pss_cons (ps_if (pt_cmpR op_gt (pe_ix (ix_listC K) (pv 0) pe_int (fun _ _ => rfl)) pe_int (nomark _))
        (pss_cons (ps_set (i := 2) sc_law_take.nd rfl (Or.inl rfl) (pe_op op_mod (pe_ix (ix_listC K) (pv 0) pe_int (fun _ _ => rfl)) (pv 1)))
        (pss_cons (ps_asg (pe_op op_fdivW (pe_ix (ix_listC K) (pv 0) pe_int (fun _ _ => rfl)) (pv 1)) (pg_sub (pv 0) pe_int set_list))
        (pss_one (ps_ret (pv 2)))))
        pss_nil)
      (pss_cons (ps_asg (pe_op op_add (pe_ix (ix_listC K) (pv 0) pe_int (fun _ _ => rfl)) pe_int) (pg_sub (pv 0) pe_int set_list))
      (pss_cons (ps_set (i := 3) sc_law_take.nd rfl (Or.inl rfl) (pe_ix (ix_listC K) (pv 0) pe_int (fun _ _ => rfl)))
      (pss_cons (ps_set (i := 4) sc_law_take.nd rfl (Or.inl rfl) (pe_op op_mod (pe_op op_add (pe_op op_mul (pe_ix (ix_listC K) (pv 0) pe_int (fun _ _ => rfl)) (pe_op op_add pe_int (pe_op op_mul (pe_op op_mul pe_int (pv 3)) (pv 3)))) (pe_op op_mul pe_int (pv 3))) pe_int))
      (pss_cons (ps_set (i := 4) sc_law_take.nd rfl (Or.inl rfl) (pe_op op_mod (pe_op op_mul (pv 4) (pe_op op_add (pe_op op_add (pe_op op_mod (pv 4) pe_int) (pe_op op_mul pe_int (pv 3))) pe_int)) pe_int))
      (pss_one (ps_ret (pe_op op_mod (pe_op op_add (pe_op op_fdiv (pv 4) pe_int) (pe_op op_fdiv (pv 4) pe_int)) (pv 1))))))))), ?_⟩
    walk_at "go"
    refine g_ixL (lstL hp) rfl ?_
    walk_at "go"
    refine ifd (fun h => ?_) (fun h => ?_)
    · walk_at "go"
      refine g_ixL (lstL hp) rfl ?_
      walk_at "go"
      refine g_ixL (lstL hp) rfl ?_
      walk_at "go"
      refine g_divW (by omega) (by omega) ?_
      walk_at "go"
      refine g_setL (k := 0) hp rfl (by simp) fun H2 hc h2 => ?_
      walk_at "go"
      have e : a % (many : Int) = ((a % (many : Int)).toNat : Int) := by have := Int.emod_nonneg a (show (many : Int) ≠ 0 by omega); omega
      have hlt := Int.emod_lt_of_pos a (show (0 : Int) < many by omega)
      rw [e]
      exact q _ H2 (by omega) hc ⟨a / many, b, n, h2, Int.ediv_nonneg ha (by omega), hb, hb2, by omega⟩
    · walk_at "go"
      refine g_ixL (lstL hp) rfl ?_
      walk_at "go"
      refine g_setL (k := 2) hp rfl (by simp) fun H2 hc h2 => ?_
      walk_at "go"
      have h2' : H2 p = some (.lst [.int a, .int b, .int ((n : Int) + 1)]) := h2
      refine g_ixL (lstL h2') rfl ?_
      walk_at "go"
      refine g_ixL (lstL h2') rfl ?_
      walk_at "go"
      have hlt := Int.emod_lt_of_pos ((b * (48271 + 2 * ((n : Int) + 1) * ((n : Int) + 1)) + 65537 * ((n : Int) + 1))) (show (0 : Int) < 2305843009213693921 by omega)
      have hge := Int.emod_nonneg ((b * (48271 + 2 * ((n : Int) + 1) * ((n : Int) + 1)) + 65537 * ((n : Int) + 1))) (show (2305843009213693921 : Int) ≠ 0 by omega)
      generalize ((b * (48271 + 2 * ((n : Int) + 1) * ((n : Int) + 1)) + 65537 * ((n : Int) + 1))) % 2305843009213693921 = x at *
      have hlt2 := Int.emod_lt_of_pos (x * (x % 1000003 + 99991 * ((n : Int) + 1) + 11)) (show (0 : Int) < 2305843009213693907 by omega)
      have hge2 := Int.emod_nonneg (x * (x % 1000003 + 99991 * ((n : Int) + 1) + 11)) (show (2305843009213693907 : Int) ≠ 0 by omega)
      generalize (x * (x % 1000003 + 99991 * ((n : Int) + 1) + 11)) % 2305843009213693907 = y at *
      generalize y / 97 + y / 1000033 = z
      have e : z % (many : Int) = ((z % (many : Int)).toNat : Int) := by have := Int.emod_nonneg z (show (many : Int) ≠ 0 by omega); omega
      have hlt3 := Int.emod_lt_of_pos z (show (0 : Int) < many by omega)
      rw [e]
      exact q _ H2 (by omega) hc ⟨a, b, n + 1, h2', ha, hb, hb2, by omega⟩
/-- a list of all places in some order -/
def sp_order : Sp := fun vs H Q _ => ∃ (p : Addr) (m many : Nat), vs = [.ref p, .int (many : Int)] ∧ HandAt H p m ∧ m ≤ 500000000 ∧ 0 < many ∧ many ≤ 64 ∧
  ∀ l (ns : List Nat) H2, H l = none → Chg (· = p) H H2 → HandAt H2 p (m + 70) → H2 l = some (.lst (vN ns)) → ns.Perm (List.range many) → Q (.ref l) H2
theorem rot_perm {r n : Nat} (hn : 0 < n) : ((List.range n).map fun k => (r + k) % n).Perm (List.range n) := by
  refine (List.perm_iff_count.mpr fun a => ?_)
  have nd : ((List.range n).map fun k => (r + k) % n).Nodup := RC.nodup_map_on List.nodup_range fun x hx y hy e => by
    have hx' := List.mem_range.mp hx
    have hy' := List.mem_range.mp hy
    have h1 : ((r + x) % n + (n - r % n)) % n = ((r + y) % n + (n - r % n)) % n := by rw [e]
    have key : ∀ z, z < n → ((r + z) % n + (n - r % n)) % n = z := fun z hz => by
      rw [Nat.mod_add_mod, show r + z + (n - r % n) = z + (r + (n - r % n)) by omega]
      have : r + (n - r % n) = n * (r / n) + n := by have := Nat.div_add_mod r n; have := Nat.mod_lt r hn; omega
      rw [this, ← Nat.mul_succ, Nat.add_mul_mod_self_left, Nat.mod_eq_of_lt hz]
    rw [key x hx', key y hy'] at h1
    exact h1
  rw [nd.count, List.Nodup.count List.nodup_range]
  congr 1
  apply propext
  constructor
  · intro h
    obtain ⟨k, _, rfl⟩ := List.mem_map.mp h
    exact List.mem_range.mpr (Nat.mod_lt _ hn)
  · intro h
    have ha := List.mem_range.mp h
    refine List.mem_map.mpr ⟨(a + (n - r % n)) % n, List.mem_range.mpr (Nat.mod_lt _ hn), ?_⟩
    rw [Nat.add_mod_mod, show r + (a + (n - r % n)) = a + (r + (n - r % n)) by omega]
    have : r + (n - r % n) = n * (r / n) + n := by have := Nat.div_add_mod r n; have := Nat.mod_lt r hn; omega
    rw [this, ← Nat.mul_succ, Nat.add_mul_mod_self_left, Nat.mod_eq_of_lt ha]
theorem erase_perm : ∀ {l : List Nat} {k x : Nat}, l[k]? = some x → (x :: l.eraseIdx k).Perm l
  | [], k, x, h => by simp at h
  | a :: l, 0, x, h => by simp at h; subst h; exact List.Perm.refl _
  | a :: l, k + 1, x, h => by
    have ih := erase_perm (l := l) (k := k) (x := x) (by simpa using h)
    rw [List.eraseIdx_cons_succ]
    exact (List.Perm.swap a x _).trans (List.Perm.cons a ih)
theorem ok_order (T : Txt K mg) : FnOk P w K mg base CX0 2 (He.ga K "_law_order") (fd_law_order K) ["_law_from", "_law_many"] sp_order := by
  have G_law_take := fun {P w base} => ok_take (P := P) (w := w) (base := base) T
  refine T.F_law_order.ok sc_law_order (fun vs H Q E h => ?_) (fun cdv A outer s H vs Q E hr h => ?_)
  · obtain ⟨_, _, _, rfl, _⟩ := h; rfl
  · obtain ⟨p, m, many, rfl, hp, hm, h0, h1, q⟩ := h
    refine ⟨_, (pss_cons (ps_set (i := 2) sc_law_order.nd rfl (Or.inl rfl) (pe_call G_law_take (hr.mono (by decide)) rfl T.m_law_take T.k_law_take T.b_law_take .nil pass0 (pa_cons (pv 0) (pa_cons pe_int pa_nil))))
      (pss_cons (ps_set (i := 3) sc_law_order.nd rfl (Or.inr rfl) (pe_call G_law_take (hr.mono (by decide)) rfl T.m_law_take T.k_law_take T.b_law_take .nil pass0 (pa_cons (pv 0) (pa_cons (pv 1) pa_nil))))
      (pss_cons (ps_set (i := 5) sc_law_order.nd rfl (Or.inr rfl) (pe_lc (own := [("_law_k", 4)]) (g := gName 4) rfl sc_law_order.nd (pi_range1 rfl T.n_range (pa_cons (pv 1) pa_nil)) (blkOk_by (N := N_law_order) (sc := defScope s_law_order) (by decide +kernel)) (fun _ _ _ _ _ => (pg_name (i := 4) sc_law_order.nd rfl (Or.inl rfl))) (fun _ _ _ _ _ => pts_nil) (fun _ _ _ _ _ => (pe_op op_mod (pe_op op_add (pv 3) (pv 4)) (pv 1)))))
      (pss_cons (ps_if (pt_cmpR op_eq (pv 2) pe_int (nomark _))
        (pss_one (ps_ret (pv 5)))
        pss_nil)
      (pss_cons (ps_if (pt_cmpR op_eq (pv 2) pe_int (nomark _))
        (pss_one (ps_ret (pe_revLC K (pv 5))))
        pss_nil)
      (pss_one (ps_ret (pe_lc (own := [("_law_k", 4)]) (g := gName 4) rfl sc_law_order.nd (pi_range1 rfl T.n_range (pa_cons (pv 1) pa_nil)) (blkOk_by (N := N_law_order) (sc := defScope s_law_order) (by decide +kernel)) (fun _ _ _ _ _ => (pg_name (i := 4) sc_law_order.nd rfl (Or.inl rfl))) (fun _ _ _ _ _ => pts_nil) (fun _ _ _ _ _ => (pe_bmC K PySem.F.plainAttrs_list PySem.F.slot_list_pop PySem.F.type_list_pop mt_popAt (pv 5) (pa_cons (pe_call G_law_take (hr.mono (by decide)) rfl T.m_law_take T.k_law_take T.b_law_take .nil pass0 (pa_cons (pv 0) (pa_cons (pe_callB (call_lenC K) (by rfl) T.n_len PySem.boot_len (pa_cons (pv 5) pa_nil)) pa_nil))) pa_nil))))))))))), ?_⟩
    walk_at "go"
    refine g_take 6 hp rfl (by omega) (by omega) (by omega) fun way H1 hway hc1 hp1 => ?_
    walk_at "go"
    refine g_take many hp1 rfl (by omega) (by omega) (by omega) fun turn H2 hturn hc2 hp2 => ?_
    walk_at "go"
    have hc02 := hc1.trans hc2
    refine g_r1 (n := many) rfl (by omega) ?_
    refine g_lcR (fun D k acc H' => Same H2 H' ∧ acc = vN ((List.range k).map fun k => (turn + k) % many)) (fun D H3 hD hs h3 => ⟨hs, rfl⟩) (fun D k acc H' hD hk h1 hl h2 => ?_) (fun D acc H3 hD hacc hl h2 => ?_)
    · obtain ⟨hs, rfl⟩ := h2
      walk_at "go"
      refine g_acc h1 hl (by omega) fun H4 hc4 h4 => ⟨fun b o hb => hc4.get (hs _ _ hb) fun z => (by rw [z, hD] at hb; cases hb), ?_⟩
      rw [List.range_succ, List.map_append]
      unfold vN
      rw [List.map_append]
      have e : ((turn : Int) + (0 + (k : Int))) % (many : Int) = (((turn + k) % many : Nat) : Int) := by
        rw [Int.zero_add, ← Int.natCast_add]; exact (Int.natCast_emod _ _).symm
      rw [e]
      rfl
    · obtain ⟨hs, rfl⟩ := h2
      have hD0 : H D = none := by
        cases e : H D with
        | none => rfl
        | some o =>
          exfalso
          by_cases hz : D = p
          · obtain ⟨_, _, _, z, _⟩ := hp2
            rw [hz, z] at hD; cases hD
          · rw [hc02.get e hz] at hD; cases hD
      have hc03 : Chg (· = p) H H3 := hc02.same hs
      have hp3 := hp2.same hs
      walk_at "go"
      refine ifd (fun h => ?_) (fun h => ?_)
      · walk_at "go"
        exact q D _ H3 hD0 hc03 (hp3.mono (by omega)) hacc (rot_perm h0)
      · walk_at "go"
        refine ifd (fun h => ?_) (fun h => ?_)
        · walk_at "go"
          refine g_revL (lstL hacc) fun l H4 hl4 hs4 h4 => ?_
          have hl0 : H l = none := by
            cases e : H l with
            | none => rfl
            | some o =>
              exfalso
              by_cases hz : l = p
              · obtain ⟨_, _, _, z, _⟩ := hp3
                rw [hz, z] at hl4; cases hl4
              · rw [hc03.get e hz] at hl4; cases hl4
          refine q l (((List.range many).map fun k => (turn + k) % many).reverse) H4 hl0 (hc03.same hs4) ((hp3.same hs4).mono (by omega)) (by rw [h4]; unfold vN; rw [List.map_reverse]) ?_
          exact (List.reverse_perm _).trans (rot_perm h0)
        · walk_at "go"
          refine g_r1 (n := many) rfl (by omega) ?_
          have hDp : D ≠ p := hp2.ne hD
          refine g_lcR (fun L k acc H' => Chg (fun b => b = p ∨ b = D) H3 H' ∧ HandAt H' p (m + 2 + k) ∧ ∃ got rest : List Nat, acc = vN got ∧ H' D = some (.lst (vN rest)) ∧ rest.length = many - k ∧ (got ++ rest).Perm (List.range many))
            (fun L H4 hL hs4 h4 => ⟨Chg.of hs4, hp3.same hs4, [], _, rfl, hs4 _ _ hacc, by simp, rot_perm h0⟩) (fun L k acc H' hL hk h1 hl h2 => ?_) (fun L acc H4 hL hacc4 hl4 h4 => ?_)
          · obtain ⟨hc4, hp4, got, rest, rfl, hr4, hrl, hpm⟩ := h2
            have hLD : D ≠ L := fun z => by rw [← z, hacc] at hL; cases hL
            have hpL : p ≠ L := fun z => by obtain ⟨_, _, _, y, _⟩ := hp3; rw [← z, y] at hL; cases hL
            walk_at "go"
            refine g_bmL (lstL hr4) ?_
            walk_at "go"
            refine g_lenL (lstL hr4) ?_
            walk_at "go"
            refine g_take (many - k) hp4 (by simp; omega) (by omega) (by omega) (by omega) fun r H5 hr5 hc5 hp5 => ?_
            walk_at "go"
            have hr5' := hc5.get hr4 hDp
            refine g_popAt (k := r) hr5' rfl (by simp; omega) (by simp; omega) fun H6 z hz hc6 h6 => ?_
            obtain ⟨j, hj, rfl⟩ := vN_get hz
            have h16 : H6 L = some (.lst (vN got)) := hc6.get (hc5.get h1 (Ne.symm hpL)) (Ne.symm hLD)
            refine g_acc h16 hl (by omega) fun H7 hc7 h7 => ⟨?_, ?_, got ++ [j], rest.eraseIdx r, ?_, ?_, ?_, ?_⟩
            · have c4 : Chg (fun b => (b = p ∨ b = D) ∨ b = L) H3 H' := hc4.mono fun b e => Or.inl e
              have c5 : Chg (fun b => (b = p ∨ b = D) ∨ b = L) H' H5 := hc5.mono fun b e => Or.inl (Or.inl e)
              have c6 : Chg (fun b => (b = p ∨ b = D) ∨ b = L) H5 H6 := hc6.mono fun b e => Or.inl (Or.inr e)
              have c7 : Chg (fun b => (b = p ∨ b = D) ∨ b = L) H6 H7 := hc7.mono fun b e => Or.inr e
              exact (((c4.trans c5).trans c6).trans c7).drop fun b hb => hb.elim (fun z => Or.inl z) (fun z => Or.inr (by rw [z]; exact hL))
            · exact ((hp5.chg hc6 (fun z => hDp z.symm)).chg hc7 hpL).mono (by omega)
            · unfold vN; rw [List.map_append]; rfl
            · rw [hc7.get h6 hLD, map_erase]
            · rw [List.length_eraseIdx_of_lt (by omega)]; omega
            · refine List.Perm.trans ?_ hpm
              rw [List.append_assoc]
              exact List.Perm.append_left _ (erase_perm hj)
          · obtain ⟨hc4, hp4, got, rest, rfl, hr4, hrl, hpm⟩ := h4
            have er : rest = [] := List.eq_nil_of_length_eq_zero (by omega)
            subst er
            rw [List.append_nil] at hpm
            have hL0 : H L = none := by
              cases e : H L with
              | none => rfl
              | some o =>
                exfalso
                by_cases hz : L = p
                · obtain ⟨_, _, _, z, _⟩ := hp3
                  rw [hz, z] at hL; cases hL
                · rw [hc03.get e hz] at hL; cases hL
            refine q L got H4 hL0 ((hc03.mono (S' := fun b => b = p ∨ b = D) fun b e => Or.inl e).trans hc4 |>.drop fun b hb => hb.elim (fun z => Or.inl z) fun z => Or.inr (by rw [z]; exact hD0)) (hp4.mono (by omega)) hacc4 hpm
end
end G

set_option Elab.async false
set_option linter.all false
set_option maxRecDepth 100000
namespace G
open PySem PySem.Spec PyProof.Rows L2 Lay
section
variable {P : Program} {w : World} {K : PySem.W.Frag} {mg : Str → Option Value} {base : Heap}
theorem handAt_ne {H H' : Hp} {p L : Addr} {m : Nat} (h : HandAt H p m) (e : H L = none) : p ≠ L := fun z => h.ne e z.symm
/-- unlike names -/
def sp_ring : Sp := fun vs H Q _ => ∃ (p : Addr) (m many : Nat), vs = [.ref p, .int (many : Int)] ∧ HandAt H p m ∧ m ≤ 400000000 ∧ 0 < many ∧ many ≤ 64 ∧
  ∀ t (ring : List Int) H2, Chg (· = p) H H2 → HandAt H2 p (m + 140) → H2 t = some (.tup (vI ring)) → ring.length = many → ring.Nodup → Q (.ref t) H2
theorem ok_ring (T : Txt K mg) : FnOk P w K mg base CX0 3 (He.ga K "_law_ring") (fd_law_ring K) ["_law_from", "_law_many"] sp_ring := by
  have G_law_take := fun {P w base} => ok_take (P := P) (w := w) (base := base) T
  have G_law_order := fun {P w base} => ok_order (P := P) (w := w) (base := base) T
  refine T.F_law_ring.ok sc_law_ring (fun vs H Q E h => ?_) (fun cdv A outer s H vs Q E hr h => ?_)
  · obtain ⟨_, _, _, rfl, _⟩ := h; rfl
  · obtain ⟨p, m, many, rfl, hp, hm, h0, h1, q⟩ := h
    refine ⟨_, (pss_cons (ps_set (i := 2) sc_law_ring.nd rfl (Or.inl rfl) (pe_call G_law_order (hr.mono (by decide)) rfl T.m_law_order T.k_law_order T.b_law_order .nil pass0 (pa_cons (pv 0) (pa_cons (pv 1) pa_nil))))
      (pss_cons (ps_if (pt_cmpR op_eq (pe_call G_law_take (hr.mono (by decide)) rfl T.m_law_take T.k_law_take T.b_law_take .nil pass0 (pa_cons (pv 0) (pa_cons pe_int pa_nil))) pe_int (nomark _))
        (pss_one (ps_ret (pe_callTy (call_tupleC K) (by rfl) T.n_tuple boot_tuple (pa_cons (pe_lc (own := [("_law_k", 3)]) (g := gName 3) rfl sc_law_ring.nd (pi_listC K (pv 2)) (blkOk_by (N := N_law_ring) (sc := defScope s_law_ring) (by decide +kernel)) (fun _ _ _ _ _ => (pg_name (i := 3) sc_law_ring.nd rfl (Or.inl rfl))) (fun _ _ _ _ _ => pts_nil) (fun _ _ _ _ _ => (pe_op op_add (pe_op op_mul (pv 3) pe_int) (pe_call G_law_take (hr.mono (by decide)) rfl T.m_law_take T.k_law_take T.b_law_take .nil pass0 (pa_cons (pv 0) (pa_cons (pe_op op_pow pe_int pe_int) pa_nil)))))) pa_nil))))
        pss_nil)
      (pss_one (ps_ret (pe_callTy (call_tupleC K) (by rfl) T.n_tuple boot_tuple (pa_cons (pv 2) pa_nil)))))), ?_⟩
    walk_at "go"
    refine ⟨p, m, many, rfl, hp, by omega, h0, h1, fun l ns H1 hl hc1 hp1 h1' hpm => ?_⟩
    have hlen : ns.length = many := by rw [hpm.length_eq, List.length_range]
    have hnd : ns.Nodup := hpm.symm.nodup List.nodup_range
    have hlp : l ≠ p := hp.ne hl
    walk_at "go"
    refine g_take 3 hp1 rfl (by omega) (by omega) (by omega) fun r H2 hr2 hc2 hp2 => ?_
    have h2' := hc2.get h1' hlp
    walk_at "go"
    refine ifd (fun h => ?_) (fun h => ?_)
    · walk_at "go"
      refine g_itL (lstL h2') ?_
      walk_at "go"
      refine g_lcL (xs := vN ns) (fun D k acc H' => Chg (· = p) H2 H' ∧ HandAt H' p (m + 71 + k) ∧ ∃ got : List Int, acc = vI got ∧ got.map (· / 15625000000) = (ns.take k).map fun (i : Nat) => (i : Int)) (fun D H3 hD hs h3 => ⟨Chg.of hs, hp2.same hs, [], rfl, rfl⟩) (fun D k acc H' hk ha h3 => lstL (h3.1.get h2' hlp)) (fun D k x acc H' hD hx hac hl3 h3 => ?_) (fun D acc H3 hD hacc hl3 h3 => ?_)
      · obtain ⟨hc3, hp3, got, rfl, hgot⟩ := h3
        obtain ⟨i, hi, rfl⟩ := vN_get hx
        have hk := lt_of_get hi
        walk_at "go"
        refine g_take 10000000000 hp3 (by decide) (by omega) (by omega) (by omega) fun r H4 hr4 hc4 hp4 => ?_
        walk_at "go"
        have hpD : D ≠ p := hp2.ne hD
        refine g_acc (hc4.get hac hpD) hl3 (by omega) fun H5 hc5 h5 => ⟨?_, (hp4.chg hc5 (Ne.symm hpD)).mono (by omega), got ++ [(i : Int) * 15625000000 + (r : Int)], ?_, ?_⟩
        · refine ((hc3.trans hc4).mono (S' := fun b => b = p ∨ b = D) fun b e => Or.inl e).trans (hc5.mono fun b e => Or.inr e) |>.drop fun b hb => hb.elim (fun z => Or.inl z) fun z => Or.inr (by rw [z]; exact hD)
        · unfold vI; rw [List.map_append]; rfl
        · rw [List.map_append, hgot, List.take_succ, hi]
          simp
          omega
      · obtain ⟨hc3, hp3, got, rfl, hgot⟩ := h3
        rw [show (vN ns).length = ns.length by simp] at hp3 hgot
        rw [List.take_length] at hgot
        walk_at "go"
        refine g_tupL (lstL hacc) fun t H4 ht hs4 h4 => ?_
        refine q t got H4 (((hc1.trans hc2).trans hc3).same hs4) ((hp3.same hs4).mono (by omega)) h4 ?_ ?_
        · have := congrArg List.length hgot
          simp at this
          omega
        · have : (got.map (· / 15625000000)).Nodup := by
            rw [hgot]
            exact RC.nodup_map_on hnd fun x _ y _ e => by omega
          rw [List.nodup_iff_pairwise_ne, List.pairwise_map] at this
          rw [List.nodup_iff_pairwise_ne]
          exact this.imp fun h e => h (by rw [e])
    · walk_at "go"
      refine g_tupL (lstL h2') fun t H4 ht hs4 h4 => ?_
      refine q t (ns.map fun (i : Nat) => (i : Int)) H4 ((hc1.trans hc2).same hs4) ((hp2.same hs4).mono (by omega)) (by rw [h4]; unfold vN vI; rw [List.map_map]; rfl) (by simp [hlen]) ?_
      exact RC.nodup_map_on hnd fun x _ y _ e => by omega
/-- some places, one at least -/
def sp_some : Sp := fun vs H Q _ => ∃ (p : Addr) (m many : Nat), vs = [.ref p, .int (many : Int)] ∧ HandAt H p m ∧ m ≤ 400000000 ∧ 0 < many ∧ many ≤ 64 ∧
  ∀ t (bs : List Nat) H2, Chg (· = p) H H2 → HandAt H2 p (m + 70) → H2 t = some (.tup (vN bs)) → bs ≠ [] → (∀ j ∈ bs, j < many) → bs.Nodup → bs.length ≤ many → Q (.ref t) H2
theorem ok_some (T : Txt K mg) : FnOk P w K mg base CX0 2 (He.ga K "_law_some") (fd_law_some K) ["_law_from", "_law_many"] sp_some := by
  have G_law_take := fun {P w base} => ok_take (P := P) (w := w) (base := base) T
  refine T.F_law_some.ok sc_law_some (fun vs H Q E h => ?_) (fun cdv A outer s H vs Q E hr h => ?_)
  · obtain ⟨_, _, _, rfl, _⟩ := h; rfl
  · obtain ⟨p, m, many, rfl, hp, hm, h0, h1, q⟩ := h
    refine ⟨_, (pss_cons (ps_set (i := 2) sc_law_some.nd rfl (Or.inr rfl) (pe_call G_law_take (hr.mono (by decide)) rfl T.m_law_take T.k_law_take T.b_law_take .nil pass0 (pa_cons (pv 0) (pa_cons pe_int pa_nil))))
      (pss_cons (ps_if (pt_cmpR op_eq (pv 2) pe_int (nomark _))
        (pss_one (ps_ret (pe_tupRg rfl rfl T.n_tuple (prg_1 rfl T.n_range (pv 1)))))
        pss_nil)
      (pss_cons (ps_set (i := 3) sc_law_some.nd rfl (Or.inr rfl) (pe_call G_law_take (hr.mono (by decide)) rfl T.m_law_take T.k_law_take T.b_law_take .nil pass0 (pa_cons (pv 0) (pa_cons (pv 1) pa_nil))))
      (pss_cons (ps_if (pt_cmpR op_eq (pv 2) pe_int (nomark _))
        (pss_one (ps_ret (pe_tup (pa_cons (pv 3) pa_nil))))
        pss_nil)
      (pss_one (ps_ret (pe_callTy (call_tupleC K) (by rfl) T.n_tuple boot_tuple (pa_cons (pe_lc (own := [("_law_k", 4)]) (g := gName 4) rfl sc_law_some.nd (pi_range1 rfl T.n_range (pa_cons (pv 1) pa_nil)) (blkOk_by (N := N_law_some) (sc := defScope s_law_some) (by decide +kernel)) (fun _ _ _ _ _ => (pg_name (i := 4) sc_law_some.nd rfl (Or.inl rfl))) (fun _ _ _ _ _ => (pts_one (PW.pt (pw_or (pt_cmpR op_eq (pv 4) (pv 3) (nomark _)) (pw_or1 (pt_cmpR op_eq (pe_call G_law_take (hr.mono (by decide)) rfl T.m_law_take T.k_law_take T.b_law_take .nil pass0 (pa_cons (pv 0) (pa_cons (pv 2) pa_nil))) pe_int (nomark _))))))) (fun _ _ _ _ _ => (pv 4))) pa_nil)))))))), ?_⟩
    walk_at "go"
    refine g_take 4 hp rfl (by omega) (by omega) (by omega) fun way H1 hway hc1 hp1 => ?_
    walk_at "go"
    refine ifd (fun h => ?_) (fun h => ?_)
    · walk_at "go"
      refine g_tr (n := many) rfl (by omega) fun t H2 ht hs2 h2 => ?_
      refine q t (List.range many) H2 (hc1.same hs2) ((hp1.same hs2).mono (by omega)) h2 (fun e => ?_) (fun j hj => List.mem_range.mp hj) List.nodup_range (by simp)
      have := congrArg List.length e
      simp at this
      omega
    · walk_at "go"
      refine g_take many hp1 rfl (by omega) (by omega) (by omega) fun one H2 hone hc2 hp2 => ?_
      walk_at "go"
      refine ifd (fun h => ?_) (fun h => ?_)
      · walk_at "go"
        refine g_newT (by simp) fun t H3 ht hs3 h3 => ?_
        exact q t [one] H3 ((hc1.trans hc2).same hs3) ((hp2.same hs3).mono (by omega)) h3 (by simp) (by simp; omega) (by simp) (by simp; omega)
      · walk_at "go"
        refine g_r1 (n := many) rfl (by omega) ?_
        refine g_lcR (fun D k acc H' => Chg (· = p) H2 H' ∧ HandAt H' p (m + 2 + k) ∧ ∃ bs : List Nat, acc = vN bs ∧ bs.Sublist (List.range k) ∧ (one < k → one ∈ bs)) (fun D H3 hD hs h3 => ⟨Chg.of hs, hp2.same hs, [], rfl, by simp, by omega⟩) (fun D k acc H' hD hk hac hl3 h3 => ?_) (fun D acc H3 hD hacc hl3 h3 => ?_)
        · obtain ⟨hc3, hp3, bs, rfl, hbs, hin⟩ := h3
          have hpD : D ≠ p := hp2.ne hD
          have yes : ∀ H4, Chg (· = p) H2 H4 → HandAt H4 p (m + 2 + (k + 1)) → H4 D = some (.lst (vN bs)) → zAcc D (fun D k acc H' => Chg (· = p) H2 H' ∧ HandAt H' p (m + 2 + k) ∧ ∃ bs : List Nat, acc = vN bs ∧ bs.Sublist (List.range k) ∧ (one < k → one ∈ bs)) k (.int (0 + (k : Int))) H4 := fun H4 hc4 hp4 h4 => by
            refine g_acc h4 (by simpa using hl3) (by omega) fun H5 hc5 h5 => ⟨?_, hp4.chg hc5 (Ne.symm hpD), bs ++ [k], ?_, ?_, fun h => ?_⟩
            · exact (hc4.mono (S' := fun b => b = p ∨ b = D) fun b e => Or.inl e).trans (hc5.mono fun b e => Or.inr e) |>.drop fun b hb => hb.elim (fun z => Or.inl z) fun z => Or.inr (by rw [z]; exact hD)
            · unfold vN; rw [List.map_append, Int.zero_add]; rfl
            · rw [List.range_succ]; exact hbs.append (List.Sublist.refl _)
            · rcases Nat.lt_or_ge one k with z | z
              · exact List.mem_append_left _ (hin z)
              · exact List.mem_append_right _ (by simp; omega)
          walk_at "go"
          refine ifd (fun h => ?_) (fun h => ?_)
          · walk_at "go"
            exact yes H' hc3 (hp3.mono (by omega)) hac
          · walk_at "go"
            refine g_take way hp3 rfl (by omega) (by omega) (by omega) fun r H4 hr4 hc4 hp4 => ?_
            walk_at "go"
            refine ifd (fun h => ?_) (fun h => ?_)
            · walk_at "go"
              exact yes H4 (hc3.trans hc4) (hp4.mono (by omega)) (hc4.get hac hpD)
            · refine g_skip (hc4.get hac hpD) hl3 ⟨hc3.trans hc4, hp4.mono (by omega), bs, rfl, ?_, fun h => ?_⟩
              · rw [List.range_succ]; exact hbs.trans (List.sublist_append_left _ _)
              · exact hin (by omega)
        · obtain ⟨hc3, hp3, bs, rfl, hbs, hin⟩ := h3
          walk_at "go"
          refine g_tupL (lstL hacc) fun t H4 ht hs4 h4 => ?_
          refine q t bs H4 (((hc1.trans hc2).trans hc3).same hs4) ((hp3.same hs4).mono (by omega)) h4 (List.ne_nil_of_mem (hin hone)) (fun j hj => List.mem_range.mp (hbs.subset hj)) (hbs.nodup List.nodup_range) ?_
          have := hbs.length_le
          simpa using this
def sp_size : Sp := fun vs H Q _ => ∃ (p : Addr) (m : Nat), vs = [.ref p] ∧ HandAt H p m ∧ m ≤ 400000000 ∧ ∀ (n : Nat) H2, 1 ≤ n → n ≤ 64 → Chg (· = p) H H2 → HandAt H2 p (m + 2) → Q (.int (n : Int)) H2
theorem ok_size (T : Txt K mg) : FnOk P w K mg base CX0 2 (He.ga K "_law_size") (fd_law_size K) ["_law_from"] sp_size := by
  have G_law_take := fun {P w base} => ok_take (P := P) (w := w) (base := base) T
  refine T.F_law_size.ok sc_law_size (fun vs H Q E h => ?_) (fun cdv A outer s H vs Q E hr h => ?_)
  · obtain ⟨_, _, rfl, _⟩ := h; rfl
  · obtain ⟨p, m, rfl, hp, hm, q⟩ := h
    refine ⟨_, (pss_one (ps_ret (pe_op op_add pe_int (pe_call G_law_take (hr.mono (by decide)) rfl T.m_law_take T.k_law_take T.b_law_take .nil pass0 (pa_cons (pv 0) (pa_cons (pe_ix (ix_listC K) (pe_lst (pa_cons pe_int (pa_cons pe_int (pa_cons pe_int (pa_cons pe_int (pa_cons pe_int pa_nil)))))) (pe_call G_law_take (hr.mono (by decide)) rfl T.m_law_take T.k_law_take T.b_law_take .nil pass0 (pa_cons (pv 0) (pa_cons pe_int pa_nil))) (fun _ _ => rfl)) pa_nil)))))), ?_⟩
    walk_at "go"
    refine g_newL (by simp) fun l H1 hl hs1 h1 => ?_
    walk_at "go"
    refine g_take 5 (hp.same hs1) rfl (by omega) (by omega) (by omega) fun r H2 hr2 hc2 hp2 => ?_
    walk_at "go"
    have h2 := hc2.get h1 (hp.ne hl)
    have key : ∃ n : Nat, 0 < n ∧ n ≤ 64 ∧ atI [V.int 12, V.int 12, V.int 12, V.int 12, V.int 64] (r : Int) = some (.int (n : Int)) := by
      obtain rfl | rfl | rfl | rfl | rfl : r = 0 ∨ r = 1 ∨ r = 2 ∨ r = 3 ∨ r = 4 := by omega
      · exact ⟨12, by omega, by omega, rfl⟩
      · exact ⟨12, by omega, by omega, rfl⟩
      · exact ⟨12, by omega, by omega, rfl⟩
      · exact ⟨12, by omega, by omega, rfl⟩
      · exact ⟨64, by omega, by omega, rfl⟩
    obtain ⟨n, hn0, hn, he⟩ := key
    refine g_ixL (lstL h2) he ?_
    walk_at "go"
    refine g_take n hp2 rfl (by omega) (by omega) (by omega) fun z H3 hz hc3 hp3 => ?_
    walk_at "go"
    rw [show (1 : Int) + (z : Int) = ((1 + z : Nat) : Int) by omega]
    exact q _ H3 (by omega) (by omega) ((Chg.of hs1).trans (hc2.trans hc3)) hp3
/-- some word -/
def sp_word : Sp := fun vs H Q _ => ∃ (p : Addr) (m many : Nat), vs = [.ref p, .int (many : Int)] ∧ HandAt H p m ∧ m ≤ 400000000 ∧ many ≤ 64 ∧
  ∀ t (ring : List Int) H2, Chg (· = p) H H2 → HandAt H2 p (m + 70) → H2 t = some (.tup (vI ring)) → ring.length = many → Q (.ref t) H2
theorem ok_word (T : Txt K mg) : FnOk P w K mg base CX0 2 (He.ga K "_law_word") (fd_law_word K) ["_law_from", "_law_many"] sp_word := by
  have G_law_take := fun {P w base} => ok_take (P := P) (w := w) (base := base) T
  refine T.F_law_word.ok sc_law_word (fun vs H Q E h => ?_) (fun cdv A outer s H vs Q E hr h => ?_)
  · obtain ⟨_, _, _, rfl, _⟩ := h; rfl
  · obtain ⟨p, m, many, rfl, hp, hm, h1m, q⟩ := h
    refine ⟨_, (pss_cons (ps_set (i := 2) sc_law_word.nd rfl (Or.inr rfl) (pe_ix (ix_listC K) (pe_lst (pa_cons pe_int (pa_cons pe_int (pa_cons pe_int (pa_cons pe_int pa_nil))))) (pe_call G_law_take (hr.mono (by decide)) rfl T.m_law_take T.k_law_take T.b_law_take .nil pass0 (pa_cons (pv 0) (pa_cons pe_int pa_nil))) (fun _ _ => rfl)))
      (pss_one (ps_ret (pe_callTy (call_tupleC K) (by rfl) T.n_tuple boot_tuple (pa_cons (pe_lc (own := [("_law_k", 3)]) (g := gName 3) rfl sc_law_word.nd (pi_range1 rfl T.n_range (pa_cons (pv 1) pa_nil)) (blkOk_by (N := N_law_word) (sc := defScope s_law_word) (by decide +kernel)) (fun _ _ _ _ _ => (pg_name (i := 3) sc_law_word.nd rfl (Or.inl rfl))) (fun _ _ _ _ _ => pts_nil) (fun _ _ _ _ _ => (pe_call G_law_take (hr.mono (by decide)) rfl T.m_law_take T.k_law_take T.b_law_take .nil pass0 (pa_cons (pv 0) (pa_cons (pv 2) pa_nil))))) pa_nil))))), ?_⟩
    walk_at "go"
    refine g_newL (by simp) fun l H1 hl hs1 h1 => ?_
    walk_at "go"
    refine g_take 4 (hp.same hs1) rfl (by omega) (by omega) (by omega) fun r H2 hr2 hc2 hp2 => ?_
    walk_at "go"
    have h2 := hc2.get h1 (hp.ne hl)
    have key : ∃ n : Nat, 0 < n ∧ n ≤ 100 ∧ atI [V.int 1, V.int 2, V.int 3, V.int 100] (r : Int) = some (.int (n : Int)) := by
      obtain rfl | rfl | rfl | rfl : r = 0 ∨ r = 1 ∨ r = 2 ∨ r = 3 := by omega
      · exact ⟨1, by omega, by omega, rfl⟩
      · exact ⟨2, by omega, by omega, rfl⟩
      · exact ⟨3, by omega, by omega, rfl⟩
      · exact ⟨100, by omega, by omega, rfl⟩
    obtain ⟨n, hn0, hn, he⟩ := key
    refine g_ixL (lstL h2) he ?_
    walk_at "go"
    refine g_r1 (n := many) rfl (by omega) ?_
    refine g_lcR (fun D k acc H' => Chg (· = p) H2 H' ∧ HandAt H' p (m + 1 + k) ∧ ∃ ws : List Int, acc = vI ws ∧ ws.length = k) (fun D H3 hD hs h3 => ⟨Chg.of hs, hp2.same hs, [], rfl, rfl⟩) (fun D k acc H' hD hk hac hl3 h3 => ?_) (fun D acc H3 hD hacc hl3 h3 => ?_)
    · obtain ⟨hc3, hp3, ws, rfl, hws⟩ := h3
      have hpD : D ≠ p := hp2.ne hD
      walk_at "go"
      refine g_take n hp3 rfl (by omega) (by omega) (by omega) fun r H4 hr4 hc4 hp4 => ?_
      refine g_acc (hc4.get hac hpD) hl3 (by omega) fun H5 hc5 h5 => ⟨?_, (hp4.chg hc5 (Ne.symm hpD)).mono (by omega), ws ++ [(r : Int)], ?_, by simp [hws]⟩
      · exact ((hc3.trans hc4).mono (S' := fun b => b = p ∨ b = D) fun b e => Or.inl e).trans (hc5.mono fun b e => Or.inr e) |>.drop fun b hb => hb.elim (fun z => Or.inl z) fun z => Or.inr (by rw [z]; exact hD)
      · unfold vI; rw [List.map_append]; rfl
    · obtain ⟨hc3, hp3, ws, rfl, hws⟩ := h3
      walk_at "go"
      refine g_tupL (lstL hacc) fun t H4 ht hs4 h4 => ?_
      exact q t ws H4 (((Chg.of hs1).trans (hc2.trans hc3)).same hs4) ((hp3.same hs4).mono (by omega)) h4 hws
end
end G

set_option Elab.async false
set_option linter.all false
set_option maxRecDepth 100000
namespace G
open PySem PySem.Spec PyProof.Rows L2 Lay
section
variable {P : Program} {w : World} {K : PySem.W.Frag} {mg : Str → Option Value} {base : Heap}
theorem preI_two : ∀ n : Nat, 2 * preI 0 n = (n : Int) * ((n : Int) - 1)
  | 0 => rfl
  | n + 1 => by
    have ih := preI_two n
    unfold preI
    rw [Int.mul_add, ih]
    have e : ((n + 1 : Nat) : Int) - 1 = (n : Int) := by omega
    rw [e, Int.natCast_add, Int.add_mul, Int.mul_sub]
    omega
def hvL (n : Nat) : Nat := ((List.range 8).filter fun k => decide (2 ^ k ≤ n)).length
def rbL (n : Nat) : Nat → Nat
  | 0 => 5 * n
  | k + 1 => if 2 ^ k < n then rbL n k + 8 * 2 ^ k * (n / (2 ^ k + 1)) else rbL n k
theorem hv_all : ∀ n, n < 65 → 1 ≤ n → hvL n = RC.halvings n + 1 := by decide +kernel
theorem rb_all : ∀ n, n < 65 → 1 ≤ n → rbL n 7 = RC.reachBound n := by decide +kernel
theorem pow_cast (k : Nat) : (1 : Int) * 2 ^ (Int.toNat (k : Int)) = ((2 ^ k : Nat) : Int) := by
  rw [Int.one_mul, Int.toNat_natCast]
  exact (Int.natCast_pow 2 k).symm
def sp_lbound : Sp := fun vs H Q _ => ∃ (way : Way) (n : Nat), vs = [.str way.str, .int (n : Int)] ∧ 1 ≤ n ∧ n ≤ 64 ∧ ∀ H2, Same H H2 → Q (.int (boundN way n : Nat)) H2
theorem ok_lbound (T : Txt K mg) : FnOk P w K mg base CX0 1 (He.ga K "_law_bound") (fd_law_bound K) ["_law_way", "_law_many"] sp_lbound := by
  refine T.F_law_bound.ok sc_law_bound (fun vs H Q E h => ?_) (fun cdv A outer s H vs Q E hr h => ?_)
  · obtain ⟨_, _, rfl, _⟩ := h; rfl
  · obtain ⟨way, n, rfl, hn1, hn2, q⟩ := h
    refine ⟨_, (pss_cons (ps_if (pt_cmpR op_eq (pv 0) pe_str (nomark _))
        (pss_one (ps_ret (pe_op op_add (pe_sumRg rfl rfl T.n_sum (prg_1 rfl T.n_range (pe_op op_add (pv 1) pe_int))) (pv 1))))
        pss_nil)
      (pss_cons (ps_if (pt_cmpR op_eq (pv 0) pe_str (nomark _))
        (pss_one (ps_ret (pe_op op_sub (pe_op op_mul (pv 1) (pv 1)) (pv 1))))
        pss_nil)
      (pss_cons (ps_if (pt_cmpR op_eq (pv 0) pe_str (nomark _))
        (pss_one (ps_ret (pe_op op_mul (pe_op op_mul pe_int (pv 1)) (pe_callB (call_lenC K) (by rfl) T.n_len PySem.boot_len (pa_cons (pe_lc (own := [("_law_k", 2)]) (g := gName 2) rfl sc_law_bound.nd (pi_range1 rfl T.n_range (pa_cons pe_int pa_nil)) (blkOk_by (N := N_law_bound) (sc := defScope s_law_bound) (by decide +kernel)) (fun _ _ _ _ _ => (pg_name (i := 2) sc_law_bound.nd rfl (Or.inl rfl))) (fun _ _ _ _ _ => (pts_one (pt_cmpR op_le (pe_op op_shl pe_int (pv 2)) (pv 1) (nomark _)))) (fun _ _ _ _ _ => (pv 2))) pa_nil)))))
        pss_nil)
      (pss_cons (ps_set (i := 3) sc_law_bound.nd rfl (Or.inl rfl) (pe_op op_mul pe_int (pv 1)))
      (pss_cons (ps_for PassesOwn.never rfl (pi_range1 rfl T.n_range (pa_cons pe_int pa_nil)) (pg_name (i := 2) sc_law_bound.nd rfl (Or.inl rfl))
        (pss_one (ps_if (pt_cmpR op_lt (pe_op op_shl pe_int (pv 2)) (pv 1) (nomark _))
          (pss_one (ps_set (i := 3) sc_law_bound.nd rfl (Or.inl rfl) (pe_op op_add (pv 3) (pe_op op_mul (pe_op op_shl pe_int (pv 2)) (pe_op op_fdiv (pv 1) (pe_op op_add (pe_op op_shl pe_int (pv 2)) pe_int))))))
          pss_nil)))
      (pss_one (ps_ret (pv 3)))))))), ?_⟩
    walk_at "go"
    cases way
    · refine ifT rfl ?_
      walk_at "go"
      refine ⟨⟨by omega, by omega, by omega⟩, ?_⟩
      walk_at "go"
      have e : preI 0 (((n : Int) + 1 - 0).toNat) + (n : Int) = ((boundN .round n : Nat) : Int) := by
        rw [show ((n : Int) + 1 - 0).toNat = n + 1 by omega]
        have := preI_two (n + 1)
        rw [show ((n + 1 : Nat) : Int) - 1 = (n : Int) by omega, ← Int.natCast_mul] at this
        show _ = ((n * (n + 1) / 2 + n : Nat) : Int)
        rw [Nat.mul_comm] at this
        omega
      rw [e]
      exact q H fun _ _ h => h
    · refine ifF (by decide +kernel) ?_
      walk_at "go"
      refine ifF (by decide +kernel) ?_
      walk_at "go"
      refine ifT rfl ?_
      walk_at "go"
      refine g_r1 (n := 8) rfl (by omega) ?_
      walk_at "go"
      refine g_lcR (fun D k acc H' => Same H H' ∧ acc = vN ((List.range k).filter fun k => decide (2 ^ k ≤ n))) (fun D H3 hD hs h3 => ⟨hs, rfl⟩) (fun D k acc H' hD hk hac hl3 h3 => ?_) (fun D acc H3 hD hacc hl3 h3 => ?_)
      · obtain ⟨hs, rfl⟩ := h3
        walk_at "go"
        rw [Int.zero_add, pow_cast]
        refine ifd (fun h => ?_) (fun h => ?_)
        · walk_at "go"
          refine g_acc hac hl3 (by omega) fun H4 hc4 h4 => ⟨fun b o hb => hc4.get (hs _ _ hb) fun z => (by rw [z, hD] at hb; cases hb), ?_⟩
          rw [List.range_succ, List.filter_append]
          have h' : 2 ^ k ≤ n := Int.ofNat_le.mp h
          rw [show List.filter (fun k => decide (2 ^ k ≤ n)) [k] = [k] by simp [h']]
          unfold vN; rw [List.map_append]; rfl
        · refine g_skip hac hl3 ⟨hs, ?_⟩
          have h' : ¬ 2 ^ k ≤ n := fun z => h (Int.ofNat_le.mpr z)
          rw [List.range_succ, List.filter_append, show List.filter (fun k => decide (2 ^ k ≤ n)) [k] = [] by simp; omega, List.append_nil]
      · obtain ⟨hs, rfl⟩ := h3
        walk_at "go"
        refine g_lenL (lstL hacc) ?_
        walk_at "go"
        have e : (2 : Int) * (n : Int) * ((vN ((List.range 8).filter fun k => decide (2 ^ k ≤ n))).length : Int) = ((boundN .halves n : Nat) : Int) := by
          show _ = ((2 * n * (RC.halvings n + 1) : Nat) : Int)
          rw [← hv_all n (by omega) hn1]
          unfold hvL vN
          rw [List.length_map, Int.natCast_mul, Int.natCast_mul]
          rfl
        rw [e]
        exact q H3 hs
    · refine ifF (by decide +kernel) ?_
      walk_at "go"
      refine ifF (by decide +kernel) ?_
      walk_at "go"
      refine ifF (by decide +kernel) ?_
      walk_at "go"
      refine g_r1 (n := 7) rfl (by omega) ?_
      refine g_forR (fun k σ H' => H' = H ∧ ∃ v2, σ = [some (.str Way.reach.str), some (.int n), v2, some (.int (rbL n k : Nat))]) ⟨rfl, _, rfl⟩ ?_ ?_
      · rintro k σ H' hk ⟨rfl, v2, rfl⟩
        walk_at "go"
        rw [Int.zero_add, pow_cast]
        have h2k : 2 ^ k ≤ 64 := by
          have : k ≤ 6 := by omega
          calc 2 ^ k ≤ 2 ^ 6 := Nat.pow_le_pow_right (by omega) this
            _ = 64 := rfl
        refine ifd (fun h => ?_) (fun h => ?_)
        · walk_at "go"
          rw [pow_cast]
          have z0 : (0 : Int) ≤ ((2 ^ k : Nat) : Int) := Int.natCast_nonneg _
          have z1 : ((2 ^ k : Nat) : Int) ≤ 64 := Int.ofNat_le.mpr h2k
          refine g_divS (by generalize ((2 ^ k : Nat) : Int) = z at z0 z1 ⊢; constructor <;> omega) ?_
          walk_at "go"
          have e8 : (8 : Int) * 2 ^ (Int.toNat (k : Int)) = ((8 * 2 ^ k : Nat) : Int) := by
            rw [Int.toNat_natCast, Int.natCast_mul, Int.natCast_pow]; rfl
          rw [e8]
          refine g_mulL (by rw [Int.natCast_mul]; generalize ((2 ^ k : Nat) : Int) = z at z0 z1 ⊢; constructor <;> omega) ?_
          walk_at "go"
          have e : ((rbL n k : Nat) : Int) + ((8 * 2 ^ k : Nat) : Int) * ((n : Int) / (((2 ^ k : Nat) : Int) + 1)) = ((rbL n (k + 1) : Nat) : Int) := by
            conv => rhs; unfold rbL
            rw [if_pos (Int.ofNat_lt.mp h), Int.natCast_add, Int.natCast_mul (8 * 2 ^ k), Int.natCast_ediv]
            rfl
          rw [e]
          exact ⟨rfl, _, rfl⟩
        · walk_at "go"
          have e : rbL n (k + 1) = rbL n k := by
            conv => lhs; unfold rbL
            rw [if_neg (fun z => h (Int.ofNat_lt.mpr z))]
          rw [e]
          exact ⟨rfl, _, rfl⟩
      · rintro σ H' ⟨rfl, v2, rfl⟩
        walk_at "go"
        rw [rb_all n (by omega) hn1]
        exact q _ fun _ _ h => h
    · refine ifF (by decide +kernel) ?_
      walk_at "go"
      refine ifT rfl ?_
      walk_at "go"
      have e : (n : Int) * (n : Int) - (n : Int) = ((boundN .whole n : Nat) : Int) := by
        show _ = ((n * (n - 1) : Nat) : Int)
        rw [← mul_pred, Int.mul_sub, Int.mul_one]
      rw [e]
      exact q H fun _ _ h => h
def sp_is : Sp := fun vs H Q _ => ∃ i j : Int, vs = [.int i, .int j] ∧ Q (.bl (decide (i = j))) H
theorem ok_is (T : Txt K mg) : FnOk P w K mg base CX0 1 (He.ga K "_law_is") (fd_law_is K) ["_law_found", "_law_due"] sp_is := by
  refine T.F_law_is.ok sc_law_is (fun vs H Q E h => ?_) (fun cdv A outer s H vs Q E hr h => ?_)
  · obtain ⟨_, _, rfl, _⟩ := h; rfl
  · obtain ⟨i, j, rfl, q⟩ := h
    refine ⟨_, (pss_one (ps_ret (pe_and (pe_callB (call_isiC K) (by rfl) T.n_isinstance (by decide +kernel) (pa_cons (pv 0) (pa_cons (pe_bltn (v := .ty "int") (u := .type "int") (by rfl) T.n_int (by decide +kernel) rfl) pa_nil))) (pe_and (pe_not (pe_callB (call_isiC K) (by rfl) T.n_isinstance (by decide +kernel) (pa_cons (pv 0) (pa_cons (pe_bltn (v := .ty "bool") (u := .type "bool") (by rfl) T.n_bool (by decide +kernel) rfl) pa_nil)))) (pe_one (pe_cmpR op_eq (pv 0) (pv 1) (nomark _))))))), ?_⟩
    walk_at "go"
    refine g_isiI ?_
    walk_at "go"
    refine g_isiB ?_
    walk_at "go"
    refine ifb (fun _ => ?_) (fun z => by cases z)
    walk_at "go"
    exact q
def sp_behind : Sp := fun vs H Q _ => ∃ k : Nat, vs = [.int (k : Int)] ∧ k ≤ 6 ∧ ∀ t (ring : List Int) H2, Same H H2 → H2 t = some (.tup (vI ring)) → 1 ≤ ring.length → ring.length ≤ 64 → Q (.ref t) H2
theorem same_app {H H2 H3 : Hp} {D : Addr} (hs : Same H H2) (hD : H D = none) (hc : Chg (· = D) H2 H3) : Same H H3 := fun b o hb => hc.get (hs _ _ hb) fun z => by rw [z, hD] at hb; cases hb
theorem ok_behind (T : Txt K mg) : FnOk P w K mg base CX0 1 (He.ga K "_law_from_behind") (fd_law_from_behind K) ["_law_power"] sp_behind := by
  refine T.F_law_from_behind.ok sc_law_from_behind (fun vs H Q E h => ?_) (fun cdv A outer s H vs Q E hr h => ?_)
  · obtain ⟨_, rfl, _⟩ := h; rfl
  · obtain ⟨k, rfl, hk, q⟩ := h
    refine ⟨_, (pss_cons (ps_set (i := 1) sc_law_from_behind.nd rfl (Or.inl rfl) (pe_lst (pa_cons pe_int pa_nil)))
      (pss_cons (ps_for PassesOwn.never rfl (pi_range1 rfl T.n_range (pa_cons (pv 0) pa_nil)) (pg_name (i := 2) sc_law_from_behind.nd rfl (Or.inl rfl))
        (pss_one (ps_set (i := 1) sc_law_from_behind.nd rfl (Or.inl rfl) (pe_op op_cat (pe_lc (own := [("_law_name", 3)]) (g := gName 3) rfl sc_law_from_behind.nd (pi_listC K (pv 1)) (blkOk_by (N := N_law_from_behind) (sc := defScope s_law_from_behind) (by decide +kernel)) (fun _ _ _ _ _ => (pg_name (i := 3) sc_law_from_behind.nd rfl (Or.inl rfl))) (fun _ _ _ _ _ => pts_nil) (fun _ _ _ _ _ => (pe_op op_mul pe_int (pv 3)))) (pe_lc (own := [("_law_name", 3)]) (g := gName 3) rfl sc_law_from_behind.nd (pi_listC K (pv 1)) (blkOk_by (N := N_law_from_behind) (sc := defScope s_law_from_behind) (by decide +kernel)) (fun _ _ _ _ _ => (pg_name (i := 3) sc_law_from_behind.nd rfl (Or.inl rfl))) (fun _ _ _ _ _ => pts_nil) (fun _ _ _ _ _ => (pe_op op_add (pe_op op_mul pe_int (pv 3)) pe_int)))))))
      (pss_one (ps_ret (pe_callTy (call_tupleC K) (by rfl) T.n_tuple boot_tuple (pa_cons (pv 1) pa_nil)))))), ?_⟩
    walk_at "go"
    refine g_newL (by simp) fun l H1 hl hs1 h1 => ?_
    walk_at "go"
    refine g_r1 (n := k) rfl (by omega) ?_
    refine g_forR (fun i σ H' => Same H H' ∧ ∃ v2 v3 l ns, σ = [some (.int k), some (.ref l), v2, v3] ∧ H' l = some (.lst (vI ns)) ∧ ns.length = 2 ^ i) ⟨hs1, _, _, l, [0], rfl, h1, rfl⟩ ?_ ?_
    · rintro i σ H2 hi ⟨hs2, v2, v3, l, ns, rfl, h2, hn⟩
      have h2i : 2 ^ i ≤ 32 := by
        have : i ≤ 5 := by omega
        calc 2 ^ i ≤ 2 ^ 5 := Nat.pow_le_pow_right (by omega) this
          _ = 32 := rfl
      walk_at "go"
      refine g_itL (lstL h2) ?_
      walk_at "go"
      refine g_lcL (xs := vI ns) (fun D j acc H' => Same H2 H' ∧ ∃ ms : List Int, acc = vI ms ∧ ms.length = j) (fun D H3 hD hs h3 => ⟨hs, [], rfl, rfl⟩) (fun D j acc H' hj ha h3 => lstL (h3.1 _ _ h2)) (fun D j x acc H' hD hx hac hl3 h3 => ?_) (fun D acc H3 hD hacc hl3 h3 => ?_)
      · obtain ⟨hs, ms, rfl, hm⟩ := h3
        obtain ⟨z, hz, rfl⟩ := vI_get hx
        have hj := lt_of_get hz
        walk_at "go"
        exact g_acc hac hl3 (by omega) fun H5 hc5 h5 => ⟨same_app hs hD hc5, ms ++ [2 * z], by unfold vI; rw [List.map_append]; rfl, by simp [hm]⟩
      · obtain ⟨hs3, ms, rfl, hm⟩ := h3
        walk_at "go"
        refine g_itL (lstL (hs3 _ _ h2)) ?_
        walk_at "go"
        refine g_lcL (xs := vI ns) (fun D j acc H' => Same H3 H' ∧ ∃ ms : List Int, acc = vI ms ∧ ms.length = j) (fun D H3 hD hs h3 => ⟨hs, [], rfl, rfl⟩) (fun D j acc H' hj ha h3 => lstL (h3.1 _ _ (hs3 _ _ h2))) (fun D j x acc H' hD hx hac hl3 h3 => ?_) (fun D2 acc H4 hD2 hacc2 hl4 h4 => ?_)
        · obtain ⟨hs, ms, rfl, hm⟩ := h3
          obtain ⟨z, hz, rfl⟩ := vI_get hx
          have hj := lt_of_get hz
          walk_at "go"
          exact g_acc hac hl3 (by omega) fun H5 hc5 h5 => ⟨same_app hs hD hc5, ms ++ [2 * z + 1], by unfold vI; rw [List.map_append]; rfl, by simp [hm]⟩
        · obtain ⟨hs4, ms2, rfl, hm2⟩ := h4
          walk_at "go"
          have l1 : (vI ns).length = 2 ^ i := by simp [hn]
          rw [l1] at hm hm2
          refine g_cat (hs4 _ _ hacc) hacc2 (by simp; omega) fun l' H5 hl5 hs5 h5 => ?_
          walk_at "go"
          refine ⟨same_trans hs2 (same_trans hs3 (same_trans hs4 hs5)), _, _, l', ms ++ ms2, rfl, by rw [h5]; unfold vI; rw [List.map_append], ?_⟩
          rw [List.length_append, hm, hm2, Nat.pow_succ]
          omega
    · rintro σ H2 ⟨hs2, v2, v3, l, ns, rfl, h2, hn⟩
      have h2i : 2 ^ k ≤ 64 := by
        calc 2 ^ k ≤ 2 ^ 6 := Nat.pow_le_pow_right (by omega) hk
          _ = 64 := rfl
      have h2p : 1 ≤ 2 ^ k := Nat.one_le_two_pow
      walk_at "go"
      refine g_tupL (lstL h2) fun t H3 ht hs3 h3 => ?_
      exact q t ns H3 (same_trans hs2 hs3) h3 (by omega) (by omega)
end
end G

set_option Elab.async false
set_option linter.all false
set_option maxRecDepth 100000
namespace G
open PySem PySem.Spec PyProof.Rows L2 Lay
section
variable {P : Program} {w : World} {K : PySem.W.Frag} {mg : Str → Option Value} {base : Heap}
theorem nm_inj {ring : List Int} (hn : ring.Nodup) {i j : Nat} (hi : i < ring.length) (hj : j < ring.length) (e : nmL ring i = nmL ring j) : i = j := by
  unfold nmL at e
  simp only [List.getD, List.getElem?_eq_getElem hi, List.getElem?_eq_getElem hj, Option.getD_some] at e
  rw [List.nodup_iff_pairwise_ne, List.pairwise_iff_getElem] at hn
  rcases Nat.lt_trichotomy i j with h | h | h
  · exact absurd e (hn i j hi hj h)
  · exact h
  · exact absurd e.symm (hn j i hj hi h)
theorem told_le {way : Way} {ring : List Int} {bs : List Nat} (hn : way = .whole ∨ ring.Nodup) (hb : ∀ j ∈ bs, j < ring.length) (hbn : bs.Nodup) (hl : bs.length ≤ ring.length) : toldN way ring bs ≤ boundN way ring.length := by
  cases way
  · have hn : ring.Nodup := hn.elim (fun z => by cases z) id
    exact RC.round_bound hb hbn (RC.nodup_map_on hbn fun x hx y hy e => nm_inj hn (hb x hx) (hb y hy) e)
  · have h : (row0 ring bs).length ≤ ring.length := by unfold row0; simpa using hl
    exact Nat.mul_le_mul_left _ (RC.rows_bound h)
  · have hn : ring.Nodup := hn.elim (fun z => by cases z) id
    exact RC.reach_bound hb hbn fun i hi j hj e => nm_inj hn (hb i hi) (hb j hj) e
  · exact Nat.le_refl _
theorem told_falling {ring : List Int} (hn : ring.Nodup) (hd : OrdB true ring) : toldN .round ring (List.range ring.length) = boundN .round ring.length := by
  refine RC.round_falling fun j k hjk hk => ?_
  have hd' : ring.Pairwise (· ≥ ·) := hd
  rw [List.pairwise_iff_getElem] at hd'
  have h1 := hd' j k (by omega) hk hjk
  have h2 : nmL ring j ≠ nmL ring k := fun e => by have := nm_inj hn (by omega) hk e; omega
  unfold nmL at h2 ⊢
  simp only [List.getD, List.getElem?_eq_getElem hk, List.getElem?_eq_getElem (show j < ring.length by omega), Option.getD_some] at h2 ⊢
  omega
theorem same_seqL {H H' : Hp} {a : Addr} {xs : List V} (e : Same H H') (h : SqL K H a xs) : SqL K H' a xs := by
  rcases h with (h | ⟨o, h⟩) | h
  · exact .inl (.inl (e _ _ h))
  · exact .inl (.inr ⟨o, e _ _ h⟩)
  · exact .inr h
def wayAt : Nat → Way
  | 0 => .round
  | 1 => .halves
  | 2 => .reach
  | _ => .whole
theorem way_get {i : Nat} {x : V} (h : ([V.str "round", V.str "halves", V.str "reach", V.str "whole"] : List V)[i]? = some x) : ∃ way : Way, x = .str way.str := by
  match i, h with
  | 0, h => cases h; exact ⟨.round, rfl⟩
  | 1, h => cases h; exact ⟨.halves, rfl⟩
  | 2, h => cases h; exact ⟨.reach, rfl⟩
  | 3, h => cases h; exact ⟨.whole, rfl⟩
  | i + 4, h => simp at h
theorem g_told {H : Hp} {Q : VK} {E : XK} {ra sa : Addr} (way : Way) (ring : List Int) (bs : List Nat) {s : Str} (e : s = way.str) (hr : H ra = some (.tup (vI ring))) (hs : H sa = some (.tup (vN bs))) (hb : ∀ j ∈ bs, j < ring.length) (h64 : ring.length ≤ 64) (hb64 : bs.length ≤ 64) (q : ∀ H2, Same H H2 → Q (.int (toldN way ring bs : Nat)) H2) : sp_told K [.str s, .ref ra, .ref sa] H Q E := by
  subst e
  exact ⟨way, ra, sa, ring, bs, rfl, ⟨tupT hr, tupT hs, hb, h64⟩, hb64, q⟩
theorem g_bound {H : Hp} {Q : VK} {E : XK} (way : Way) (n : Nat) {s : Str} {j : Int} (e : s = way.str) (e2 : j = (n : Int)) (hn : n ≤ 1000) (q : Q (.int (boundN way n : Nat)) H) : sp_bound [.str s, .int j] H Q E := by
  subst e e2
  exact ⟨way, n, rfl, hn, q⟩
theorem g_lbound {H : Hp} {Q : VK} {E : XK} (way : Way) (n : Nat) {s : Str} {j : Int} (e : s = way.str) (e2 : j = (n : Int)) (h1 : 1 ≤ n) (hn : n ≤ 64) (q : ∀ H2, Same H H2 → Q (.int (boundN way n : Nat)) H2) : sp_lbound [.str s, .int j] H Q E := by
  subst e e2
  exact ⟨way, n, rfl, h1, hn, q⟩
theorem g_is {H : Hp} {Q : VK} {E : XK} {i j : Int} (q : Q (.bl (decide (i = j))) H) : sp_is [.int i, .int j] H Q E := ⟨i, j, rfl, q⟩
def spLaw (K : PySem.W.Frag) : Sp := fun vs H Q _ => ∃ a ns, vs = [.ref a] ∧ SqL K H a (vI ns) ∧ ns.length ≤ 63 ∧ ∀ H', Q (.bl true) H'
theorem ok_law (T : Txt K mg) : FnOk P w K mg base CX0 4 (He.ga K "law") (fd_law K) ["_law_script"] (spLaw K) := by
  have G_told_letters := fun {P w base} => ok_told (P := P) (w := w) (base := base) T
  have G_bound := fun {P w base} => ok_bound (P := P) (w := w) (base := base) T
  have G_law_take := fun {P w base} => ok_take (P := P) (w := w) (base := base) T
  have G_law_hand := fun {P w base} => ok_hand (P := P) (w := w) (base := base) T
  have G_law_size := fun {P w base} => ok_size (P := P) (w := w) (base := base) T
  have G_law_ring := fun {P w base} => ok_ring (P := P) (w := w) (base := base) T
  have G_law_some := fun {P w base} => ok_some (P := P) (w := w) (base := base) T
  have G_law_word := fun {P w base} => ok_word (P := P) (w := w) (base := base) T
  have G_law_bound := fun {P w base} => ok_lbound (P := P) (w := w) (base := base) T
  have G_law_is := fun {P w base} => ok_is (P := P) (w := w) (base := base) T
  have G_law_from_behind := fun {P w base} => ok_behind (P := P) (w := w) (base := base) T
  refine T.F_law.ok sc_law (fun vs H Q E h => ?_) (fun cdv A outer s H vs Q E hr h => ?_)
  · obtain ⟨_, _, rfl, _⟩ := h; rfl
  · obtain ⟨a, ns, rfl, hs, hl, q⟩ := h
    refine ⟨_, (pss_cons (ps_for PassesOwn.never rfl (pi_range1 rfl T.n_range (pa_cons (pe_callB (call_max_z rfl) (by rfl) T.n_max (by decide +kernel) (pa_cons pe_int (pa_cons (pe_callB (call_min_z rfl) (by rfl) T.n_min (by decide +kernel) (pa_cons pe_int (pa_cons (pe_callB (call_lenC K) (by rfl) T.n_len PySem.boot_len (pa_cons (pv 0) pa_nil)) pa_nil))) pa_nil))) pa_nil)) (pg_name (i := 1) sc_law.nd rfl (Or.inl rfl))
        (pss_cons (ps_set (i := 2) sc_law.nd rfl (Or.inl rfl) (pe_call G_law_hand (hr.mono (by decide)) rfl T.m_law_hand T.k_law_hand T.b_law_hand .nil pass0 (pa_cons (pv 0) (pa_cons (pv 1) pa_nil))))
        (pss_cons (ps_set (i := 3) sc_law.nd rfl (Or.inl rfl) (pe_call G_law_size (hr.mono (by decide)) rfl T.m_law_size T.k_law_size T.b_law_size .nil pass0 (pa_cons (pv 2) pa_nil)))
        (pss_cons (ps_set (i := 4) sc_law.nd rfl (Or.inl rfl) (pe_call G_law_ring (hr.mono (by decide)) rfl T.m_law_ring T.k_law_ring T.b_law_ring .nil pass0 (pa_cons (pv 2) (pa_cons (pv 3) pa_nil))))
        (pss_cons (ps_set (i := 5) sc_law.nd rfl (Or.inl rfl) (pe_call G_law_some (hr.mono (by decide)) rfl T.m_law_some T.k_law_some T.b_law_some .nil pass0 (pa_cons (pv 2) (pa_cons (pv 3) pa_nil))))
        (pss_cons (ps_for PassesOwn.never rfl (pi_tupC K (pe_tup (pa_cons pe_str (pa_cons pe_str (pa_cons pe_str (pa_cons pe_str pa_nil)))))) (pg_name (i := 6) sc_law.nd rfl (Or.inl rfl))
          (pss_cons (ps_set (i := 7) sc_law.nd rfl (Or.inl rfl) (pe_call G_law_bound (hr.mono (by decide)) rfl T.m_law_bound T.k_law_bound T.b_law_bound .nil pass0 (pa_cons (pv 6) (pa_cons (pv 3) pa_nil))))
          (pss_cons (ps_set (i := 8) sc_law.nd rfl (Or.inl rfl) (pe_ifExp (pt_cmpR op_ne (pv 6) pe_str (nomark _)) (pv 4) (pe_call G_law_word (hr.mono (by decide)) rfl T.m_law_word T.k_law_word T.b_law_word .nil pass0 (pa_cons (pv 2) (pa_cons (pv 3) pa_nil)))))
          (pss_cons (ps_if (pt_not (pt_val (pe_call G_law_is (hr.mono (by decide)) rfl T.m_law_is T.k_law_is T.b_law_is .nil pass0 (pa_cons (pe_call G_bound (hr.mono (by decide)) rfl T.m_bound T.k_bound T.b_bound .nil pass0 (pa_cons (pv 6) (pa_cons (pv 3) pa_nil))) (pa_cons (pv 7) pa_nil)))))
            (pss_one (ps_ret pe_bl))
            pss_nil)
          (pss_one (ps_if (pt_cmpR op_gt (pe_call G_told_letters (hr.mono (by decide)) rfl T.m_told_letters T.k_told_letters T.b_told_letters .nil pass0 (pa_cons (pv 6) (pa_cons (pv 8) (pa_cons (pv 5) pa_nil)))) (pv 7) (nomark _))
            (pss_one (ps_ret pe_bl))
            pss_nil))))))
        (pss_cons (ps_set (i := 9) sc_law.nd rfl (Or.inl rfl) (pe_callTy (call_tupleC K) (by rfl) T.n_tuple boot_tuple (pa_cons (pe_callBK (cr_sortedRevTC (b := true) K) rfl T.n_sorted (by decide +kernel) (pa_cons (pv 4) pa_nil) (pk_cons pe_bl pk_nil)) pa_nil)))
        (pss_cons (ps_if (pt_cmpR op_ne (pe_call G_told_letters (hr.mono (by decide)) rfl T.m_told_letters T.k_told_letters T.b_told_letters .nil pass0 (pa_cons pe_str (pa_cons (pv 9) (pa_cons (pe_tupRg rfl rfl T.n_tuple (prg_1 rfl T.n_range (pv 3))) pa_nil)))) (pe_call G_bound (hr.mono (by decide)) rfl T.m_bound T.k_bound T.b_bound .nil pass0 (pa_cons pe_str (pa_cons (pv 3) pa_nil))) (nomark _))
          (pss_one (ps_ret pe_bl))
          pss_nil)
        (pss_cons (ps_set (i := 10) sc_law.nd rfl (Or.inl rfl) (pe_op op_add pe_int (pe_call G_law_take (hr.mono (by decide)) rfl T.m_law_take T.k_law_take T.b_law_take .nil pass0 (pa_cons (pv 2) (pa_cons pe_int pa_nil)))))
        (pss_cons (ps_for PassesOwn.never rfl (pi_tupC K (pe_tup (pa_cons pe_str (pa_cons pe_str (pa_cons pe_str (pa_cons pe_str pa_nil)))))) (pg_name (i := 6) sc_law.nd rfl (Or.inl rfl))
          (pss_one (ps_if (pt_not (pt_val (pe_call G_law_is (hr.mono (by decide)) rfl T.m_law_is T.k_law_is T.b_law_is .nil pass0 (pa_cons (pe_call G_bound (hr.mono (by decide)) rfl T.m_bound T.k_bound T.b_bound .nil pass0 (pa_cons (pv 6) (pa_cons (pv 10) pa_nil))) (pa_cons (pe_call G_law_bound (hr.mono (by decide)) rfl T.m_law_bound T.k_law_bound T.b_law_bound .nil pass0 (pa_cons (pv 6) (pa_cons (pv 10) pa_nil))) pa_nil)))))
            (pss_one (ps_ret pe_bl))
            pss_nil)))
        (pss_cons (ps_set (i := 11) sc_law.nd rfl (Or.inl rfl) (pe_call G_law_from_behind (hr.mono (by decide)) rfl T.m_law_from_behind T.k_law_from_behind T.b_law_from_behind .nil pass0 (pa_cons (pe_call G_law_take (hr.mono (by decide)) rfl T.m_law_take T.k_law_take T.b_law_take .nil pass0 (pa_cons (pv 2) (pa_cons pe_int pa_nil))) pa_nil)))
        (pss_one (ps_if (pt_cmpR op_gt (pe_call G_told_letters (hr.mono (by decide)) rfl T.m_told_letters T.k_told_letters T.b_told_letters .nil pass0 (pa_cons pe_str (pa_cons (pv 11) (pa_cons (pe_tupRg rfl rfl T.n_tuple (prg_1 rfl T.n_range (pe_callB (call_lenC K) (by rfl) T.n_len PySem.boot_len (pa_cons (pv 11) pa_nil)))) pa_nil)))) (pe_call G_bound (hr.mono (by decide)) rfl T.m_bound T.k_bound T.b_bound .nil pass0 (pa_cons pe_str (pa_cons (pe_callB (call_lenC K) (by rfl) T.n_len PySem.boot_len (pa_cons (pv 11) pa_nil)) pa_nil))) (nomark _))
          (pss_one (ps_ret pe_bl))
          pss_nil)))))))))))))
      (pss_one (ps_ret pe_bl))), ?_⟩
    walk_at "go"
    refine g_lenL hs ?_
    walk_at "go"
    rw [show (vI ns).length = ns.length by simp]
    obtain ⟨N, hN, hN2⟩ : ∃ N : Nat, (if (if (ns.length : Int) < 10 then (ns.length : Int) else 10) > 2 then (if (ns.length : Int) < 10 then (ns.length : Int) else 10) else 2) = (N : Int) ∧ N ≤ 10 := by
      by_cases h1 : (ns.length : Int) < 10
      · rw [if_pos h1]
        by_cases h2 : (ns.length : Int) > 2
        · rw [if_pos h2]; exact ⟨_, rfl, by omega⟩
        · rw [if_neg h2]; exact ⟨2, rfl, by omega⟩
      · rw [if_neg h1, if_pos (by omega)]; exact ⟨10, rfl, by omega⟩
    rw [hN]
    refine g_r1 (n := N) rfl (by omega) ?_
    refine g_forR (fun k σ H' => Same H H' ∧ ∃ v1 v2 v3 v4 v5 v6 v7 v8 v9 v10 v11, σ = [some (.ref a), v1, v2, v3, v4, v5, v6, v7, v8, v9, v10, v11]) ⟨fun _ _ h => h, _, _, _, _, _, _, _, _, _, _, _, rfl⟩ ?_ ?_
    · rintro k σ H0 hk ⟨hs0, v1, v2, v3, v4, v5, v6, v7, v8, v9, v10, v11, rfl⟩
      walk_at "go"
      rw [Int.zero_add]
      refine ⟨a, ns, k, rfl, same_seqL hs0 hs, by omega, fun f H1 hf hs1 hp1 => ?_⟩
      have hf0 : H f = none := by
        cases e : H f with
        | none => rfl
        | some o => rw [hs0 _ _ e] at hf; cases hf
      walk_at "go"
      refine ⟨f, 0, rfl, hp1, by omega, fun many H2 hm1 hm2 hc2 hp2 => ?_⟩
      walk_at "go"
      refine ⟨f, 0 + 2, many, rfl, hp2, by omega, by omega, by omega, fun ra ring H3 hc3 hp3 h3 hlen hnd => ?_⟩
      walk_at "go"
      refine ⟨f, 0 + 2 + 140, many, rfl, hp3, by omega, by omega, by omega, fun sa bs H4 hc4 hp4 h4 hbne hb hbn hbl => ?_⟩
      have hR4 := hc4.tup h3
      walk_at "go"
      refine g_newT (by simp) fun wt H5 hwt hs5 h5 => ?_
      walk_at "go"
      refine g_itT (tupT h5) ?_
      have hc15 : Chg (· = f) H1 H5 := ((hc2.trans hc3).trans hc4).same hs5
      refine g_forT (xs := [V.str "round", V.str "halves", V.str "reach", V.str "whole"]) (fun i σ H' => Chg (· = f) H1 H' ∧ HandAt H' f (1000 + 100 * i) ∧ H' wt = some (.tup [V.str "round", V.str "halves", V.str "reach", V.str "whole"]) ∧ H' ra = some (.tup (vI ring)) ∧ H' sa = some (.tup (vN bs)) ∧
        ∃ v6 v7 v8, σ = [some (.ref a), some (.int k), some (.ref f), some (.int many), some (.ref ra), some (.ref sa), v6, v7, v8, v9, v10, v11])
        ⟨hc15, (hp4.same hs5).mono (by omega), h5, hs5 _ _ hR4, hs5 _ _ h4, _, _, _, rfl⟩ (fun i σ H' hi h => tupT h.2.2.1) ?_ ?_
      · rintro i x σ H6 hx ⟨hc6, hp6, hw6, hr6, hsa6, v6, v7, v8, rfl⟩
        have hi4 : i < 4 := lt_of_get hx
        obtain ⟨way, rfl⟩ := way_get hx
        walk_at "go"
        refine g_lbound way many rfl rfl hm1 hm2 fun H7 hs7 => ?_
        have hc7 := hc6.same hs7
        walk_at "go"
        refine ifnd (fun hw => ?_) (fun hw => ?_)
        · walk_at "go"
          refine g_bound way many rfl rfl (by omega) ?_
          walk_at "go"
          refine g_is ?_
          walk_at "go"
          refine ifnd (fun z => absurd rfl z) (fun _ => ?_)
          walk_at "go"
          refine g_told way ring bs rfl (hs7 _ _ hr6) (hs7 _ _ hsa6) (by rw [hlen]; exact hb) (by omega) (by omega) fun H8 hs8 => ?_
          walk_at "go"
          have hle := told_le (way := way) (Or.inr hnd) (by rw [hlen]; exact hb) hbn (by rw [hlen]; exact hbl)
          rw [hlen] at hle
          refine ifd (fun z => by omega) (fun _ => ?_)
          walk_at "go"
          have hs68 := same_trans hs7 hs8
          exact ⟨hc6.same hs68, (hp6.same hs68).mono (by omega), hs68 _ _ hw6, hs68 _ _ hr6, hs68 _ _ hsa6, _, _, _, rfl⟩
        · have hwhole : way = .whole := by
            cases way
            · exact absurd hw (by decide +kernel)
            · exact absurd hw (by decide +kernel)
            · exact absurd hw (by decide +kernel)
            · rfl
          walk_at "go"
          refine ⟨f, 1000 + 100 * i, many, rfl, hp6.same hs7, by omega, hm2, fun wa word H8 hc8 hp8 h8 hwl => ?_⟩
          walk_at "go"
          refine g_bound way many rfl rfl (by omega) ?_
          walk_at "go"
          refine g_is ?_
          walk_at "go"
          refine ifnd (fun z => absurd rfl z) (fun _ => ?_)
          walk_at "go"
          have hr8 := hc8.tup (hs7 _ _ hr6)
          have hsa8 := hc8.tup (hs7 _ _ hsa6)
          refine g_told way word bs rfl h8 hsa8 (by rw [hwl]; exact hb) (by omega) (by omega) fun H9 hs9 => ?_
          walk_at "go"
          have hle := told_le (way := way) (Or.inl hwhole) (by rw [hwl]; exact hb) hbn (by rw [hwl]; exact hbl)
          rw [hwl] at hle
          refine ifd (fun z => by omega) (fun _ => ?_)
          walk_at "go"
          exact ⟨(hc7.trans hc8).same hs9, (hp8.same hs9).mono (by omega), hs9 _ _ (hc8.tup (hs7 _ _ hw6)), hs9 _ _ hr8, hs9 _ _ hsa8, _, _, _, rfl⟩
      · rintro σ H6 ⟨hc6, hp6, hw6, hr6, hsa6, v6, v7, v8, rfl⟩
        walk_at "go"
        refine g_sortRT (tupT hr6) fun ns' fl H7 hpm hord hfl hs7 h7 => ?_
        walk_at "go"
        refine g_tupL (lstL h7) fun ft H8 hft hs8 h8 => ?_
        walk_at "go"
        refine g_tr (n := many) rfl (by omega) fun rt H9 hrt hs9 h9 => ?_
        walk_at "go"
        have hnl : ns'.length = many := by rw [hpm.length_eq, hlen]
        refine g_told .round ns' (List.range many) rfl (hs9 _ _ h8) h9 (fun j hj => by rw [hnl]; exact List.mem_range.mp hj) (by omega) (by simp; omega) fun H10 hs10 => ?_
        walk_at "go"
        refine g_bound .round many rfl rfl (by omega) ?_
        walk_at "go"
        have hfall := told_falling (hpm.symm.nodup hnd) hord
        rw [hnl] at hfall
        rw [hfall]
        refine ifnd (fun z => absurd rfl z) (fun _ => ?_)
        walk_at "go"
        have hs6a : Same H6 H10 := same_trans hs7 (same_trans hs8 (same_trans hs9 hs10))
        refine g_take 64 (hp6.same hs6a) rfl (by simp) (by omega) (by omega) fun r H11 hr11 hc11 hp11 => ?_
        have hc11' := (hc6.same hs6a).trans hc11
        walk_at "go"
        refine g_newT (by simp) fun wt2 H12 hwt2 hs12 h12 => ?_
        walk_at "go"
        refine g_itT (tupT h12) ?_
        rw [show (1 : Int) + (r : Int) = ((1 + r : Nat) : Int) by omega]
        refine g_forT (xs := [V.str "round", V.str "halves", V.str "reach", V.str "whole"]) (fun i σ H' => Chg (· = f) H1 H' ∧ HandAt H' f 2000 ∧ H' wt2 = some (.tup [V.str "round", V.str "halves", V.str "reach", V.str "whole"]) ∧
          ∃ v6, σ = [some (.ref a), some (.int k), some (.ref f), some (.int many), some (.ref ra), some (.ref sa), v6, v7, v8, some (.ref ft), some (.int ((1 + r : Nat) : Int)), v11])
          ⟨hc11'.same hs12, (hp11.same hs12).mono (by simp), h12, _, rfl⟩ (fun i σ H' hi h => tupT h.2.2.1) ?_ ?_
        · rintro i x σ H13 hx ⟨hc13, hp13, hw13, v6', rfl⟩
          obtain ⟨way, rfl⟩ := way_get hx
          walk_at "go"
          refine g_bound way (1 + r) rfl rfl (by omega) ?_
          walk_at "go"
          refine g_lbound way (1 + r) rfl rfl (by omega) (by omega) fun H14 hs14 => ?_
          walk_at "go"
          refine g_is ?_
          walk_at "go"
          refine ifnd (fun z => absurd rfl z) (fun _ => ?_)
          walk_at "go"
          exact ⟨hc13.same hs14, hp13.same hs14, hs14 _ _ hw13, _, rfl⟩
        · rintro σ H13 ⟨hc13, hp13, hw13, v6', rfl⟩
          walk_at "go"
          refine g_take 7 hp13 rfl (by omega) (by omega) (by omega) fun d H14 hd hc14 hp14 => ?_
          walk_at "go"
          refine ⟨d, rfl, by omega, fun dt dear H15 hs15 h15 hd1 hd2 => ?_⟩
          walk_at "go"
          refine g_lenT (tupT h15) ?_
          rw [show (vI dear).length = dear.length by simp]
          walk_at "go"
          refine g_tr (n := dear.length) rfl (by omega) fun at_ H16 hat hs16 h16 => ?_
          walk_at "go"
          refine g_told .halves dear (List.range dear.length) rfl (hs16 _ _ h15) h16 (fun j hj => List.mem_range.mp hj) (by omega) (by simp; omega) fun H17 hs17 => ?_
          walk_at "go"
          refine g_lenT (tupT (hs17 _ _ (hs16 _ _ h15))) ?_
          rw [show (vI dear).length = dear.length by simp]
          walk_at "go"
          refine g_bound .halves dear.length rfl rfl (by omega) ?_
          walk_at "go"
          have hle : toldN .halves dear (List.range dear.length) ≤ boundN .halves dear.length := Nat.mul_le_mul_left _ (RC.rows_bound (by unfold row0; simp))
          refine ifd (fun z => by omega) (fun _ => ?_)
          walk_at "go"
          have hcE : Chg (· = f) H1 H17 := (((hc13.trans hc14).same hs15).same hs16).same hs17
          refine ⟨fun b o hb => hcE.get (hs1 _ _ (hs0 _ _ hb)) fun z => (by rw [z, hf0] at hb; cases hb), _, _, _, _, _, _, _, _, _, _, _, rfl⟩
    · rintro σ H' ⟨hs', v1, v2, v3, v4, v5, v6, v7, v8, v9, v10, v11, rfl⟩
      walk_at "go"
      exact q _
end
end G

namespace G
open PySem PySem.Spec PyProof.Rows L2
/-! ### the head: facts by names, the run -/
def d_stop_of : He.DefD := ⟨("stop_of", none), "stop_of", "stop_of", defArgs s_stop_of, defBody s_stop_of, defScope s_stop_of, [], []⟩
def d_round_letters : He.DefD := ⟨("round_letters", none), "round_letters", "round_letters", defArgs s_round_letters, defBody s_round_letters, defScope s_round_letters, [], []⟩
def d_next_row : He.DefD := ⟨("next_row", none), "next_row", "next_row", defArgs s_next_row, defBody s_next_row, defScope s_next_row, [], []⟩
def d_phases : He.DefD := ⟨("phases", none), "phases", "phases", defArgs s_phases, defBody s_phases, defScope s_phases, [], []⟩
def d_side_letters : He.DefD := ⟨("side_letters", none), "side_letters", "side_letters", defArgs s_side_letters, defBody s_side_letters, defScope s_side_letters, [], []⟩
def d_reach_letters : He.DefD := ⟨("reach_letters", none), "reach_letters", "reach_letters", defArgs s_reach_letters, defBody s_reach_letters, defScope s_reach_letters, [], []⟩
def d_told_letters : He.DefD := ⟨("told_letters", none), "told_letters", "told_letters", defArgs s_told_letters, defBody s_told_letters, defScope s_told_letters, [], []⟩
def d_halvings : He.DefD := ⟨("halvings", none), "halvings", "halvings", defArgs s_halvings, defBody s_halvings, defScope s_halvings, [], []⟩
def d_reach_bound : He.DefD := ⟨("reach_bound", none), "reach_bound", "reach_bound", defArgs s_reach_bound, defBody s_reach_bound, defScope s_reach_bound, [], []⟩
def d_bound : He.DefD := ⟨("bound", none), "bound", "bound", defArgs s_bound, defBody s_bound, defScope s_bound, [], []⟩
def d_law_hand : He.DefD := ⟨("_law_hand", none), "_law_hand", "_law_hand", defArgs s_law_hand, defBody s_law_hand, defScope s_law_hand, [], []⟩
def d_law_take : He.DefD := ⟨("_law_take", none), "_law_take", "_law_take", defArgs s_law_take, defBody s_law_take, defScope s_law_take, [], []⟩
def d_law_order : He.DefD := ⟨("_law_order", none), "_law_order", "_law_order", defArgs s_law_order, defBody s_law_order, defScope s_law_order, [], []⟩
def d_law_ring : He.DefD := ⟨("_law_ring", none), "_law_ring", "_law_ring", defArgs s_law_ring, defBody s_law_ring, defScope s_law_ring, [], []⟩
def d_law_some : He.DefD := ⟨("_law_some", none), "_law_some", "_law_some", defArgs s_law_some, defBody s_law_some, defScope s_law_some, [], []⟩
def d_law_size : He.DefD := ⟨("_law_size", none), "_law_size", "_law_size", defArgs s_law_size, defBody s_law_size, defScope s_law_size, [], []⟩
def d_law_word : He.DefD := ⟨("_law_word", none), "_law_word", "_law_word", defArgs s_law_word, defBody s_law_word, defScope s_law_word, [], []⟩
def d_law_bound : He.DefD := ⟨("_law_bound", none), "_law_bound", "_law_bound", defArgs s_law_bound, defBody s_law_bound, defScope s_law_bound, [], []⟩
def d_law_is : He.DefD := ⟨("_law_is", none), "_law_is", "_law_is", defArgs s_law_is, defBody s_law_is, defScope s_law_is, [], []⟩
def d_law_from_behind : He.DefD := ⟨("_law_from_behind", none), "_law_from_behind", "_law_from_behind", defArgs s_law_from_behind, defBody s_law_from_behind, defScope s_law_from_behind, [], []⟩
def d_law : He.DefD := ⟨("law", none), "law", "law", defArgs s_law, defBody s_law, defScope s_law, [], []⟩
def dfs : List He.DefD := [d_stop_of, d_round_letters, d_next_row, d_phases, d_side_letters, d_reach_letters, d_told_letters, d_halvings, d_reach_bound, d_bound, d_law_hand, d_law_take, d_law_order, d_law_ring, d_law_some, d_law_size, d_law_word, d_law_bound, d_law_is, d_law_from_behind, d_law]
def fas : List He.Fa := [.glo "stop_of",
  .glo "round_letters",
  .glo "next_row",
  .glo "phases",
  .glo "side_letters",
  .glo "reach_letters",
  .glo "told_letters",
  .glo "halvings",
  .glo "reach_bound",
  .glo "bound",
  .glo "_law_hand",
  .glo "_law_take",
  .glo "_law_order",
  .glo "_law_ring",
  .glo "_law_some",
  .glo "_law_size",
  .glo "_law_word",
  .glo "_law_bound",
  .glo "_law_is",
  .glo "_law_from_behind",
  .glo "law",
  .free "len",
  .free "range",
  .free "sum",
  .free "enumerate",
  .free "tuple",
  .free "int",
  .free "isinstance",
  .free "bool",
  .free "max",
  .free "min",
  .free "sorted",
  .int "LEFT" (-1),
  .int "RIGHT" (1)]
def exs (K : PySem.W.Frag) : List Bool := []
def ex (K : PySem.W.Frag) : Bool := (exs K).all id
def names0 : List PySem.Str := ["__name__", "stop_of", "LEFT", "RIGHT", "round_letters", "next_row", "phases", "side_letters", "reach_letters", "told_letters", "halvings", "reach_bound", "bound", "_law_hand", "_law_take", "_law_order", "_law_ring", "_law_some", "_law_size", "_law_word", "_law_bound", "_law_is", "_law_from_behind"]
def names : List PySem.Str := names0
abbrev R : PySem.W.OpenRow := PySem.W.OpenLaw.row PySem.Challenge.rw_ringchief_k39_bounds
abbrev hk : PySem.W.Hook := He.hookX 6 fas dfs [] [] ex
def ob (s : PySem.W.SharedT) : He.AlX := He.obsX 6 fas dfs [] [] ex (HandSHeadRun.getT s)
theorem ob_eq (s : PySem.W.SharedT) : ob s = hk.obs s.abs := He.obsX_eq (HandSHeadRun.getT_eq s)
set_option maxHeartbeats 0 in
theorem run (w : World) : HandSHeadRun.RunEq R (PySem.W.view R.prog [25]) hk ob 900 names w := by
  intro os
  kernel_rfl
theorem fun_of {K : PySem.W.Frag} {d : He.DefD} {st : Stmt} {fd : FuncData} (h : FunD K d.name d.qual d.params d.body d.scope (d.dvs K) (d.kws K) (He.fAd K d.at_) fd) (h1 : d.dfl = []) (e1 : d.params = defArgs st) (e2 : d.body = defBody st) (e3 : d.scope = defScope st) : fd = fdAt K d.at_ ∧ Fun K d.name d.qual st (He.fAd K d.at_) fd := by
  obtain ⟨oc, od, dV, kV, doc, pm, an, cdv, ct, osl, hfd, lk, hcd, hD, _⟩ := h.ex
  have hv : dV = .none := by
    rcases hD with ⟨_, z⟩ | ⟨z, _⟩
    · exact z
    · exact absurd (show d.dvs K = [] by unfold He.DefD.dvs; rw [h1]; rfl) z
  subst hv
  rw [e1, e2, e3] at hfd
  refine ⟨?_, ⟨⟨oc, od, kV, doc, pm, an, cdv, ct, osl, hfd, lk, hcd⟩, h.kp⟩⟩
  unfold fdAt
  rw [lk]
theorem fun_at {K : PySem.W.Frag} {d : He.DefD} {st : Stmt} (c : He.SaysD fas dfs K) (hd : d ∈ dfs) (h1 : d.dfl = []) (e1 : d.params = defArgs st) (e2 : d.body = defBody st) (e3 : d.scope = defScope st) : Fun K d.name d.qual st (He.fAd K d.at_) (fdAt K d.at_) := by
  obtain ⟨fd, h⟩ := c.defs hd
  obtain ⟨z, F⟩ := fun_of h h1 e1 e2 e3
  rw [← z]
  exact F
theorem ex_at {K : PySem.W.Frag} (h : ex K = true) (i : Nat) {b : Bool} (e : (exs K)[i]? = some b) : b = true := List.all_eq_true.mp h b (List.mem_of_getElem? e)
set_option maxHeartbeats 0 in
theorem txt_of {K : PySem.W.Frag} {h : Heap} {mg : Str → Option Value} {w : World} (X : K.In h) (G : h.Ns mainGlobals mg) (c : He.SaysX fas dfs [] [] ex w h K) : Txt K mg := by
  have cd : He.SaysD fas dfs K := congrArg (fun z : He.AlT => z.1) c.t
  have F_stop_of : Fun K "stop_of" "stop_of" s_stop_of (He.ga K "stop_of") (fd_stop_of K) := fun_at (d := d_stop_of) (st := s_stop_of) cd (List.mem_of_getElem? (i := 0) rfl) rfl rfl rfl rfl
  have F_round_letters : Fun K "round_letters" "round_letters" s_round_letters (He.ga K "round_letters") (fd_round_letters K) := fun_at (d := d_round_letters) (st := s_round_letters) cd (List.mem_of_getElem? (i := 1) rfl) rfl rfl rfl rfl
  have F_next_row : Fun K "next_row" "next_row" s_next_row (He.ga K "next_row") (fd_next_row K) := fun_at (d := d_next_row) (st := s_next_row) cd (List.mem_of_getElem? (i := 2) rfl) rfl rfl rfl rfl
  have F_phases : Fun K "phases" "phases" s_phases (He.ga K "phases") (fd_phases K) := fun_at (d := d_phases) (st := s_phases) cd (List.mem_of_getElem? (i := 3) rfl) rfl rfl rfl rfl
  have F_side_letters : Fun K "side_letters" "side_letters" s_side_letters (He.ga K "side_letters") (fd_side_letters K) := fun_at (d := d_side_letters) (st := s_side_letters) cd (List.mem_of_getElem? (i := 4) rfl) rfl rfl rfl rfl
  have F_reach_letters : Fun K "reach_letters" "reach_letters" s_reach_letters (He.ga K "reach_letters") (fd_reach_letters K) := fun_at (d := d_reach_letters) (st := s_reach_letters) cd (List.mem_of_getElem? (i := 5) rfl) rfl rfl rfl rfl
  have F_told_letters : Fun K "told_letters" "told_letters" s_told_letters (He.ga K "told_letters") (fd_told_letters K) := fun_at (d := d_told_letters) (st := s_told_letters) cd (List.mem_of_getElem? (i := 6) rfl) rfl rfl rfl rfl
  have F_halvings : Fun K "halvings" "halvings" s_halvings (He.ga K "halvings") (fd_halvings K) := fun_at (d := d_halvings) (st := s_halvings) cd (List.mem_of_getElem? (i := 7) rfl) rfl rfl rfl rfl
  have F_reach_bound : Fun K "reach_bound" "reach_bound" s_reach_bound (He.ga K "reach_bound") (fd_reach_bound K) := fun_at (d := d_reach_bound) (st := s_reach_bound) cd (List.mem_of_getElem? (i := 8) rfl) rfl rfl rfl rfl
  have F_bound : Fun K "bound" "bound" s_bound (He.ga K "bound") (fd_bound K) := fun_at (d := d_bound) (st := s_bound) cd (List.mem_of_getElem? (i := 9) rfl) rfl rfl rfl rfl
  have F_law_hand : Fun K "_law_hand" "_law_hand" s_law_hand (He.ga K "_law_hand") (fd_law_hand K) := fun_at (d := d_law_hand) (st := s_law_hand) cd (List.mem_of_getElem? (i := 10) rfl) rfl rfl rfl rfl
  have F_law_take : Fun K "_law_take" "_law_take" s_law_take (He.ga K "_law_take") (fd_law_take K) := fun_at (d := d_law_take) (st := s_law_take) cd (List.mem_of_getElem? (i := 11) rfl) rfl rfl rfl rfl
  have F_law_order : Fun K "_law_order" "_law_order" s_law_order (He.ga K "_law_order") (fd_law_order K) := fun_at (d := d_law_order) (st := s_law_order) cd (List.mem_of_getElem? (i := 12) rfl) rfl rfl rfl rfl
  have F_law_ring : Fun K "_law_ring" "_law_ring" s_law_ring (He.ga K "_law_ring") (fd_law_ring K) := fun_at (d := d_law_ring) (st := s_law_ring) cd (List.mem_of_getElem? (i := 13) rfl) rfl rfl rfl rfl
  have F_law_some : Fun K "_law_some" "_law_some" s_law_some (He.ga K "_law_some") (fd_law_some K) := fun_at (d := d_law_some) (st := s_law_some) cd (List.mem_of_getElem? (i := 14) rfl) rfl rfl rfl rfl
  have F_law_size : Fun K "_law_size" "_law_size" s_law_size (He.ga K "_law_size") (fd_law_size K) := fun_at (d := d_law_size) (st := s_law_size) cd (List.mem_of_getElem? (i := 15) rfl) rfl rfl rfl rfl
  have F_law_word : Fun K "_law_word" "_law_word" s_law_word (He.ga K "_law_word") (fd_law_word K) := fun_at (d := d_law_word) (st := s_law_word) cd (List.mem_of_getElem? (i := 16) rfl) rfl rfl rfl rfl
  have F_law_bound : Fun K "_law_bound" "_law_bound" s_law_bound (He.ga K "_law_bound") (fd_law_bound K) := fun_at (d := d_law_bound) (st := s_law_bound) cd (List.mem_of_getElem? (i := 17) rfl) rfl rfl rfl rfl
  have F_law_is : Fun K "_law_is" "_law_is" s_law_is (He.ga K "_law_is") (fd_law_is K) := fun_at (d := d_law_is) (st := s_law_is) cd (List.mem_of_getElem? (i := 18) rfl) rfl rfl rfl rfl
  have F_law_from_behind : Fun K "_law_from_behind" "_law_from_behind" s_law_from_behind (He.ga K "_law_from_behind") (fd_law_from_behind K) := fun_at (d := d_law_from_behind) (st := s_law_from_behind) cd (List.mem_of_getElem? (i := 19) rfl) rfl rfl rfl rfl
  have F_law : Fun K "law" "law" s_law (He.ga K "law") (fd_law K) := fun_at (d := d_law) (st := s_law) cd (List.mem_of_getElem? (i := 20) rfl) rfl rfl rfl rfl
  exact {
    F_stop_of := F_stop_of
    F_round_letters := F_round_letters
    F_next_row := F_next_row
    F_phases := F_phases
    F_side_letters := F_side_letters
    F_reach_letters := F_reach_letters
    F_told_letters := F_told_letters
    F_halvings := F_halvings
    F_reach_bound := F_reach_bound
    F_bound := F_bound
    F_law_hand := F_law_hand
    F_law_take := F_law_take
    F_law_order := F_law_order
    F_law_ring := F_law_ring
    F_law_some := F_law_some
    F_law_size := F_law_size
    F_law_word := F_law_word
    F_law_bound := F_law_bound
    F_law_is := F_law_is
    F_law_from_behind := F_law_from_behind
    F_law := F_law
    m_stop_of := He.glo_ok X G (x := "stop_of") (cd.fact 0 rfl)
    m_round_letters := He.glo_ok X G (x := "round_letters") (cd.fact 1 rfl)
    m_next_row := He.glo_ok X G (x := "next_row") (cd.fact 2 rfl)
    m_phases := He.glo_ok X G (x := "phases") (cd.fact 3 rfl)
    m_side_letters := He.glo_ok X G (x := "side_letters") (cd.fact 4 rfl)
    m_reach_letters := He.glo_ok X G (x := "reach_letters") (cd.fact 5 rfl)
    m_told_letters := He.glo_ok X G (x := "told_letters") (cd.fact 6 rfl)
    m_halvings := He.glo_ok X G (x := "halvings") (cd.fact 7 rfl)
    m_reach_bound := He.glo_ok X G (x := "reach_bound") (cd.fact 8 rfl)
    m_bound := He.glo_ok X G (x := "bound") (cd.fact 9 rfl)
    m_law_hand := He.glo_ok X G (x := "_law_hand") (cd.fact 10 rfl)
    m_law_take := He.glo_ok X G (x := "_law_take") (cd.fact 11 rfl)
    m_law_order := He.glo_ok X G (x := "_law_order") (cd.fact 12 rfl)
    m_law_ring := He.glo_ok X G (x := "_law_ring") (cd.fact 13 rfl)
    m_law_some := He.glo_ok X G (x := "_law_some") (cd.fact 14 rfl)
    m_law_size := He.glo_ok X G (x := "_law_size") (cd.fact 15 rfl)
    m_law_word := He.glo_ok X G (x := "_law_word") (cd.fact 16 rfl)
    m_law_bound := He.glo_ok X G (x := "_law_bound") (cd.fact 17 rfl)
    m_law_is := He.glo_ok X G (x := "_law_is") (cd.fact 18 rfl)
    m_law_from_behind := He.glo_ok X G (x := "_law_from_behind") (cd.fact 19 rfl)
    m_law := He.glo_ok X G (x := "law") (cd.fact 20 rfl)
    n_len := He.free_ok X G (x := "len") (cd.fact 21 rfl)
    n_range := He.free_ok X G (x := "range") (cd.fact 22 rfl)
    n_sum := He.free_ok X G (x := "sum") (cd.fact 23 rfl)
    n_enumerate := He.free_ok X G (x := "enumerate") (cd.fact 24 rfl)
    n_tuple := He.free_ok X G (x := "tuple") (cd.fact 25 rfl)
    n_int := He.free_ok X G (x := "int") (cd.fact 26 rfl)
    n_isinstance := He.free_ok X G (x := "isinstance") (cd.fact 27 rfl)
    n_bool := He.free_ok X G (x := "bool") (cd.fact 28 rfl)
    n_max := He.free_ok X G (x := "max") (cd.fact 29 rfl)
    n_min := He.free_ok X G (x := "min") (cd.fact 30 rfl)
    n_sorted := He.free_ok X G (x := "sorted") (cd.fact 31 rfl)
    g_LEFT := He.int_ok X G (cd.fact 32 rfl)
    g_RIGHT := He.int_ok X G (cd.fact 33 rfl)
    k_stop_of := F_stop_of.kp
    b_stop_of := F_stop_of.binds (ps := ["ring", "some", "house", "side"]) fun _ _ _ _ _ _ us hl => match us, hl with | [_, _, _, _], _ => rfl
    k_round_letters := F_round_letters.kp
    b_round_letters := F_round_letters.binds (ps := ["ring", "some"]) fun _ _ _ _ _ _ us hl => match us, hl with | [_, _], _ => rfl
    k_next_row := F_next_row.kp
    b_next_row := F_next_row.binds (ps := ["row"]) fun _ _ _ _ _ _ us hl => match us, hl with | [_], _ => rfl
    k_phases := F_phases.kp
    b_phases := F_phases.binds (ps := ["ring", "some"]) fun _ _ _ _ _ _ us hl => match us, hl with | [_, _], _ => rfl
    k_side_letters := F_side_letters.kp
    b_side_letters := F_side_letters.binds (ps := ["reach", "stop"]) fun _ _ _ _ _ _ us hl => match us, hl with | [_, _], _ => rfl
    k_reach_letters := F_reach_letters.kp
    b_reach_letters := F_reach_letters.binds (ps := ["left", "right"]) fun _ _ _ _ _ _ us hl => match us, hl with | [_, _], _ => rfl
    k_told_letters := F_told_letters.kp
    b_told_letters := F_told_letters.binds (ps := ["way", "ring", "some"]) fun _ _ _ _ _ _ us hl => match us, hl with | [_, _, _], _ => rfl
    k_halvings := F_halvings.kp
    b_halvings := F_halvings.binds (ps := ["many"]) fun _ _ _ _ _ _ us hl => match us, hl with | [_], _ => rfl
    k_reach_bound := F_reach_bound.kp
    b_reach_bound := F_reach_bound.binds (ps := ["many"]) fun _ _ _ _ _ _ us hl => match us, hl with | [_], _ => rfl
    k_bound := F_bound.kp
    b_bound := F_bound.binds (ps := ["way", "many"]) fun _ _ _ _ _ _ us hl => match us, hl with | [_, _], _ => rfl
    k_law_hand := F_law_hand.kp
    b_law_hand := F_law_hand.binds (ps := ["_law_script", "_law_k"]) fun _ _ _ _ _ _ us hl => match us, hl with | [_, _], _ => rfl
    k_law_take := F_law_take.kp
    b_law_take := F_law_take.binds (ps := ["_law_from", "_law_many"]) fun _ _ _ _ _ _ us hl => match us, hl with | [_, _], _ => rfl
    k_law_order := F_law_order.kp
    b_law_order := F_law_order.binds (ps := ["_law_from", "_law_many"]) fun _ _ _ _ _ _ us hl => match us, hl with | [_, _], _ => rfl
    k_law_ring := F_law_ring.kp
    b_law_ring := F_law_ring.binds (ps := ["_law_from", "_law_many"]) fun _ _ _ _ _ _ us hl => match us, hl with | [_, _], _ => rfl
    k_law_some := F_law_some.kp
    b_law_some := F_law_some.binds (ps := ["_law_from", "_law_many"]) fun _ _ _ _ _ _ us hl => match us, hl with | [_, _], _ => rfl
    k_law_size := F_law_size.kp
    b_law_size := F_law_size.binds (ps := ["_law_from"]) fun _ _ _ _ _ _ us hl => match us, hl with | [_], _ => rfl
    k_law_word := F_law_word.kp
    b_law_word := F_law_word.binds (ps := ["_law_from", "_law_many"]) fun _ _ _ _ _ _ us hl => match us, hl with | [_, _], _ => rfl
    k_law_bound := F_law_bound.kp
    b_law_bound := F_law_bound.binds (ps := ["_law_way", "_law_many"]) fun _ _ _ _ _ _ us hl => match us, hl with | [_, _], _ => rfl
    k_law_is := F_law_is.kp
    b_law_is := F_law_is.binds (ps := ["_law_found", "_law_due"]) fun _ _ _ _ _ _ us hl => match us, hl with | [_, _], _ => rfl
    k_law_from_behind := F_law_from_behind.kp
    b_law_from_behind := F_law_from_behind.binds (ps := ["_law_power"]) fun _ _ _ _ _ _ us hl => match us, hl with | [_], _ => rfl
    k_law := F_law.kp
    b_law := F_law.binds (ps := ["_law_script"]) fun _ _ _ _ _ _ us hl => match us, hl with | [_], _ => rfl }
end G
open PySem PySem.W PySem.Calls PyProof.Rows
set_option maxRecDepth 100000 in
set_option maxHeartbeats 0 in
theorem PySem.Challenge.cw_ringchief_k39_bounds_holds : PySem.Challenge.rw_ringchief_k39_bounds.Holds := by
  w_on; o_law
  refine HandSHeadRun.head_any (r := OpenLaw.row PySem.Challenge.rw_ringchief_k39_bounds) (q := view (OpenLaw.row PySem.Challenge.rw_ringchief_k39_bounds).prog [25]) (H := G.hk) (ob := G.ob) (M := 900) (loose := G.names) (d := HandSHeadRun.topDef (OpenLaw.row PySem.Challenge.rw_ringchief_k39_bounds).prog 25) (kwd := []) G.ob_eq
    (by kernel_rfl) (fun s => by kernel_rfl) G.run (by kernel_rfl) (by kernel_rfl) (by kernel_rfl) (by rfl) (by first | assumption | decide +kernel) (by decide +kernel) ⟨rfl, rfl, rfl, rfl, rfl, by decide +kernel⟩ ?hw ?hc
  case hw => w_witness2
  case hc =>
    refine L2.walk_ofE (l := PySem.Challenge.rw_ringchief_k39_bounds) (n := 63) (k := 4) (x := "_law_script") (CX := L2.CX0) rfl (by decide) (by kernel_rfl) ⟨rfl, by decide, by decide⟩ ?F (fun _ _ _ _ z => z)
    intro w mg fa h Y GN hmg0
    obtain ⟨K, KX, c⟩ := Y
    have hmg : mg ("law" : PySem.Str) = some (.ref fa) := by
      have e : (HandSHeadRun.topDef (OpenLaw.row PySem.Challenge.rw_ringchief_k39_bounds).prog 25).name = ("law" : PySem.Str) := by kernel_rfl
      rw [← e]
      exact hmg0
    have T : G.Txt K mg := G.txt_of KX GN c
    have e := hmg.symm.trans T.m_law
    cases e
    have hb : ∀ (s : Shared) (u : Value), BindsTo s (G.fd_law K) ⟨[u], []⟩ [("_law_script", u)] := by
      intro s u
      obtain ⟨oc, od, kV, doc, pm, an, cdv, ct, osl, hfd, lk, hcd⟩ := T.F_law.ex
      rw [hfd]
      exact .of_eq rfl
    exact ⟨K, G.fd_law K, G.spLaw K, KX, hb, fun H a ns hl _ hS => ⟨a, ns, rfl, hS, hl, fun _ => rfl⟩, fun base _ _ => G.ok_law T⟩

