import PyProof.Rows.All
import Wide.All
import OpenK.AllK
import Wide.FinOn
import Open.SpecLaws
import KE.OsGo
import HandS.ForSpec
import HandS.Comp
import HandS.Iter
import HandS.Walk
import HandS.Conv
import PyFlatLaws
import PySem.Challenge.RW_coveredstock_s01_answers
set_option Elab.async false
set_option linter.all false
set_option maxRecDepth 100000
set_option maxHeartbeats 4000000
namespace Ma
open Km549

/-! ### sums and the k greatest -/
theorem foldl_add : ∀ (l : List Nat) (a : Nat), l.foldl (fun (a b : Nat) => a + b) a = a + l.sum
  | [], a => by simp
  | x :: r, a => by
    rw [List.foldl_cons, foldl_add r, List.sum_cons]
    omega
theorem sum_eq (l : List Nat) : Km549.sum l = l.sum := by
  show l.foldl (fun (a b : Nat) => a + b) 0 = l.sum
  rw [foldl_add, Nat.zero_add]
theorem insD_perm (x : Nat) : ∀ l : List Nat, (insertDecreasing x l).Perm (x :: l)
  | [] => List.Perm.refl _
  | y :: r => by
    show (if y < x then x :: y :: r else y :: insertDecreasing x r).Perm (x :: y :: r)
    split
    · exact List.Perm.refl _
    · exact ((insD_perm x r).cons y).trans (List.Perm.swap x y r)
theorem insD_mem {x : Nat} {l : List Nat} {z : Nat} (h : z ∈ insertDecreasing x l) : z = x ∨ z ∈ l := by
  have := (insD_perm x l).mem_iff.mp h
  simpa using this
theorem insD_sorted (x : Nat) : ∀ l : List Nat, l.Pairwise (· ≥ ·) → (insertDecreasing x l).Pairwise (· ≥ ·)
  | [], _ => by
    show [x].Pairwise (· ≥ ·)
    simp
  | y :: r, h => by
    show (if y < x then x :: y :: r else y :: insertDecreasing x r).Pairwise (· ≥ ·)
    obtain ⟨h1, h2⟩ := List.pairwise_cons.mp h
    split
    · rename_i hlt
      refine List.pairwise_cons.mpr ⟨fun z hz => ?_, h⟩
      rcases List.mem_cons.mp hz with rfl | hz
      · exact Nat.le_of_lt hlt
      · have := h1 z hz
        omega
    · rename_i hge
      refine List.pairwise_cons.mpr ⟨fun z hz => ?_, insD_sorted x r h2⟩
      rcases insD_mem hz with rfl | hz
      · omega
      · exact h1 z hz
def desc (l : List Nat) : List Nat := l.foldl (fun (sorted : List Nat) (x : Nat) => insertDecreasing x sorted) []
theorem desc_go : ∀ (l acc : List Nat), acc.Pairwise (· ≥ ·) →
    (l.foldl (fun (sorted : List Nat) (x : Nat) => insertDecreasing x sorted) acc).Perm (l ++ acc) ∧ (l.foldl (fun (sorted : List Nat) (x : Nat) => insertDecreasing x sorted) acc).Pairwise (· ≥ ·)
  | [], acc, h => ⟨List.Perm.refl _, h⟩
  | x :: r, acc, h => by
    rw [List.foldl_cons]
    obtain ⟨h1, h2⟩ := desc_go r (insertDecreasing x acc) (insD_sorted x acc h)
    refine ⟨h1.trans ?_, h2⟩
    refine ((insD_perm x acc).append_left r).trans ?_
    exact List.perm_middle
theorem desc_perm (l : List Nat) : (desc l).Perm l := by
  have := (desc_go l [] (by simp)).1
  rw [List.append_nil] at this
  exact this
theorem desc_sorted (l : List Nat) : (desc l).Pairwise (· ≥ ·) := (desc_go l [] (by simp)).2
theorem perm_sum : ∀ {l m : List Nat}, l.Perm m → l.sum = m.sum := fun h => by
  induction h with
  | nil => rfl
  | cons x _ ih => rw [List.sum_cons, List.sum_cons, ih]
  | swap x y l => simp only [List.sum_cons]; omega
  | trans _ _ a b => exact a.trans b
theorem sum_take_drop (l : List Nat) (k : Nat) : (l.take k).sum + (l.drop k).sum = l.sum := by
  rw [← List.sum_append, List.take_append_drop]
theorem greatest_eq (k : Nat) (l : List Nat) : sumOfGreatest k l = ((desc l).take k).sum := by
  show Km549.sum ((desc l).take k) = _
  rw [sum_eq]
theorem greatest_le (k : Nat) (l : List Nat) : sumOfGreatest k l ≤ Km549.sum l := by
  rw [greatest_eq, sum_eq, ← perm_sum (desc_perm l), ← sum_take_drop (desc l) k]
  omega
theorem greatest_mono (k : Nat) (l : List Nat) : sumOfGreatest k l ≤ sumOfGreatest (k + 1) l := by
  rw [greatest_eq, greatest_eq, List.take_add_one, List.sum_append]
  omega
theorem greatest_mono' {j k : Nat} (l : List Nat) (h : j ≤ k) : sumOfGreatest j l ≤ sumOfGreatest k l := by
  induction k with
  | zero =>
    have : j = 0 := by omega
    subst this
    exact Nat.le_refl _
  | succ k ih =>
    by_cases e : j = k + 1
    · subst e
      exact Nat.le_refl _
    · exact Nat.le_trans (ih (by omega)) (greatest_mono k l)
/-- whole numbers of naturals -/
def nInts (l : List Nat) : List Int := l.map fun x : Nat => (x : Int)
theorem ints_toInts (l : List Nat) : toInts l = nInts l := rfl
theorem ints_sum : ∀ l : List Nat, (nInts l).sum = (l.sum : Nat)
  | [] => rfl
  | x :: r => by
    show ((x : Int) :: nInts r).sum = _
    rw [List.sum_cons, List.sum_cons, ints_sum r]
    omega
theorem ints_length (l : List Nat) : (nInts l).length = l.length := List.length_map ..
theorem sorted_unique : ∀ {l m : List Int}, l.Perm m → l.Pairwise (· ≤ ·) → m.Pairwise (· ≤ ·) → l = m
  | [], m, h, _, _ => by
    have := h.length_eq
    cases m with
    | nil => rfl
    | cons => simp at this
  | x :: r, [], h, _, _ => by
    have := h.length_eq
    simp at this
  | x :: r, y :: s, h, hl, hm => by
    obtain ⟨h1, h2⟩ := List.pairwise_cons.mp hl
    obtain ⟨g1, g2⟩ := List.pairwise_cons.mp hm
    have e : x = y := by
      have a : x ∈ y :: s := h.mem_iff.mp (by simp)
      have b : y ∈ x :: r := h.mem_iff.mpr (by simp)
      have ay : y ≤ x := by
        rcases List.mem_cons.mp a with q | q
        · omega
        · exact g1 x q
      have bx : x ≤ y := by
        rcases List.mem_cons.mp b with q | q
        · omega
        · exact h1 y q
      omega
    subst e
    rw [sorted_unique ((List.perm_cons x).mp h) h2 g2]
/-- what is left of the sorted amounts without the k greatest -/
theorem least_sum {l : List Nat} {ns : List Int} (hp : ns.Perm (nInts l)) (hs : ns.Pairwise (· ≤ ·)) (k : Nat) :
    (ns.take (l.length - k)).sum = ((Km549.sum l - sumOfGreatest k l : Nat) : Int) := by
  have e : ns = nInts (desc l).reverse := by
    refine sorted_unique (hp.trans ?_) hs ?_
    · exact ((desc_perm l).symm.trans (List.reverse_perm _).symm).map _
    · show (((desc l).reverse).map fun x : Nat => (x : Int)).Pairwise (· ≤ ·)
      rw [List.pairwise_map, List.pairwise_reverse]
      exact (desc_sorted l).imp fun h => by omega
  have hl : (desc l).length = l.length := (desc_perm l).length_eq
  have e2 : ns.take (l.length - k) = nInts ((desc l).drop (l.length - (l.length - k))).reverse := by
    rw [e]
    show (((desc l).reverse).map _).take _ = _
    rw [← List.map_take, List.take_reverse, hl]
    rfl
  rw [e2, ints_sum]
  have e3 : ((desc l).drop (l.length - (l.length - k))).reverse.sum = Km549.sum l - sumOfGreatest k l := by
    rw [perm_sum (List.reverse_perm _), greatest_eq, sum_eq, ← perm_sum (desc_perm l), ← sum_take_drop (desc l) k]
    by_cases c : k ≤ l.length
    · rw [show l.length - (l.length - k) = k by omega]
      omega
    · rw [show l.length - (l.length - k) = l.length by omega, List.drop_of_length_le (by omega), List.drop_of_length_le (by omega)]
      simp
  rw [e3]

/-! ### days -/
theorem filter_range (a : Nat) : ∀ n, (List.range n).filter (fun u => decide (a ≤ u)) = List.range' a (n - a)
  | 0 => by simp
  | n + 1 => by
    rw [List.range_succ, List.filter_append, filter_range a n]
    by_cases c : a ≤ n
    · rw [show n + 1 - a = (n - a) + 1 by omega, List.range'_concat]
      simp [c]
    · rw [show n + 1 - a = 0 by omega, show n - a = 0 by omega]
      simp [c]
theorem daysFrom_eq (pl : Planner) {d : Nat} (h : pl.today ≤ d) : daysFrom pl d = List.range' d (31 - d) := by
  show (List.range 31).filter _ = _
  rw [← filter_range d 31]
  refine List.filter_congr fun u _ => ?_
  refine decide_eq_decide.mpr ⟨fun h => h.1, fun q => ⟨q, by omega⟩⟩
/-- the first day with a shortage -/
def shortDay (pl : Planner) (k : Nat) : Option Nat := (daysFrom pl pl.today).find? fun d => decide (surplus pl k d < 0)
theorem findSome_find {α β : Type} (p : α → Prop) [DecidablePred p] (f : α → β) : ∀ l : List α, (l.findSome? fun x => if p x then some (f x) else none) = (l.find? fun x => decide (p x)).map f
  | [] => rfl
  | x :: r => by
    rw [List.findSome?_cons, List.find?_cons]
    by_cases c : p x
    · simp [c]
    · simp [c, findSome_find p f r]
theorem firstShortage_eq (pl : Planner) (k : Nat) : firstShortage pl k = (shortDay pl k).map fun d => (d, -surplus pl k d) :=
  findSome_find (fun d => surplus pl k d < 0) (fun d => (d, -surplus pl k d)) _
theorem isCovered_eq (pl : Planner) (k : Nat) : isCovered pl k = (shortDay pl k).isNone := by
  unfold isCovered shortDay
  induction daysFrom pl pl.today with
  | nil => rfl
  | cons d r ih =>
    rw [List.all_cons, List.find?_cons]
    by_cases c : surplus pl k d < 0
    · have : ¬ 0 ≤ surplus pl k d := by omega
      simp [c, this]
    · have : 0 ≤ surplus pl k d := by omega
      simp [c, this, ih]
/-- safe, by the day on which it is due -/
def safeBy (pl : Planner) (k due : Nat) : Bool := match shortDay pl k with
  | none => true
  | some d => decide (due < d)
theorem find_mem_range' {p : Nat → Bool} : ∀ {n a d : Nat}, (List.range' a n).find? p = some d → a ≤ d ∧ d < a + n ∧ p d = true ∧ ∀ j, a ≤ j → j < d → p j = false
  | 0, a, d, h => by simp at h
  | n + 1, a, d, h => by
    rw [List.range'_succ, List.find?_cons] at h
    cases c : p a with
    | true =>
      rw [c] at h
      have e : a = d := Option.some.inj h
      subst e
      exact ⟨Nat.le_refl _, by omega, c, fun j _ _ => by omega⟩
    | false =>
      rw [c] at h
      obtain ⟨h1, h2, h3, h4⟩ := find_mem_range' (p := p) h
      refine ⟨by omega, by omega, h3, fun j h5 h6 => ?_⟩
      by_cases e : j = a
      · rw [e]; exact c
      · exact h4 j (by omega) h6
theorem find_none_range' {p : Nat → Bool} {n a : Nat} (h : (List.range' a n).find? p = none) : ∀ j, a ≤ j → j < a + n → p j = false := fun j h1 h2 => by
  have := List.find?_eq_none.mp h j (by rw [List.mem_range'_1]; omega)
  simpa using this
theorem find_at {p : Nat → Bool} : ∀ {n a i : Nat}, i < n → (∀ j, j < i → p (a + j) = false) → p (a + i) = true → (List.range' a n).find? p = some (a + i)
  | 0, a, i, h, _, _ => by omega
  | n + 1, a, 0, h, h1, h2 => by
    rw [List.range'_succ, List.find?_cons]
    have : p a = true := h2
    rw [this]
    rfl
  | n + 1, a, i + 1, h, h1, h2 => by
    rw [List.range'_succ, List.find?_cons]
    have c : p a = false := h1 0 (by omega)
    rw [c]
    have e : a + (i + 1) = (a + 1) + i := by omega
    rw [e]
    rw [e] at h2
    exact find_at (by omega) (fun j hj => by have := h1 (j + 1) (by omega); rwa [show a + (j + 1) = a + 1 + j by omega] at this) h2
theorem find_not {p : Nat → Bool} {n a : Nat} (h : ∀ j, j < n → p (a + j) = false) : (List.range' a n).find? p = none := by
  refine List.find?_eq_none.mpr fun x hx => ?_
  obtain ⟨h1, h2⟩ := List.mem_range'_1.mp hx
  have := h (x - a) (by omega)
  rw [show a + (x - a) = x by omega] at this
  simp [this]
theorem isSafe_eq (pl : Planner) (k : Nat) (c : Commitment) : isSafe pl k c = safeBy pl k c.due := by
  unfold isSafe safeBy shortDay
  rw [daysFrom_eq pl (Nat.le_refl _)]
  cases e : (List.range' pl.today (31 - pl.today)).find? fun d => decide (surplus pl k d < 0) with
  | none =>
    have h := find_none_range' e
    show _ = true
    refine List.all_eq_true.mpr fun d hd => ?_
    obtain ⟨h1, h2⟩ := List.mem_range'_1.mp hd
    have := of_decide_eq_false (h d h1 h2)
    have q : 0 ≤ surplus pl k d := by omega
    simp [q]
  | some s =>
    obtain ⟨h1, h2, h3, h4⟩ := find_mem_range' e
    show _ = decide (c.due < s)
    have h3 := of_decide_eq_true h3
    by_cases q : c.due < s
    · rw [decide_eq_true q]
      refine List.all_eq_true.mpr fun d hd => ?_
      obtain ⟨g1, g2⟩ := List.mem_range'_1.mp hd
      by_cases z : c.due < d
      · simp [z]
      · have := of_decide_eq_false (h4 d g1 (by omega))
        have q : 0 ≤ surplus pl k d := by omega
        simp [q]
    · rw [decide_eq_false q]
      refine List.all_eq_false.mpr ⟨s, by rw [List.mem_range'_1]; omega, ?_⟩
      have : ¬ 0 ≤ surplus pl k s := by omega
      simp [q, this]

/-! ### available -/
theorem foldl_min (f : Nat → Int) : ∀ (l : List Nat) (a m : Int), (m = a ∨ ∃ x ∈ l, m = f x) → m ≤ a → (∀ x ∈ l, m ≤ f x) → l.foldl (fun (least : Int) (u : Nat) => min least (f u)) a = m
  | [], a, m, h, h1, _ => by
    rcases h with h | ⟨x, hx, _⟩
    · exact h.symm
    · cases hx
  | y :: r, a, m, h, h1, h2 => by
    rw [List.foldl_cons]
    have hy := h2 y (by simp)
    refine foldl_min f r _ m ?_ (by omega) fun x hx => h2 x (List.mem_cons_of_mem _ hx)
    rcases h with h | ⟨x, hx, e⟩
    · left
      omega
    · rcases List.mem_cons.mp hx with rfl | hx
      · left
        omega
      · exact .inr ⟨x, hx, e⟩
theorem available_eq (pl : Planner) (k : Nat) {d : Nat} (h : pl.today ≤ d) (h2 : d ≤ 30) {m : Int} (hm : m ∈ (List.range (31 - d)).map fun i => surplus pl k (d + i)) (hl : ∀ y ∈ (List.range (31 - d)).map fun i => surplus pl k (d + i), m ≤ y) :
    available pl k d = m := by
  unfold available
  rw [daysFrom_eq pl h]
  refine foldl_min (fun u => surplus pl k u) _ _ _ ?_ ?_ ?_
  · obtain ⟨i, hi, e⟩ := List.mem_map.mp hm
    exact .inr ⟨d + i, by rw [List.mem_range'_1]; have := List.mem_range.mp hi; omega, e.symm⟩
  · refine hl _ (List.mem_map.mpr ⟨30 - d, List.mem_range.mpr (by omega), ?_⟩)
    rw [show d + (30 - d) = 30 by omega]
    rfl
  · intro x hx
    obtain ⟨h1, h2⟩ := List.mem_range'_1.mp hx
    refine hl _ (List.mem_map.mpr ⟨x - d, List.mem_range.mpr (by omega), ?_⟩)
    rw [show d + (x - d) = x by omega]
theorem earliest_eq (pl : Planner) (k amount : Nat) : earliestDay pl k amount = (List.range' pl.today (31 - pl.today)).find? fun day => decide ((amount : Int) ≤ available pl k day) := by
  unfold earliestDay
  rw [daysFrom_eq pl (Nat.le_refl _)]

/-! ### tolerance -/
theorem surplus_mono (pl : Planner) {j k : Nat} (h : j ≤ k) (d : Nat) : surplus pl k d ≤ surplus pl j d := by
  unfold surplus certainSupply
  have := greatest_mono' (deliveriesBy pl d) h
  omega
theorem covered_mono (pl : Planner) {j k : Nat} (h : j ≤ k) (c : isCovered pl k = true) : isCovered pl j = true := by
  unfold isCovered at *
  refine List.all_eq_true.mpr fun d hd => ?_
  have := of_decide_eq_true (List.all_eq_true.mp c d hd)
  have := surplus_mono pl h d
  exact decide_eq_true (by omega)
/-- the last of the first n failure numbers for which all is covered -/
def lastCov (pl : Planner) (n : Nat) : Option Nat := (List.range n).reverse.find? fun k => isCovered pl k
theorem lastCov_succ (pl : Planner) (n : Nat) : lastCov pl (n + 1) = if isCovered pl n = true then some n else lastCov pl n := by
  unfold lastCov
  rw [List.range_succ, List.reverse_append, List.reverse_singleton, List.singleton_append, List.find?_cons]
  cases isCovered pl n <;> rfl
theorem tolerance_eq (pl : Planner) : tolerance pl = lastCov pl (pl.deliveries.length + 1) := by
  unfold tolerance
  split
  · rename_i h
    symm
    refine List.find?_eq_none.mpr fun k _ q => ?_
    have := covered_mono pl (Nat.zero_le k) q
    rw [h] at this
    cases this
  · rename_i h
    have h0 : isCovered pl 0 = true := by simpa using h
    show some ((lastCov pl _).getD 0) = _
    cases e : lastCov pl (pl.deliveries.length + 1) with
    | some k => rfl
    | none =>
      have := List.find?_eq_none.mp e 0 (by simp)
      rw [h0] at this
      exact absurd rfl this

/-! ### what hangs on the day, the stock, the rows alone -/
def Alike (a b : Planner) : Prop := a.today = b.today ∧ a.stock = b.stock ∧ a.deliveries = b.deliveries ∧ a.commitments = b.commitments
theorem Alike.surplus {a b : Planner} (h : Alike a b) (k d : Nat) : Km549.surplus a k d = Km549.surplus b k d := by
  obtain ⟨_, h2, h3, h4⟩ := h
  unfold Km549.surplus certainSupply deliveriesBy dueBy
  rw [h2, h3, h4]
theorem Alike.covered {a b : Planner} (h : Alike a b) (k : Nat) : isCovered a k = isCovered b k := by
  have e : daysFrom a a.today = daysFrom b b.today := by
    unfold daysFrom
    rw [h.1]
  unfold isCovered
  rw [e]
  congr 1
  funext d
  rw [h.surplus]

/-! ### sets of commitments -/
def mem7 (s : Nat) : List Nat := members s
/-- the members below n -/
def memb (s n : Nat) : List Nat := (List.range n).filter fun i => s.testBit i
theorem memb_succ (s n : Nat) : memb s (n + 1) = if s.testBit n = true then memb s n ++ [n] else memb s n := by
  unfold memb
  rw [List.range_succ, List.filter_append]
  cases c : s.testBit n <;> simp [c]
theorem memb_more {s n : Nat} (h : s < 2 ^ n) : ∀ m, n ≤ m → memb s m = memb s n := fun m hm => by
  induction m with
  | zero =>
    have : n = 0 := by omega
    subst this
    rfl
  | succ m ih =>
    by_cases e : n = m + 1
    · rw [e]
    · rw [memb_succ, Nat.testBit_lt_two_pow (Nat.lt_of_lt_of_le h (Nat.pow_le_pow_right (by decide) (by omega)))]
      exact ih (by omega)
theorem members_eq {s n : Nat} (h : s < 2 ^ n) (hn : n ≤ 7) : members s = memb s n := memb_more h 7 hn
theorem setSize_eq {s n : Nat} (h : s < 2 ^ n) (hn : n ≤ 7) : setSize s = (memb s n).length := congrArg List.length (members_eq h hn)
theorem memb_le (s n : Nat) : (memb s n).length ≤ n := by
  have := List.length_filter_le (fun i => s.testBit i) (List.range n)
  rw [List.length_range] at this
  exact this
theorem memb_mem {s n j : Nat} : j ∈ memb s n ↔ j < n ∧ s.testBit j = true := by
  unfold memb
  rw [List.mem_filter, List.mem_range]
theorem memb_full {s n : Nat} (h : (memb s n).length = n) : memb s n = List.range n := by
  unfold memb at *
  have := List.length_filter_eq_length_iff.mp (h.trans List.length_range.symm)
  exact List.filter_eq_self.mpr this
/-- the amount of a commitment by its place -/
def amAt (cs : List Commitment) (j : Nat) : Nat := match cs[j]? with
  | some c => c.amount
  | none => 0
def totalOf (cs : List Commitment) (ms : List Nat) : Nat := (ms.map (amAt cs)).sum
theorem amountOf_eq {pl : Planner} {s : Nat} (h : s < 2 ^ pl.commitments.length) (hn : pl.commitments.length ≤ 7) : amountOf pl s = totalOf pl.commitments (memb s pl.commitments.length) := by
  unfold amountOf totalOf
  rw [sum_eq, members_eq h hn]
  have : ∀ l : List Nat, (∀ j ∈ l, j < pl.commitments.length) → l.filterMap (fun j => (pl.commitments[j]?).map fun c => c.amount) = l.map (amAt pl.commitments) := by
    intro l
    induction l with
    | nil => intro _; rfl
    | cons j r ih =>
      intro hl
      have hj := hl j (by simp)
      have e : pl.commitments[j]? = some pl.commitments[j] := by simp [hj]
      rw [List.filterMap_cons, e, List.map_cons, ih fun i hi => hl i (List.mem_cons_of_mem _ hi)]
      show (pl.commitments[j]).amount :: _ = _
      congr 1
      unfold amAt
      rw [e]
  rw [this _ fun j hj => (memb_mem.mp hj).1]
theorem fm_congr {α β : Type} {f g : α → Option β} : ∀ {l : List α}, (∀ x ∈ l, f x = g x) → l.filterMap f = l.filterMap g
  | [], _ => rfl
  | x :: r, h => by
    rw [List.filterMap_cons, List.filterMap_cons, h x (by simp), fm_congr fun y hy => h y (List.mem_cons_of_mem _ hy)]
def without {α : Type} (rows : List α) (ms : List Nat) : List α := (List.range rows.length).filterMap fun j => if j ∈ ms then none else rows[j]?
theorem withoutSet_eq (pl : Planner) (s : Nat) : withoutSet pl s = { pl with commitments := without pl.commitments (memb s pl.commitments.length) } := by
  unfold withoutSet without
  have e : ∀ l : List Nat, (∀ j ∈ l, j < pl.commitments.length) → (l.filterMap fun j => if s.testBit j then none else pl.commitments[j]?) = l.filterMap fun j => if j ∈ memb s pl.commitments.length then none else pl.commitments[j]? := by
    intro l hl
    refine fm_congr fun j hj => ?_
    have := hl j hj
    by_cases c : s.testBit j = true
    · rw [if_pos c, if_pos (memb_mem.mpr ⟨this, c⟩)]
    · rw [if_neg c, if_neg fun q => c (memb_mem.mp q).2]
  rw [e _ fun j hj => List.mem_range.mp hj]
/-- the sets gone through, as the specification does -/
def bestOf (pl : Planner) (k n : Nat) : Option Nat := (List.range n).foldl (fun (best : Option Nat) (set : Nat) =>
    if isCovered (withoutSet pl set) k then (match best with
      | none => some set
      | some other =>
        if setSize set < setSize other ∨ (setSize set = setSize other ∧ amountOf pl set < amountOf pl other)
        then some set else some other) else best) none
theorem best_eq (pl : Planner) (k : Nat) : bestCancellation pl k = bestOf pl k (2 ^ pl.commitments.length) := rfl
theorem bestOf_succ (pl : Planner) (k n : Nat) : bestOf pl k (n + 1) = if isCovered (withoutSet pl n) k then (match bestOf pl k n with
      | none => some n
      | some other =>
        if setSize n < setSize other ∨ (setSize n = setSize other ∧ amountOf pl n < amountOf pl other)
        then some n else some other) else bestOf pl k n := by
  unfold bestOf
  rw [List.range_succ, List.foldl_append]
  rfl
theorem bestOf_lt (pl : Planner) (k : Nat) : ∀ n s, bestOf pl k n = some s → s < n
  | 0, s, h => by cases h
  | n + 1, s, h => by
    rw [bestOf_succ] at h
    split at h
    · cases e : bestOf pl k n with
      | none =>
        rw [e] at h
        have := Option.some.inj h
        omega
      | some o =>
        rw [e] at h
        have := bestOf_lt pl k n o e
        dsimp only at h
        split at h
        · have := Option.some.inj h
          omega
        · have := Option.some.inj h
          omega
    · have := bestOf_lt pl k n s h
      omega
/-- what the program holds: the members of the best so far, all at first -/
def bestM (pl : Planner) (k n : Nat) : List Nat := match bestOf pl k n with
  | none => List.range pl.commitments.length
  | some s => memb s pl.commitments.length
/-- is_better -/
def better (cs : List Commitment) (a b : List Nat) : Bool := if a.length ≠ b.length then decide (a.length < b.length) else decide (totalOf cs a < totalOf cs b)
theorem bestM_succ (pl : Planner) (k n : Nat) (hn : n < 2 ^ pl.commitments.length) (h7 : pl.commitments.length ≤ 7) :
    bestM pl k (n + 1) = if (better pl.commitments (memb n pl.commitments.length) (bestM pl k n) && isCovered (withoutSet pl n) k) = true then memb n pl.commitments.length else bestM pl k n := by
  unfold bestM
  rw [bestOf_succ]
  cases c : isCovered (withoutSet pl n) k with
  | false => simp
  | true =>
    simp only [if_true, Bool.and_true]
    cases e : bestOf pl k n with
    | none =>
      dsimp only
      unfold better
      have hle := memb_le n pl.commitments.length
      by_cases q : (memb n pl.commitments.length).length = pl.commitments.length
      · rw [memb_full q]
        simp
      · have q1 : (memb n pl.commitments.length).length ≠ (List.range pl.commitments.length).length := by rw [List.length_range]; exact q
        have q2 : (memb n pl.commitments.length).length < (List.range pl.commitments.length).length := by rw [List.length_range]; omega
        rw [if_pos q1, decide_eq_true q2, if_pos rfl]
    | some o =>
      dsimp only
      have ho : o < 2 ^ pl.commitments.length := Nat.lt_trans (bestOf_lt pl k n o e) hn
      rw [setSize_eq hn h7, setSize_eq ho h7, amountOf_eq hn h7, amountOf_eq ho h7]
      have eb : better pl.commitments (memb n pl.commitments.length) (memb o pl.commitments.length) = if (memb n pl.commitments.length).length ≠ (memb o pl.commitments.length).length then decide ((memb n pl.commitments.length).length < (memb o pl.commitments.length).length) else decide (totalOf pl.commitments (memb n pl.commitments.length) < totalOf pl.commitments (memb o pl.commitments.length)) := rfl
      rw [eb]
      generalize hmn : memb n pl.commitments.length = mn
      generalize hmo : memb o pl.commitments.length = mo
      by_cases q : mn.length = mo.length
      · rw [if_neg (show ¬ mn.length ≠ mo.length from fun z => z q)]
        by_cases t : totalOf pl.commitments mn < totalOf pl.commitments mo
        · rw [decide_eq_true t, if_pos rfl, if_pos (show mn.length < mo.length ∨ (mn.length = mo.length ∧ totalOf pl.commitments mn < totalOf pl.commitments mo) from .inr ⟨q, t⟩)]
          exact hmn
        · rw [decide_eq_false t, if_neg Bool.false_ne_true, if_neg (show ¬ (mn.length < mo.length ∨ (mn.length = mo.length ∧ totalOf pl.commitments mn < totalOf pl.commitments mo)) by omega)]
          exact hmo
      · rw [if_pos (show mn.length ≠ mo.length from q)]
        by_cases t : mn.length < mo.length
        · rw [decide_eq_true t, if_pos rfl, if_pos (show mn.length < mo.length ∨ (mn.length = mo.length ∧ totalOf pl.commitments mn < totalOf pl.commitments mo) from .inl t)]
          exact hmn
        · rw [decide_eq_false t, if_neg Bool.false_ne_true, if_neg (show ¬ (mn.length < mo.length ∨ (mn.length = mo.length ∧ totalOf pl.commitments mn < totalOf pl.commitments mo)) by omega)]
          exact hmo
theorem covered_nothing {pl : Planner} (h : pl.commitments = []) (k : Nat) : isCovered pl k = true := by
  unfold isCovered
  refine List.all_eq_true.mpr fun d _ => decide_eq_true ?_
  unfold Km549.surplus dueBy
  rw [h]
  show (0 : Int) ≤ (certainSupply pl k d : Int) - ((Km549.sum [] : Nat) : Int)
  rw [sum_eq]
  simp
theorem bestOf_some_mono (pl : Planner) (k : Nat) {n : Nat} (h : isCovered (withoutSet pl n) k = true) : ∃ s, bestOf pl k (n + 1) = some s := by
  rw [bestOf_succ, if_pos h]
  cases bestOf pl k n with
  | none => exact ⟨_, rfl⟩
  | some o =>
    dsimp only
    split
    · exact ⟨_, rfl⟩
    · exact ⟨_, rfl⟩
theorem best_some (pl : Planner) (k : Nat) : ∃ s, bestCancellation pl k = some s ∧ s < 2 ^ pl.commitments.length ∧ memb s pl.commitments.length = bestM pl k (2 ^ pl.commitments.length) := by
  have hp : 0 < 2 ^ pl.commitments.length := Nat.two_pow_pos _
  obtain ⟨m, hm⟩ : ∃ m, 2 ^ pl.commitments.length = m + 1 := ⟨2 ^ pl.commitments.length - 1, by omega⟩
  have hc : isCovered (withoutSet pl m) k = true := by
    refine covered_nothing ?_ k
    show (List.range pl.commitments.length).filterMap _ = []
    refine List.filterMap_eq_nil_iff.mpr fun j hj => ?_
    have hj := List.mem_range.mp hj
    have e : m.testBit j = true := by
      have e : m = 2 ^ pl.commitments.length - 1 := by omega
      rw [e, Nat.testBit_two_pow_sub_one]
      exact decide_eq_true hj
    rw [if_pos e]
  obtain ⟨s, hs⟩ := bestOf_some_mono pl k hc
  rw [best_eq, hm]
  refine ⟨s, hs, bestOf_lt _ _ _ _ hs, ?_⟩
  unfold bestM
  rw [hs]

/-! ### rows -/
theorem without_eq_filter {α : Type} (rows : List α) (ms : List Nat) : without rows ms = (List.range rows.length).filterMap fun j => if j ∈ ms then none else rows[j]? := rfl
def withoutTo {α : Type} (rows : List α) (ms : List Nat) (n : Nat) : List α := (List.range n).filterMap fun j => if j ∈ ms then none else rows[j]?
theorem withoutTo_succ {α : Type} {rows : List α} {ms : List Nat} {n : Nat} {x : α} (h : rows[n]? = some x) : withoutTo rows ms (n + 1) = if n ∈ ms then withoutTo rows ms n else withoutTo rows ms n ++ [x] := by
  unfold withoutTo
  rw [List.range_succ, List.filterMap_append, List.filterMap_cons, List.filterMap_nil]
  by_cases c : n ∈ ms
  · rw [if_pos c, if_pos c, List.append_nil]
  · rw [if_neg c, if_neg c, h]
theorem without_length {α : Type} (rows : List α) (ms : List Nat) (n : Nat) : (withoutTo rows ms n).length ≤ n := by
  unfold withoutTo
  have := List.length_filterMap_le (fun j => if j ∈ ms then none else rows[j]?) (List.range n)
  rwa [List.length_range] at this
theorem withoutTo_map {α β : Type} (f : α → β) (rows : List α) (ms : List Nat) (n : Nat) : withoutTo (rows.map f) ms n = (withoutTo rows ms n).map f := by
  unfold withoutTo
  rw [List.map_filterMap]
  refine fm_congr fun j _ => ?_
  split
  · rfl
  · rw [List.getElem?_map]
theorem without_map {α β : Type} (f : α → β) (rows : List α) (ms : List Nat) : without (rows.map f) ms = (without rows ms).map f := by
  unfold without
  rw [List.length_map]
  exact withoutTo_map f rows ms _
theorem eraseIdx_cut {α : Type} (l : List α) (j : Nat) : l.eraseIdx j = l.take j ++ l.drop (j + 1) := List.eraseIdx_eq_take_drop_succ l j
theorem eraseIdx_map {α β : Type} (f : α → β) (l : List α) (j : Nat) : (l.map f).eraseIdx j = (l.eraseIdx j).map f := by
  rw [eraseIdx_cut, eraseIdx_cut, List.map_append, List.map_take, List.map_drop]
end Ma

namespace Ma
open Km549
/-- a call as numbers -/
def encC : Call → List Int
  | .create a => [0, a]
  | .addDelivery a b c => [1, a, b, c]
  | .addCommitment a b => [2, a, b]
  | .addCoveredCommitment a b c => [3, a, b, c]
  | .cancelCommitment a => [4, a]
  | .deliveryArrived a => [5, a]
  | .deliveryFailed a => [6, a]
  | .fulfillCommitment a => [7, a]
  | .nextDay => [8]
  | .listDeliveries => [9]
  | .listCommitments => [10]
  | .isCovered a => [11, a]
  | .surplus a b => [12, a, b]
  | .available a b => [13, a, b]
  | .earliestDay a b => [14, a, b]
  | .tolerance => [15]
  | .safeCommitments a => [16, a]
  | .dependentCommitments a => [17, a]
  | .bestCancellation a => [18, a]
  | .cancelBest a => [19, a]
  | .isCoveredWithDelivery a b c => [20, a, b, c]
  | .toleranceWithCommitment a b => [21, a, b]
  | .firstShortage a => [22, a]
  | .summary => [23]
theorem u32 {a : Int} (h : Km549Neutral.isUnsigned32 a = true) : ((a.toNat : Nat) : Int) = a := by
  unfold Km549Neutral.isUnsigned32 at h
  simp only [Bool.and_eq_true, decide_eq_true_eq] at h
  omega
theorem decode1 {c : List (List Int)} (h : Km549Neutral.asked1 c = true) : ∃ k, c = [encC k] ∧ Km549Neutral.parseCall c = some k := by
  unfold Km549Neutral.asked1 at h
  split at h
  case h_1 a => exact ⟨.create a.toNat, by simp only [encC, u32 h], rfl⟩
  case h_2 a b c =>
    simp only [Bool.and_eq_true] at h
    exact ⟨.addDelivery a.toNat b.toNat c.toNat, by simp only [encC, u32 h.1.1, u32 h.1.2, u32 h.2], rfl⟩
  case h_3 a b =>
    simp only [Bool.and_eq_true] at h
    exact ⟨.addCommitment a.toNat b.toNat, by simp only [encC, u32 h.1, u32 h.2], rfl⟩
  case h_4 a b c =>
    simp only [Bool.and_eq_true] at h
    exact ⟨.addCoveredCommitment a.toNat b.toNat c.toNat, by simp only [encC, u32 h.1.1, u32 h.1.2, u32 h.2], rfl⟩
  case h_5 a => exact ⟨.cancelCommitment a.toNat, by simp only [encC, u32 h], rfl⟩
  case h_6 a => exact ⟨.deliveryArrived a.toNat, by simp only [encC, u32 h], rfl⟩
  case h_7 a => exact ⟨.deliveryFailed a.toNat, by simp only [encC, u32 h], rfl⟩
  case h_8 a => exact ⟨.fulfillCommitment a.toNat, by simp only [encC, u32 h], rfl⟩
  case h_9 => exact ⟨.nextDay, rfl, rfl⟩
  case h_10 => exact ⟨.listDeliveries, rfl, rfl⟩
  case h_11 => exact ⟨.listCommitments, rfl, rfl⟩
  case h_12 a => exact ⟨.isCovered a.toNat, by simp only [encC, u32 h], rfl⟩
  case h_13 a b =>
    simp only [Bool.and_eq_true] at h
    exact ⟨.surplus a.toNat b.toNat, by simp only [encC, u32 h.1, u32 h.2], rfl⟩
  case h_14 a b =>
    simp only [Bool.and_eq_true] at h
    exact ⟨.available a.toNat b.toNat, by simp only [encC, u32 h.1, u32 h.2], rfl⟩
  case h_15 a b =>
    simp only [Bool.and_eq_true] at h
    exact ⟨.earliestDay a.toNat b.toNat, by simp only [encC, u32 h.1, u32 h.2], rfl⟩
  case h_16 => exact ⟨.tolerance, rfl, rfl⟩
  case h_17 a => exact ⟨.safeCommitments a.toNat, by simp only [encC, u32 h], rfl⟩
  case h_18 a => exact ⟨.dependentCommitments a.toNat, by simp only [encC, u32 h], rfl⟩
  case h_19 a => exact ⟨.bestCancellation a.toNat, by simp only [encC, u32 h], rfl⟩
  case h_20 a => exact ⟨.cancelBest a.toNat, by simp only [encC, u32 h], rfl⟩
  case h_21 a b c =>
    simp only [Bool.and_eq_true] at h
    exact ⟨.isCoveredWithDelivery a.toNat b.toNat c.toNat, by simp only [encC, u32 h.1.1, u32 h.1.2, u32 h.2], rfl⟩
  case h_22 a b =>
    simp only [Bool.and_eq_true] at h
    exact ⟨.toleranceWithCommitment a.toNat b.toNat, by simp only [encC, u32 h.1, u32 h.2], rfl⟩
  case h_23 a => exact ⟨.firstShortage a.toNat, by simp only [encC, u32 h], rfl⟩
  case h_24 => exact ⟨.summary, rfl, rfl⟩
  case h_25 => cases h
theorem whole_id (c : List (List Int)) : PyKm549.whole c = c := by
  unfold PyKm549.whole
  split <;> rfl
/-- the answers to calls from a state -/
def ansOf : State → List Call → List Int
  | _, [] => []
  | st, c :: r => (((step st c).2.nums.length + 1 : Nat) : Int) :: (step st c).2.num :: (step st c).2.nums ++ ansOf (step st c).1 r
theorem played_eq : ∀ (raw : List (List (List Int))) (st : State), (∀ c ∈ raw, Km549Neutral.asked1 c = true) → ∃ cs : List Call, PyFlat.put raw = cs.flatMap encC ∧ PyFlat.told (PyFlat.played Km549Neutral.step st raw) = ansOf st cs
  | [], st, _ => ⟨[], rfl, rfl⟩
  | c :: r, st, h => by
    obtain ⟨k, e1, e2⟩ := decode1 (h c (by simp))
    have es : Km549Neutral.step st c = ((step st k).1, (step st k).2.num :: (step st k).2.nums) := by
      unfold Km549Neutral.step
      rw [e2]
    obtain ⟨cs, h1, h2⟩ := played_eq r (step st k).1 fun x hx => h x (List.mem_cons_of_mem _ hx)
    refine ⟨k :: cs, ?_, ?_⟩
    · show PyFlat.put1 c ++ PyFlat.put r = _
      rw [h1, e1, List.flatMap_cons]
      show (encC k ++ []) ++ _ = _
      rw [List.append_nil]
    · show PyFlat.told ((Km549Neutral.step st c).2 :: PyFlat.played Km549Neutral.step (Km549Neutral.step st c).1 r) = _
      rw [es]
      show ((((step st k).2.num :: (step st k).2.nums).length : Nat) : Int) :: ((step st k).2.num :: (step st k).2.nums) ++ PyFlat.told (PyFlat.played Km549Neutral.step (step st k).1 r) = _
      rw [h2]
      rfl
theorem decode {l : List Int} (h : PyKm549.answers_asked l = true) : ∃ cs : List Call, l = cs.flatMap encC ∧ PyKm549.answers l = ansOf none cs ∧ (PyKm549.answers l).length ≤ 10000000 := by
  unfold PyKm549.answers_asked at h
  cases e : PyFlat.calls PyKm549.shape l.length l with
  | none =>
    rw [e] at h
    cases h
  | some raw =>
    rw [e] at h
    simp only [Bool.and_eq_true] at h
    obtain ⟨⟨_, ha⟩, hs⟩ := h
    have ew : raw.map PyKm549.whole = raw := by
      rw [List.map_congr_left fun c _ => whole_id c, List.map_id']
    rw [ew] at ha
    unfold Km549Neutral.asked at ha
    simp only [Bool.and_eq_true] at ha
    have h1 : ∀ c ∈ raw, Km549Neutral.asked1 c = true := List.all_eq_true.mp ha.2.2
    obtain ⟨cs, e1, e2⟩ := played_eq raw none h1
    refine ⟨cs, (PyFlat.put_calls _ _ _ e).1.trans e1, ?_, of_decide_eq_true hs⟩
    rw [← e2]
    unfold PyKm549.answers PyKm549.calls
    rw [e]
    dsimp only
    rw [ew]
    rfl
theorem ansOf_len (st : State) (c : Call) (r : List Call) : (ansOf st (c :: r)).length = (step st c).2.nums.length + 2 + (ansOf (step st c).1 r).length := by
  show ((((step st c).2.nums.length + 1 : Nat) : Int) :: (step st c).2.num :: (step st c).2.nums ++ ansOf (step st c).1 r).length = _
  rw [List.length_append]
  rfl
end Ma

namespace Cs
open PySem PySem.Spec PyProof.Rows L2
open Km549 (Planner Delivery Commitment)
/-! ### the text by places -/
def top (i : Nat) : Stmt := PySem.Challenge.pw_coveredstock_s01_answers.main.body.getD i (.Pass ⟨0, 0, 0, 0⟩)
abbrev s_amounts_by : Stmt := top 15
abbrev N_amounts_by : List Str := ["deliveries", "day", "amount", "earliest", "latest"]
theorem sc_amounts_by : FnScope N_amounts_by ["deliveries", "day"] (defScope s_amounts_by) := ⟨rfl, rfl, rfl, by decide +kernel, rfl, by decide +kernel, by decide +kernel⟩
abbrev s_least_amounts : Stmt := top 16
abbrev N_least_amounts : List Str := ["amounts", "k", "left"]
theorem sc_least_amounts : FnScope N_least_amounts ["amounts", "k"] (defScope s_least_amounts) := ⟨rfl, rfl, rfl, by decide +kernel, rfl, by decide +kernel, by decide +kernel⟩
abbrev s_supply_by : Stmt := top 17
abbrev N_supply_by : List Str := ["plan", "k", "day"]
theorem sc_supply_by : FnScope N_supply_by ["plan", "k", "day"] (defScope s_supply_by) := ⟨rfl, rfl, rfl, by decide +kernel, rfl, by decide +kernel, by decide +kernel⟩
abbrev s_due_by : Stmt := top 18
abbrev N_due_by : List Str := ["plan", "day", "amount", "due"]
theorem sc_due_by : FnScope N_due_by ["plan", "day"] (defScope s_due_by) := ⟨rfl, rfl, rfl, by decide +kernel, rfl, by decide +kernel, by decide +kernel⟩
abbrev s_surplus_on : Stmt := top 19
abbrev N_surplus_on : List Str := ["plan", "k", "day"]
theorem sc_surplus_on : FnScope N_surplus_on ["plan", "k", "day"] (defScope s_surplus_on) := ⟨rfl, rfl, rfl, by decide +kernel, rfl, by decide +kernel, by decide +kernel⟩
abbrev s_first_short_day : Stmt := top 20
abbrev N_first_short_day : List Str := ["plan", "k", "day"]
theorem sc_first_short_day : FnScope N_first_short_day ["plan", "k"] (defScope s_first_short_day) := ⟨rfl, rfl, rfl, by decide +kernel, rfl, by decide +kernel, by decide +kernel⟩
abbrev s_is_covered : Stmt := top 21
abbrev N_is_covered : List Str := ["plan", "k"]
theorem sc_is_covered : FnScope N_is_covered ["plan", "k"] (defScope s_is_covered) := ⟨rfl, rfl, rfl, by decide +kernel, rfl, by decide +kernel, by decide +kernel⟩
abbrev s_is_safe : Stmt := top 22
abbrev N_is_safe : List Str := ["plan", "k", "due", "short"]
theorem sc_is_safe : FnScope N_is_safe ["plan", "k", "due"] (defScope s_is_safe) := ⟨rfl, rfl, rfl, by decide +kernel, rfl, by decide +kernel, by decide +kernel⟩
abbrev s_safe_numbers : Stmt := top 23
abbrev N_safe_numbers : List Str := ["plan", "k", "number", "amount", "due"]
theorem sc_safe_numbers : FnScope N_safe_numbers ["plan", "k"] (defScope s_safe_numbers) := ⟨rfl, rfl, rfl, by decide +kernel, rfl, by decide +kernel, by decide +kernel⟩
abbrev s_available_on : Stmt := top 24
abbrev N_available_on : List Str := ["plan", "k", "day", "other"]
theorem sc_available_on : FnScope N_available_on ["plan", "k", "day"] (defScope s_available_on) := ⟨rfl, rfl, rfl, by decide +kernel, rfl, by decide +kernel, by decide +kernel⟩
abbrev s_first_day_with : Stmt := top 25
abbrev N_first_day_with : List Str := ["plan", "k", "amount", "day"]
theorem sc_first_day_with : FnScope N_first_day_with ["plan", "k", "amount"] (defScope s_first_day_with) := ⟨rfl, rfl, rfl, by decide +kernel, rfl, by decide +kernel, by decide +kernel⟩
abbrev s_tolerance_of : Stmt := top 26
abbrev N_tolerance_of : List Str := ["plan", "found", "k"]
theorem sc_tolerance_of : FnScope N_tolerance_of ["plan"] (defScope s_tolerance_of) := ⟨rfl, rfl, rfl, by decide +kernel, rfl, by decide +kernel, by decide +kernel⟩
abbrev s_Plan_init : Stmt := inClass (top 28) 0
abbrev N_Plan_init : List Str := ["self", "stock"]
theorem sc_Plan_init : FnScope N_Plan_init ["self", "stock"] (defScope s_Plan_init) := ⟨rfl, rfl, rfl, by decide +kernel, rfl, by decide +kernel, by decide +kernel⟩
abbrev s_plan_like : Stmt := top 29
abbrev N_plan_like : List Str := ["plan", "deliveries", "commitments", "found"]
theorem sc_plan_like : FnScope N_plan_like ["plan", "deliveries", "commitments"] (defScope s_plan_like) := ⟨rfl, rfl, rfl, by decide +kernel, rfl, by decide +kernel, by decide +kernel⟩
abbrev s_without_row : Stmt := top 30
abbrev N_without_row : List Str := ["rows", "at"]
theorem sc_without_row : FnScope N_without_row ["rows", "at"] (defScope s_without_row) := ⟨rfl, rfl, rfl, by decide +kernel, rfl, by decide +kernel, by decide +kernel⟩
abbrev s_is_amount : Stmt := top 31
abbrev N_is_amount : List Str := ["amount"]
theorem sc_is_amount : FnScope N_is_amount ["amount"] (defScope s_is_amount) := ⟨rfl, rfl, rfl, by decide +kernel, rfl, by decide +kernel, by decide +kernel⟩
abbrev s_is_day_ahead : Stmt := top 32
abbrev N_is_day_ahead : List Str := ["plan", "day"]
theorem sc_is_day_ahead : FnScope N_is_day_ahead ["plan", "day"] (defScope s_is_day_ahead) := ⟨rfl, rfl, rfl, by decide +kernel, rfl, by decide +kernel, by decide +kernel⟩
abbrev s_members_of : Stmt := top 34
abbrev N_members_of : List Str := ["set_number", "many", "member"]
theorem sc_members_of : FnScope N_members_of ["set_number", "many"] (defScope s_members_of) := ⟨rfl, rfl, rfl, by decide +kernel, rfl, by decide +kernel, by decide +kernel⟩
abbrev s_rows_without : Stmt := top 35
abbrev N_rows_without : List Str := ["rows", "members", "at", "row"]
theorem sc_rows_without : FnScope N_rows_without ["rows", "members"] (defScope s_rows_without) := ⟨rfl, rfl, rfl, by decide +kernel, rfl, by decide +kernel, by decide +kernel⟩
abbrev s_total_of : Stmt := top 36
abbrev N_total_of : List Str := ["commitments", "members", "member"]
theorem sc_total_of : FnScope N_total_of ["commitments", "members"] (defScope s_total_of) := ⟨rfl, rfl, rfl, by decide +kernel, rfl, by decide +kernel, by decide +kernel⟩
abbrev s_is_better : Stmt := top 37
abbrev N_is_better : List Str := ["commitments", "members", "others"]
theorem sc_is_better : FnScope N_is_better ["commitments", "members", "others"] (defScope s_is_better) := ⟨rfl, rfl, rfl, by decide +kernel, rfl, by decide +kernel, by decide +kernel⟩
abbrev s_is_enough : Stmt := top 38
abbrev N_is_enough : List Str := ["plan", "k", "members", "rest"]
theorem sc_is_enough : FnScope N_is_enough ["plan", "k", "members"] (defScope s_is_enough) := ⟨rfl, rfl, rfl, by decide +kernel, rfl, by decide +kernel, by decide +kernel⟩
abbrev s_best_members : Stmt := top 39
abbrev N_best_members : List Str := ["plan", "k", "many", "best", "set_number", "members"]
theorem sc_best_members : FnScope N_best_members ["plan", "k"] (defScope s_best_members) := ⟨rfl, rfl, rfl, by decide +kernel, rfl, by decide +kernel, by decide +kernel⟩
abbrev s_add_delivery : Stmt := top 41
abbrev N_add_delivery : List Str := ["plan", "amount", "earliest", "latest"]
theorem sc_add_delivery : FnScope N_add_delivery ["plan", "amount", "earliest", "latest"] (defScope s_add_delivery) := ⟨rfl, rfl, rfl, by decide +kernel, rfl, by decide +kernel, by decide +kernel⟩
abbrev s_commitment_refusal : Stmt := top 42
abbrev N_commitment_refusal : List Str := ["plan", "amount", "due"]
theorem sc_commitment_refusal : FnScope N_commitment_refusal ["plan", "amount", "due"] (defScope s_commitment_refusal) := ⟨rfl, rfl, rfl, by decide +kernel, rfl, by decide +kernel, by decide +kernel⟩
abbrev s_add_commitment : Stmt := top 43
abbrev N_add_commitment : List Str := ["plan", "amount", "due", "refusal"]
theorem sc_add_commitment : FnScope N_add_commitment ["plan", "amount", "due"] (defScope s_add_commitment) := ⟨rfl, rfl, rfl, by decide +kernel, rfl, by decide +kernel, by decide +kernel⟩
abbrev s_add_covered_commitment : Stmt := top 44
abbrev N_add_covered_commitment : List Str := ["plan", "k", "amount", "due", "refusal", "more"]
theorem sc_add_covered_commitment : FnScope N_add_covered_commitment ["plan", "k", "amount", "due"] (defScope s_add_covered_commitment) := ⟨rfl, rfl, rfl, by decide +kernel, rfl, by decide +kernel, by decide +kernel⟩
abbrev s_cancel_commitment : Stmt := top 45
abbrev N_cancel_commitment : List Str := ["plan", "commitment"]
theorem sc_cancel_commitment : FnScope N_cancel_commitment ["plan", "commitment"] (defScope s_cancel_commitment) := ⟨rfl, rfl, rfl, by decide +kernel, rfl, by decide +kernel, by decide +kernel⟩
abbrev s_delivery_arrived : Stmt := top 46
abbrev N_delivery_arrived : List Str := ["plan", "delivery", "amount", "earliest", "latest"]
theorem sc_delivery_arrived : FnScope N_delivery_arrived ["plan", "delivery"] (defScope s_delivery_arrived) := ⟨rfl, rfl, rfl, by decide +kernel, rfl, by decide +kernel, by decide +kernel⟩
abbrev s_delivery_failed : Stmt := top 47
abbrev N_delivery_failed : List Str := ["plan", "delivery"]
theorem sc_delivery_failed : FnScope N_delivery_failed ["plan", "delivery"] (defScope s_delivery_failed) := ⟨rfl, rfl, rfl, by decide +kernel, rfl, by decide +kernel, by decide +kernel⟩
abbrev s_fulfill_commitment : Stmt := top 48
abbrev N_fulfill_commitment : List Str := ["plan", "commitment", "amount", "due"]
theorem sc_fulfill_commitment : FnScope N_fulfill_commitment ["plan", "commitment"] (defScope s_fulfill_commitment) := ⟨rfl, rfl, rfl, by decide +kernel, rfl, by decide +kernel, by decide +kernel⟩
abbrev s_next_day : Stmt := top 49
abbrev N_next_day : List Str := ["plan", "amount", "due", "earliest", "latest"]
theorem sc_next_day : FnScope N_next_day ["plan"] (defScope s_next_day) := ⟨rfl, rfl, rfl, by decide +kernel, rfl, by decide +kernel, by decide +kernel⟩
abbrev s_cancel_best : Stmt := top 50
abbrev N_cancel_best : List Str := ["plan", "k", "members"]
theorem sc_cancel_best : FnScope N_cancel_best ["plan", "k"] (defScope s_cancel_best) := ⟨rfl, rfl, rfl, by decide +kernel, rfl, by decide +kernel, by decide +kernel⟩
abbrev s_counted : Stmt := top 52
abbrev N_counted : List Str := ["numbers"]
theorem sc_counted : FnScope N_counted ["numbers"] (defScope s_counted) := ⟨rfl, rfl, rfl, by decide +kernel, rfl, by decide +kernel, by decide +kernel⟩
abbrev s_value_or_refusal : Stmt := top 53
abbrev N_value_or_refusal : List Str := ["value"]
theorem sc_value_or_refusal : FnScope N_value_or_refusal ["value"] (defScope s_value_or_refusal) := ⟨rfl, rfl, rfl, by decide +kernel, rfl, by decide +kernel, by decide +kernel⟩
abbrev s_list_rows : Stmt := top 54
abbrev N_list_rows : List Str := ["rows", "found", "row"]
theorem sc_list_rows : FnScope N_list_rows ["rows"] (defScope s_list_rows) := ⟨rfl, rfl, rfl, by decide +kernel, rfl, by decide +kernel, by decide +kernel⟩
abbrev s_covered : Stmt := top 55
abbrev N_covered : List Str := ["plan", "k"]
theorem sc_covered : FnScope N_covered ["plan", "k"] (defScope s_covered) := ⟨rfl, rfl, rfl, by decide +kernel, rfl, by decide +kernel, by decide +kernel⟩
abbrev s_surplus : Stmt := top 56
abbrev N_surplus : List Str := ["plan", "k", "day", "difference"]
theorem sc_surplus : FnScope N_surplus ["plan", "k", "day"] (defScope s_surplus) := ⟨rfl, rfl, rfl, by decide +kernel, rfl, by decide +kernel, by decide +kernel⟩
abbrev s_available : Stmt := top 57
abbrev N_available : List Str := ["plan", "k", "day", "amount"]
theorem sc_available : FnScope N_available ["plan", "k", "day"] (defScope s_available) := ⟨rfl, rfl, rfl, by decide +kernel, rfl, by decide +kernel, by decide +kernel⟩
abbrev s_earliest_day : Stmt := top 58
abbrev N_earliest_day : List Str := ["plan", "k", "amount"]
theorem sc_earliest_day : FnScope N_earliest_day ["plan", "k", "amount"] (defScope s_earliest_day) := ⟨rfl, rfl, rfl, by decide +kernel, rfl, by decide +kernel, by decide +kernel⟩
abbrev s_tolerance : Stmt := top 59
abbrev N_tolerance : List Str := ["plan"]
theorem sc_tolerance : FnScope N_tolerance ["plan"] (defScope s_tolerance) := ⟨rfl, rfl, rfl, by decide +kernel, rfl, by decide +kernel, by decide +kernel⟩
abbrev s_safe_commitments : Stmt := top 60
abbrev N_safe_commitments : List Str := ["plan", "k"]
theorem sc_safe_commitments : FnScope N_safe_commitments ["plan", "k"] (defScope s_safe_commitments) := ⟨rfl, rfl, rfl, by decide +kernel, rfl, by decide +kernel, by decide +kernel⟩
abbrev s_dependent_commitments : Stmt := top 61
abbrev N_dependent_commitments : List Str := ["plan", "delivery", "less", "still", "number"]
theorem sc_dependent_commitments : FnScope N_dependent_commitments ["plan", "delivery"] (defScope s_dependent_commitments) := ⟨rfl, rfl, rfl, by decide +kernel, rfl, by decide +kernel, by decide +kernel⟩
abbrev s_best_cancellation : Stmt := top 62
abbrev N_best_cancellation : List Str := ["plan", "k"]
theorem sc_best_cancellation : FnScope N_best_cancellation ["plan", "k"] (defScope s_best_cancellation) := ⟨rfl, rfl, rfl, by decide +kernel, rfl, by decide +kernel, by decide +kernel⟩
abbrev s_covered_with_delivery : Stmt := top 63
abbrev N_covered_with_delivery : List Str := ["plan", "amount", "latest", "k", "more"]
theorem sc_covered_with_delivery : FnScope N_covered_with_delivery ["plan", "amount", "latest", "k"] (defScope s_covered_with_delivery) := ⟨rfl, rfl, rfl, by decide +kernel, rfl, by decide +kernel, by decide +kernel⟩
abbrev s_tolerance_with_commitment : Stmt := top 64
abbrev N_tolerance_with_commitment : List Str := ["plan", "amount", "due", "refusal", "more"]
theorem sc_tolerance_with_commitment : FnScope N_tolerance_with_commitment ["plan", "amount", "due"] (defScope s_tolerance_with_commitment) := ⟨rfl, rfl, rfl, by decide +kernel, rfl, by decide +kernel, by decide +kernel⟩
abbrev s_first_shortage : Stmt := top 65
abbrev N_first_shortage : List Str := ["plan", "k", "day"]
theorem sc_first_shortage : FnScope N_first_shortage ["plan", "k"] (defScope s_first_shortage) := ⟨rfl, rfl, rfl, by decide +kernel, rfl, by decide +kernel, by decide +kernel⟩
abbrev s_summary : Stmt := top 66
abbrev N_summary : List Str := ["plan", "counts"]
theorem sc_summary : FnScope N_summary ["plan"] (defScope s_summary) := ⟨rfl, rfl, rfl, by decide +kernel, rfl, by decide +kernel, by decide +kernel⟩
abbrev s_change : Stmt := top 71
abbrev N_change : List Str := ["plan", "number", "given"]
theorem sc_change : FnScope N_change ["plan", "number", "given"] (defScope s_change) := ⟨rfl, rfl, rfl, by decide +kernel, rfl, by decide +kernel, by decide +kernel⟩
abbrev s_ask : Stmt := top 72
abbrev N_ask : List Str := ["plan", "number", "given"]
theorem sc_ask : FnScope N_ask ["plan", "number", "given"] (defScope s_ask) := ⟨rfl, rfl, rfl, by decide +kernel, rfl, by decide +kernel, by decide +kernel⟩
abbrev s_ask_further : Stmt := top 73
abbrev N_ask_further : List Str := ["plan", "number", "given"]
theorem sc_ask_further : FnScope N_ask_further ["plan", "number", "given"] (defScope s_ask_further) := ⟨rfl, rfl, rfl, by decide +kernel, rfl, by decide +kernel, by decide +kernel⟩
abbrev s_Desk_init : Stmt := inClass (top 74) 0
abbrev N_Desk_init : List Str := ["self"]
theorem sc_Desk_init : FnScope N_Desk_init ["self"] (defScope s_Desk_init) := ⟨rfl, rfl, rfl, by decide +kernel, rfl, by decide +kernel, by decide +kernel⟩
abbrev s_Desk_create : Stmt := inClass (top 74) 1
abbrev N_Desk_create : List Str := ["self", "stock"]
theorem sc_Desk_create : FnScope N_Desk_create ["self", "stock"] (defScope s_Desk_create) := ⟨rfl, rfl, rfl, by decide +kernel, rfl, by decide +kernel, by decide +kernel⟩
abbrev s_Desk_answer : Stmt := inClass (top 74) 2
abbrev N_Desk_answer : List Str := ["self", "number", "given"]
theorem sc_Desk_answer : FnScope N_Desk_answer ["self", "number", "given"] (defScope s_Desk_answer) := ⟨rfl, rfl, rfl, by decide +kernel, rfl, by decide +kernel, by decide +kernel⟩
abbrev s_answers : Stmt := top 77
abbrev N_answers : List Str := ["calls", "desk", "found", "at", "number", "behind", "told"]
theorem sc_answers : FnScope N_answers ["calls"] (defScope s_answers) := ⟨rfl, rfl, rfl, by decide +kernel, rfl, by decide +kernel, by decide +kernel⟩
/-! ### defs and methods of the text, what they promise -/
structure Have (K : PySem.W.Frag) (mg : Str → Option Value) (x : Str) (st : Stmt) : Prop where
  ex : ∃ (f : Addr) (fd : FuncData), mg x = some (.ref f) ∧ Fun K x x st f fd
structure HaveM (K : PySem.W.Frag) (R : Addr → Prop) (x qual : Str) (st : Stmt) : Prop where
  ex : ∃ (f : Addr) (fd : FuncData), R f ∧ Fun K x qual st f fd
structure Own (P : Program) (w : World) (K : PySem.W.Frag) (mg : Str → Option Value) (base : Heap) (x : Str) (ps : List Str) (k : Nat) (sp : Sp) : Prop where
  ex : ∃ (f : Addr) (fd : FuncData), mg x = some (.ref f) ∧ PySem.W.keepIn K (.ref f) = true ∧ Binds K fd ps [] ∧ FnOk P w K mg base CX0 k f fd ps sp
structure OwnM (P : Program) (w : World) (K : PySem.W.Frag) (mg : Str → Option Value) (base : Heap) (R : Addr → Prop) (ps : List Str) (k : Nat) (sp : Sp) : Prop where
  ex : ∃ (f : Addr) (fd : FuncData), R f ∧ Binds K fd ps [] ∧ FnOk P w K mg base CX0 k f fd ps sp
section
variable {P : Program} {w : World} {K : PySem.W.Frag} {mg : Str → Option Value} {base : Heap}
theorem own_of {x : Str} {st : Stmt} {N ps : List Str} {k : Nat} {sp : Sp} (Hv : Have K mg x st) (S : FnScope N ps (defScope st))
    (hb : ∀ (kV doc pm : Value) (an : Option Addr) (cdv ct : Value) (us : List Value), us.length = ps.length → bindArgs (PySem.W.fnOf x x (defArgs st) (defBody st) (defScope st) .none kV doc pm an cdv ct) ⟨us, []⟩ = pure (ps.zip us))
    (len : ∀ vs H Q E, sp vs H Q E → vs.length = ps.length)
    (hbody : ∀ {f : Addr} (cdv : Value) (A : Around) (outer : List Env) (s : Shared) (H : Hp) (vs : List V) (Q : VK) (E : XK), Room k (A.deeper (envOfC x (defScope st) s.heap.objs.size f cdv)) → sp vs H Q E →
      ∃ t, PSs (cxOf CX0 P w K mg base N x (defScope st) f cdv A outer s H E).nox (defBody st) t ∧ t { nx := fun _ H' => Q .non H', rt := Q } (start N vs) H) : Own P w K mg base x ps (k + 1) sp := by
  obtain ⟨f, fd, hm, F⟩ := Hv.ex
  exact ⟨f, fd, hm, F.kp, F.binds hb, F.ok S len hbody⟩
theorem own_ofM {R : Addr → Prop} {x qual : Str} {st : Stmt} {N ps : List Str} {k : Nat} {sp : Sp} (Hv : HaveM K R x qual st) (S : FnScope N ps (defScope st))
    (hb : ∀ (kV doc pm : Value) (an : Option Addr) (cdv ct : Value) (us : List Value), us.length = ps.length → bindArgs (PySem.W.fnOf x qual (defArgs st) (defBody st) (defScope st) .none kV doc pm an cdv ct) ⟨us, []⟩ = pure (ps.zip us))
    (len : ∀ vs H Q E, sp vs H Q E → vs.length = ps.length)
    (hbody : ∀ {f : Addr} (cdv : Value) (A : Around) (outer : List Env) (s : Shared) (H : Hp) (vs : List V) (Q : VK) (E : XK), Room k (A.deeper (envOfC qual (defScope st) s.heap.objs.size f cdv)) → sp vs H Q E →
      ∃ t, PSs (cxOf CX0 P w K mg base N qual (defScope st) f cdv A outer s H E).nox (defBody st) t ∧ t { nx := fun _ H' => Q .non H', rt := Q } (start N vs) H) : OwnM P w K mg base R ps (k + 1) sp := by
  obtain ⟨f, fd, hm, F⟩ := Hv.ex
  exact ⟨f, fd, hm, F.binds hb, F.ok S len hbody⟩
end
section
variable {X : Cx} {x : Str} {p pos : Pos} {ps : List Str} {k j : Nat} {sp : Sp} {e : Expr} {es : List Expr} {t : TA}
/-- f(e, ..), f a def of the program -/
theorem pe_own (G : Own X.prog X.w X.K X.mg X.base x ps k sp) (hr : Room j X.A) (ha : PA X (e :: es) t) (hkj : k ≤ j := by decide) (hg : Gl X x := by rfl) (hdb : (x == ("__debug__" : Str)) = false := by decide)
    (he : starEach (e :: es) X.env = (false, eval e X.env) :: starEach es X.env := by rfl) (hpl : (backTo pos (starEach es X.env)).any (·.1) = false := by rfl) : PE X (.Call (.Name x p) (e :: es) [] pos) (tCall sp [] E0 t) := by
  obtain ⟨f, fd, hm, hk, hb, F⟩ := G.ex
  exact pe_call F (hr.mono hkj) hg hm hk hb .nil pass0 ha hdb he hpl
/-- a whole number of the module -/
theorem pe_gint {i : Int} (h : ∃ t, X.mg x = some (.int i t)) (hg : Gl X x := by rfl) (hd : (x == ("__debug__" : Str)) = false := by decide) : PE X (.Name x pos) (tC (.int i)) := by
  obtain ⟨t, h⟩ := h
  exact pe_glob hg h ⟨t, rfl⟩ hd
end
def sizesV : List V := ([1, 3, 2, 3, 1, 1, 1, 1, 0, 0, 0, 1, 2, 2, 2, 0, 1, 1, 1, 1, 3, 2, 1, 0] : List Int).map V.int
/-- what the top has written -/
structure Txt (K : PySem.W.Frag) (mg : Str → Option Value) (C CD : Addr) : Prop where
  cl : Cls K C
  clD : Cls K CD
  gP : mg "Plan" = some (.ref C)
  gD : mg "Desk" = some (.ref CD)
  gS : ∃ a, mg "SIZES" = some (.ref a) ∧ ∀ H : Hp, SqT K H a sizesV
  nT : NoAttr K C "today"
  nS : NoAttr K C "stock"
  nD : NoAttr K C "deliveries"
  nC : NoAttr K C "commitments"
  nA : NoAttr K C "arrived"
  nF : NoAttr K C "failed"
  nU : NoAttr K C "fulfilled"
  nP : NoAttr K CD "plan"
  abs : mg "abs" = none
  enumerate : mg "enumerate" = none
  int : mg "int" = none
  len : mg "len" = none
  list : mg "list" = none
  max : mg "max" = none
  min : mg "min" = none
  range : mg "range" = none
  sorted : mg "sorted" = none
  sum : mg "sum" = none
  c_LAST_DAY : ∃ t, mg "LAST_DAY" = some (.int 30 t)
  c_MOST_STOCK : ∃ t, mg "MOST_STOCK" = some (.int 999 t)
  c_MOST_AMOUNT : ∃ t, mg "MOST_AMOUNT" = some (.int 99 t)
  c_MOST_FAILURES : ∃ t, mg "MOST_FAILURES" = some (.int 6 t)
  c_MOST_DELIVERIES : ∃ t, mg "MOST_DELIVERIES" = some (.int 6 t)
  c_MOST_COMMITMENTS : ∃ t, mg "MOST_COMMITMENTS" = some (.int 7 t)
  c_NO_INSTANCE : ∃ t, mg "NO_INSTANCE" = some (.int (-11) t)
  c_NOT_THERE : ∃ t, mg "NOT_THERE" = some (.int (-2) t)
  c_OUT_OF_RANGE : ∃ t, mg "OUT_OF_RANGE" = some (.int (-22) t)
  c_FULL : ∃ t, mg "FULL" = some (.int (-28) t)
  c_NOT_COVERED : ∃ t, mg "NOT_COVERED" = some (.int (-30) t)
  c_NO_VALUE : ∃ t, mg "NO_VALUE" = some (.int (-33) t)
  c_NOT_ENOUGH : ∃ t, mg "NOT_ENOUGH" = some (.int (-19) t)
  c_LAST_DAY_REACHED : ∃ t, mg "LAST_DAY_REACHED" = some (.int (-75) t)
  c_CREATE : ∃ t, mg "CREATE" = some (.int 0 t)
  c_LAST_CHANGE : ∃ t, mg "LAST_CHANGE" = some (.int 8 t)
  c_CANCEL_BEST : ∃ t, mg "CANCEL_BEST" = some (.int 19 t)
  h_amounts_by : Have K mg "amounts_by" s_amounts_by
  h_least_amounts : Have K mg "least_amounts" s_least_amounts
  h_supply_by : Have K mg "supply_by" s_supply_by
  h_due_by : Have K mg "due_by" s_due_by
  h_surplus_on : Have K mg "surplus_on" s_surplus_on
  h_first_short_day : Have K mg "first_short_day" s_first_short_day
  h_is_covered : Have K mg "is_covered" s_is_covered
  h_is_safe : Have K mg "is_safe" s_is_safe
  h_safe_numbers : Have K mg "safe_numbers" s_safe_numbers
  h_available_on : Have K mg "available_on" s_available_on
  h_first_day_with : Have K mg "first_day_with" s_first_day_with
  h_tolerance_of : Have K mg "tolerance_of" s_tolerance_of
  h_Plan_init : HaveM K (Mk K C) "__init__" "Plan.__init__" s_Plan_init
  h_plan_like : Have K mg "plan_like" s_plan_like
  h_without_row : Have K mg "without_row" s_without_row
  h_is_amount : Have K mg "is_amount" s_is_amount
  h_is_day_ahead : Have K mg "is_day_ahead" s_is_day_ahead
  h_members_of : Have K mg "members_of" s_members_of
  h_rows_without : Have K mg "rows_without" s_rows_without
  h_total_of : Have K mg "total_of" s_total_of
  h_is_better : Have K mg "is_better" s_is_better
  h_is_enough : Have K mg "is_enough" s_is_enough
  h_best_members : Have K mg "best_members" s_best_members
  h_add_delivery : Have K mg "add_delivery" s_add_delivery
  h_commitment_refusal : Have K mg "commitment_refusal" s_commitment_refusal
  h_add_commitment : Have K mg "add_commitment" s_add_commitment
  h_add_covered_commitment : Have K mg "add_covered_commitment" s_add_covered_commitment
  h_cancel_commitment : Have K mg "cancel_commitment" s_cancel_commitment
  h_delivery_arrived : Have K mg "delivery_arrived" s_delivery_arrived
  h_delivery_failed : Have K mg "delivery_failed" s_delivery_failed
  h_fulfill_commitment : Have K mg "fulfill_commitment" s_fulfill_commitment
  h_next_day : Have K mg "next_day" s_next_day
  h_cancel_best : Have K mg "cancel_best" s_cancel_best
  h_counted : Have K mg "counted" s_counted
  h_value_or_refusal : Have K mg "value_or_refusal" s_value_or_refusal
  h_list_rows : Have K mg "list_rows" s_list_rows
  h_covered : Have K mg "covered" s_covered
  h_surplus : Have K mg "surplus" s_surplus
  h_available : Have K mg "available" s_available
  h_earliest_day : Have K mg "earliest_day" s_earliest_day
  h_tolerance : Have K mg "tolerance" s_tolerance
  h_safe_commitments : Have K mg "safe_commitments" s_safe_commitments
  h_dependent_commitments : Have K mg "dependent_commitments" s_dependent_commitments
  h_best_cancellation : Have K mg "best_cancellation" s_best_cancellation
  h_covered_with_delivery : Have K mg "covered_with_delivery" s_covered_with_delivery
  h_tolerance_with_commitment : Have K mg "tolerance_with_commitment" s_tolerance_with_commitment
  h_first_shortage : Have K mg "first_shortage" s_first_shortage
  h_summary : Have K mg "summary" s_summary
  h_change : Have K mg "change" s_change
  h_ask : Have K mg "ask" s_ask
  h_ask_further : Have K mg "ask_further" s_ask_further
  h_Desk_init : HaveM K (Mk K CD) "__init__" "Desk.__init__" s_Desk_init
  h_Desk_create : HaveM K (Meth K CD "create") "create" "Desk.create" s_Desk_create
  h_Desk_answer : HaveM K (Meth K CD "answer") "answer" "Desk.answer" s_Desk_answer
  h_answers : Have K mg "answers" s_answers
/-! ### the heap -/
theorem lk_here {k : Str} {v : V} {r : List (Str × V)} : List.lookup k ((k, v) :: r) = some v := by
  have e : (k == k) = true := beq_self_eq_true k
  simp only [List.lookup, e]
theorem lk_past {k g : Str} {v : V} {r : List (Str × V)} (h : (k == g) = false) : List.lookup k ((g, v) :: r) = List.lookup k r := by
  simp only [List.lookup, h]
theorem put_here {f : Str} {v x : V} {r : List (Str × V)} : putF f v ((f, x) :: r) = (f, v) :: r := if_pos rfl
theorem put_past {f g : Str} {v x : V} {r : List (Str × V)} (h : ¬ g = f) : putF f v ((g, x) :: r) = (g, x) :: putF f v r := if_neg h
def pF (a b c d e f g : V) : List (Str × V) := [("today", a), ("stock", b), ("deliveries", c), ("commitments", d), ("arrived", e), ("failed", f), ("fulfilled", g)]
section
variable {a b c d e f g v : V}
theorem pF_today : (pF a b c d e f g).lookup ("today" : Str) = some a := lk_here
theorem pF_stock : (pF a b c d e f g).lookup ("stock" : Str) = some b := (lk_past (by decide +kernel)).trans lk_here
theorem pF_deliveries : (pF a b c d e f g).lookup ("deliveries" : Str) = some c := (lk_past (by decide +kernel)).trans ((lk_past (by decide +kernel)).trans lk_here)
theorem pF_commitments : (pF a b c d e f g).lookup ("commitments" : Str) = some d := (lk_past (by decide +kernel)).trans ((lk_past (by decide +kernel)).trans ((lk_past (by decide +kernel)).trans lk_here))
theorem pF_arrived : (pF a b c d e f g).lookup ("arrived" : Str) = some e := (lk_past (by decide +kernel)).trans ((lk_past (by decide +kernel)).trans ((lk_past (by decide +kernel)).trans ((lk_past (by decide +kernel)).trans lk_here)))
theorem pF_failed : (pF a b c d e f g).lookup ("failed" : Str) = some f := (lk_past (by decide +kernel)).trans ((lk_past (by decide +kernel)).trans ((lk_past (by decide +kernel)).trans ((lk_past (by decide +kernel)).trans ((lk_past (by decide +kernel)).trans lk_here))))
theorem pF_fulfilled : (pF a b c d e f g).lookup ("fulfilled" : Str) = some g := (lk_past (by decide +kernel)).trans ((lk_past (by decide +kernel)).trans ((lk_past (by decide +kernel)).trans ((lk_past (by decide +kernel)).trans ((lk_past (by decide +kernel)).trans ((lk_past (by decide +kernel)).trans lk_here)))))
theorem pF_today_put : putF "today" v (pF a b c d e f g) = pF v b c d e f g := put_here
theorem pF_stock_put : putF "stock" v (pF a b c d e f g) = pF a v c d e f g := (put_past (by decide +kernel)).trans (congrArg _ put_here)
theorem pF_deliveries_put : putF "deliveries" v (pF a b c d e f g) = pF a b v d e f g := (put_past (by decide +kernel)).trans (congrArg _ ((put_past (by decide +kernel)).trans (congrArg _ put_here)))
theorem pF_commitments_put : putF "commitments" v (pF a b c d e f g) = pF a b c v e f g := (put_past (by decide +kernel)).trans (congrArg _ ((put_past (by decide +kernel)).trans (congrArg _ ((put_past (by decide +kernel)).trans (congrArg _ put_here)))))
theorem pF_arrived_put : putF "arrived" v (pF a b c d e f g) = pF a b c d v f g := (put_past (by decide +kernel)).trans (congrArg _ ((put_past (by decide +kernel)).trans (congrArg _ ((put_past (by decide +kernel)).trans (congrArg _ ((put_past (by decide +kernel)).trans (congrArg _ put_here)))))))
theorem pF_failed_put : putF "failed" v (pF a b c d e f g) = pF a b c d e v g := (put_past (by decide +kernel)).trans (congrArg _ ((put_past (by decide +kernel)).trans (congrArg _ ((put_past (by decide +kernel)).trans (congrArg _ ((put_past (by decide +kernel)).trans (congrArg _ ((put_past (by decide +kernel)).trans (congrArg _ put_here)))))))))
theorem pF_fulfilled_put : putF "fulfilled" v (pF a b c d e f g) = pF a b c d e f v := (put_past (by decide +kernel)).trans (congrArg _ ((put_past (by decide +kernel)).trans (congrArg _ ((put_past (by decide +kernel)).trans (congrArg _ ((put_past (by decide +kernel)).trans (congrArg _ ((put_past (by decide +kernel)).trans (congrArg _ ((put_past (by decide +kernel)).trans (congrArg _ put_here)))))))))))
theorem pF_new : putF "fulfilled" g (putF "failed" f (putF "arrived" e (putF "commitments" d (putF "deliveries" c (putF "stock" b (putF "today" a [])))))) = pF a b c d e f g := by
  have e1 : putF "today" a [] = [(("today" : Str), a)] := rfl
  have e2 : putF "stock" b [(("today" : Str), a)] = [(("today" : Str), a), (("stock" : Str), b)] := put_past (by decide +kernel)
  have e3 : putF "deliveries" c [(("today" : Str), a), (("stock" : Str), b)] = [(("today" : Str), a), (("stock" : Str), b), (("deliveries" : Str), c)] := (put_past (by decide +kernel)).trans (congrArg _ (put_past (by decide +kernel)))
  have e4 : putF "commitments" d [(("today" : Str), a), (("stock" : Str), b), (("deliveries" : Str), c)] = [(("today" : Str), a), (("stock" : Str), b), (("deliveries" : Str), c), (("commitments" : Str), d)] := (put_past (by decide +kernel)).trans (congrArg _ ((put_past (by decide +kernel)).trans (congrArg _ (put_past (by decide +kernel)))))
  have e5 : putF "arrived" e [(("today" : Str), a), (("stock" : Str), b), (("deliveries" : Str), c), (("commitments" : Str), d)] = [(("today" : Str), a), (("stock" : Str), b), (("deliveries" : Str), c), (("commitments" : Str), d), (("arrived" : Str), e)] := (put_past (by decide +kernel)).trans (congrArg _ ((put_past (by decide +kernel)).trans (congrArg _ ((put_past (by decide +kernel)).trans (congrArg _ (put_past (by decide +kernel)))))))
  have e6 : putF "failed" f [(("today" : Str), a), (("stock" : Str), b), (("deliveries" : Str), c), (("commitments" : Str), d), (("arrived" : Str), e)] = [(("today" : Str), a), (("stock" : Str), b), (("deliveries" : Str), c), (("commitments" : Str), d), (("arrived" : Str), e), (("failed" : Str), f)] := (put_past (by decide +kernel)).trans (congrArg _ ((put_past (by decide +kernel)).trans (congrArg _ ((put_past (by decide +kernel)).trans (congrArg _ ((put_past (by decide +kernel)).trans (congrArg _ (put_past (by decide +kernel)))))))))
  rw [e1, e2, e3, e4, e5, e6]
  exact (put_past (by decide +kernel)).trans (congrArg _ ((put_past (by decide +kernel)).trans (congrArg _ ((put_past (by decide +kernel)).trans (congrArg _ ((put_past (by decide +kernel)).trans (congrArg _ ((put_past (by decide +kernel)).trans (congrArg _ (put_past (by decide +kernel)))))))))))
end
/-- a list of tuples of whole numbers stands at a -/
def Rows (H : Hp) (a : Addr) (rows : List (List Int)) : Prop := ∃ xs : List Addr, H a = some (.lst (xs.map V.ref)) ∧ Paired (fun x r => H x = some (.tup (r.map V.int))) xs rows
theorem same_upd {H : Hp} {a : Addr} {o : HO} (h : H a = none) : Same H (upd H a o) := fun b u e => by
  rw [upd_ne (ne_of_none e h)]
  exact e
theorem Rows.same {H H' : Hp} {a : Addr} {rows : List (List Int)} (h : Rows H a rows) (e : Same H H') : Rows H' a rows := by
  obtain ⟨xs, h1, h2⟩ := h
  exact ⟨xs, e _ _ h1, Paired.mapP h2 fun _ _ q => e _ _ q⟩
theorem paired_at {α β : Type} {G : α → β → Prop} : ∀ {l : List α} {m : List β}, Paired G l m → ∀ {i : Nat} {b : β}, m[i]? = some b → ∃ a, l[i]? = some a ∧ G a b
  | _, _, .nil, i, b, h => by simp at h
  | _, _, .cons r _, 0, b, h => by
    simp at h
    subst h
    exact ⟨_, rfl, r⟩
  | _, _, .cons _ t, i + 1, b, h => by
    obtain ⟨a, h1, h2⟩ := paired_at t (i := i) (b := b) (by simpa using h)
    exact ⟨a, by simpa using h1, h2⟩
theorem paired_take {α β : Type} {G : α → β → Prop} : ∀ {l : List α} {m : List β} (n : Nat), Paired G l m → Paired G (l.take n) (m.take n)
  | _, _, 0, _ => .nil
  | _, _, _ + 1, .nil => .nil
  | _, _, n + 1, .cons r t => .cons r (paired_take n t)
theorem paired_drop {α β : Type} {G : α → β → Prop} : ∀ {l : List α} {m : List β} (n : Nat), Paired G l m → Paired G (l.drop n) (m.drop n)
  | _, _, 0, h => h
  | _, _, _ + 1, .nil => .nil
  | _, _, n + 1, .cons _ t => paired_drop n t
theorem paired_append {α β : Type} {G : α → β → Prop} : ∀ {l l' : List α} {m m' : List β}, Paired G l m → Paired G l' m' → Paired G (l ++ l') (m ++ m')
  | _, _, _, _, .nil, h => h
  | _, _, _, _, .cons r t, h => .cons r (paired_append t h)
theorem paired_len {α β : Type} {G : α → β → Prop} {l : List α} {m : List β} (h : Paired G l m) : l.length = m.length := Paired.length h
def dR (ds : List Delivery) : List (List Int) := ds.map fun d => [(d.amount : Int), (d.earliest : Int), (d.latest : Int)]
def cR (cs : List Commitment) : List (List Int) := cs.map fun c => [(c.amount : Int), (c.due : Int)]
/-- a plan, whatever its counters are -/
def View (C : Addr) (H : Hp) (p : Addr) (pl : Planner) : Prop := ∃ (dx ad ac : Addr) (x y z : V), H p = some (.ins C dx (pF (.int pl.today) (.int pl.stock) (.ref ad) (.ref ac) x y z)) ∧ Rows H ad (dR pl.deliveries) ∧ Rows H ac (cR pl.commitments)
theorem View.same {C : Addr} {H H' : Hp} {p : Addr} {pl : Planner} (h : View C H p pl) (e : Same H H') : View C H' p pl := by
  obtain ⟨dx, ad, ac, x, y, z, h1, h2, h3⟩ := h
  exact ⟨dx, ad, ac, x, y, z, e _ _ h1, h2.same e, h3.same e⟩
/-- a plan -/
def PlanAt (C : Addr) (H : Hp) (p : Addr) (pl : Planner) : Prop := ∃ (dx ad ac : Addr), H p = some (.ins C dx (pF (.int pl.today) (.int pl.stock) (.ref ad) (.ref ac) (.int pl.arrivedCount) (.int pl.failedCount) (.int pl.fulfilledCount))) ∧ Rows H ad (dR pl.deliveries) ∧ Rows H ac (cR pl.commitments)
theorem PlanAt.same {C : Addr} {H H' : Hp} {p : Addr} {pl : Planner} (h : PlanAt C H p pl) (e : Same H H') : PlanAt C H' p pl := by
  obtain ⟨dx, ad, ac, h1, h2, h3⟩ := h
  exact ⟨dx, ad, ac, e _ _ h1, h2.same e, h3.same e⟩
theorem PlanAt.view {C : Addr} {H : Hp} {p : Addr} {pl : Planner} (h : PlanAt C H p pl) : View C H p pl := by
  obtain ⟨dx, ad, ac, h1, h2, h3⟩ := h
  exact ⟨dx, ad, ac, _, _, _, h1, h2, h3⟩
/-- all but p is as it was -/
def Keep (p : Addr) (H H' : Hp) : Prop := ∀ b o, H b = some o → b ≠ p → H' b = some o
theorem Same.keep {p : Addr} {H H' : Hp} (h : Same H H') : Keep p H H' := fun b o e _ => h b o e
theorem Keep.same {p : Addr} {H H' H2 : Hp} (h : Keep p H H') (e : Same H' H2) : Keep p H H2 := fun b o q n => e _ _ (h b o q n)
theorem Same.keep2 {p : Addr} {H H' H2 : Hp} (e : Same H H') (h : Keep p H' H2) : Keep p H H2 := fun b o q n => h b o (e _ _ q) n
theorem keep_upd {p : Addr} {H : Hp} {o : HO} : Keep p H (upd H p o) := fun b u e n => by
  rw [upd_ne n]
  exact e
theorem Keep.trans {p : Addr} {H H' H2 : Hp} (a : Keep p H H') (b : Keep p H' H2) : Keep p H H2 := fun c o q n => b c o (a c o q n) n
/-- what the rows of a plan lean on is no instance -/
theorem Rows.keep {p : Addr} {H H' : Hp} {a : Addr} {rows : List (List Int)} {Cp dx : Addr} {fs : List (Str × V)} (h : Rows H a rows) (hp : H p = some (.ins Cp dx fs)) (e : Keep p H H') : Rows H' a rows := by
  obtain ⟨xs, h1, h2⟩ := h
  exact ⟨xs, e _ _ h1 (ne_of h1 hp (by intro q; cases q)), Paired.mapP h2 fun _ _ q => e _ _ q (ne_of q hp (by intro q; cases q))⟩
/-- bounds that the operations keep -/
def Good (pl : Planner) : Prop := pl.today ≤ 30 ∧ pl.deliveries.length ≤ 6 ∧ pl.commitments.length ≤ 7
theorem small_line {n : Nat} (h : n ≤ 10000000) : n ≤ sizeLine := by rw [sizeLine_eq]; omega
theorem small_lt {n : Nat} (h : n < 10000000) : n < sizeLine := by rw [sizeLine_eq]; omega
/-- a comprehension that leaves what stands: F i the new list behind i turns -/
theorem lc_keep {J : It} {n : Nat} {G : Hp → Prop} {Y : Nat → Hp → V → Hp → Prop} (w : L2.Walk J n G Y) {g : TG} {tt : TT} {te : TE} {vs : List Nat} {σ : L2.St} {H1 : Hp} {D : Addr} {Qd : Hp → Prop} (hD : H1 D = none) (hG : ∀ H, Same H1 H → G H) (F : Nat → List V) (h0 : F 0 = [])
    (hs : ∀ i x H H', i < n → Same H1 H → H D = some (.lst (F i)) → Y i H x H' → g x (wipe σ vs) H' fun σ2 H2 => wipe σ2 vs = wipe σ vs ∧ tt σ2 H2 fun b H3 =>
      if b = true then te σ2 H3 fun y H4 => ∃ acc, H4 D = some (.lst acc) ∧ acc.length < sizeLine ∧ (Same H1 (upd H4 D (.lst (acc ++ [y]))) ∧ (upd H4 D (.lst (acc ++ [y]))) D = some (.lst (F (i + 1)))) else (Same H1 H3 ∧ H3 D = some (.lst (F (i + 1)))))
    (hd : ∀ H, Same H1 H → H D = some (.lst (F n)) → Qd H) :
    ∃ W : Nat → Nat → Hp → Prop, (∃ m, W 0 m (upd H1 D (.lst []))) ∧ ∀ i m H, W i m H →
      (J.stop i H ∧ Qd H) ∨ (J.go i H ∧ ∃ Nx : Hp → Prop, (∀ H', Nx H' → ∃ m', m' < m ∧ W (i + 1) m' H') ∧ ∀ x H', J.yld i H x H' → g x (wipe σ vs) H' fun σ2 H2 => wipe σ2 vs = wipe σ vs ∧ tt σ2 H2 fun b H3 =>
        if b = true then te σ2 H3 fun y H4 => ∃ acc, H4 D = some (.lst acc) ∧ acc.length < sizeLine ∧ Nx (upd H4 D (.lst (acc ++ [y]))) else Nx H3) :=
  lc_it w (fun i H => Same H1 H ∧ H D = some (.lst (F i))) ⟨same_upd hD, by rw [upd_same, h0]⟩ (fun _ H _ h => hG H h.1) (fun i x H H' hi h y => hs i x H H' hi h.1 h.2 y) fun H h => hd H h.1 h.2
theorem lc_yes {H1 H4 : Hp} {D : Addr} {l l' : List V} {y : V} (hD : H1 D = none) (e : Same H1 H4) (h : H4 D = some (.lst l)) (hz : l.length < 10000000) (hF : l' = l ++ [y]) :
    ∃ acc, H4 D = some (.lst acc) ∧ acc.length < sizeLine ∧ (Same H1 (upd H4 D (.lst (acc ++ [y]))) ∧ (upd H4 D (.lst (acc ++ [y]))) D = some (.lst l')) :=
  ⟨l, h, small_lt hz, fun b o q => by rw [upd_ne (ne_of_none q hD)]; exact e _ _ q, by rw [upd_same, hF]⟩
theorem lc_no {H1 H3 : Hp} {D : Addr} {l l' : List V} (e : Same H1 H3) (h : H3 D = some (.lst l)) (hF : l' = l) : Same H1 H3 ∧ H3 D = some (.lst l') := ⟨e, by rw [hF]; exact h⟩
theorem if2 {b : Bool} {A B : Prop} (h1 : b = true → A) (h2 : b = false → B) : if b = true then A else B := by
  cases b with
  | true => exact iteT (h1 rfl)
  | false => exact iteF (h2 rfl)
end Cs

namespace Cs
open PySem PySem.Spec PyProof.Rows L2
open Km549 (Planner Delivery Commitment)
def vI (l : List Nat) : List V := l.map fun n : Nat => V.int (n : Int)
theorem vI_ints (l : List Nat) : vI l = (Ma.nInts l).map V.int := by
  unfold vI Ma.nInts
  rw [List.map_map]
  rfl
theorem vI_length (l : List Nat) : (vI l).length = l.length := List.length_map ..
theorem vI_append (l m : List Nat) : vI (l ++ m) = vI l ++ vI m := List.map_append ..
theorem take_more {α : Type} {l : List α} {i : Nat} {x : α} (h : l[i]? = some x) : l.take (i + 1) = l.take i ++ [x] := by
  rw [List.take_add_one, h]
  rfl
theorem flt_yes {α β : Type} {l : List α} {p : α → Bool} {f : α → β} {i : Nat} {x : α} (h : l[i]? = some x) (c : p x = true) : ((l.take (i + 1)).filter p).map f = ((l.take i).filter p).map f ++ [f x] := by
  rw [take_more h, List.filter_append, List.map_append]
  simp [c]
theorem flt_no {α β : Type} {l : List α} {p : α → Bool} {f : α → β} {i : Nat} {x : α} (h : l[i]? = some x) (c : p x = false) : ((l.take (i + 1)).filter p).map f = ((l.take i).filter p).map f := by
  rw [take_more h, List.filter_append, List.map_append]
  simp [c]
theorem flt_len {α β : Type} (l : List α) (p : α → Bool) (f : α → β) (i : Nat) : (((l.take i).filter p).map f).length ≤ l.length := by
  rw [List.length_map]
  have h1 := List.length_filter_le p (l.take i)
  have h2 := List.length_take_le' i l
  omega
theorem rows_item {H : Hp} {xs : List Addr} {rows : List (List Int)} (hp : Paired (fun x r => H x = some (.tup (r.map V.int))) xs rows) {i : Nat} {v : V} (h : (xs.map V.ref)[i]? = some v) :
    ∃ x r, v = .ref x ∧ rows[i]? = some r ∧ H x = some (.tup (r.map V.int)) := by
  rw [List.getElem?_map] at h
  have hl := paired_len hp
  have hi : i < xs.length := by
    cases e : xs[i]? with
    | none =>
      rw [e] at h
      cases h
    | some x => exact (List.getElem?_eq_some_iff.mp e).1
  obtain ⟨x, e, q⟩ := paired_at hp (i := i) (b := rows[i]'(by omega)) (by simp [show i < rows.length by omega])
  rw [e] at h
  exact ⟨x, _, (Option.some.inj h).symm, by simp [show i < rows.length by omega], q⟩
theorem d_item {H : Hp} {xs : List Addr} {ds : List Delivery} (hp : Paired (fun x r => H x = some (.tup (r.map V.int))) xs (dR ds)) {i : Nat} {v : V} (h : (xs.map V.ref)[i]? = some v) :
    ∃ x d, v = .ref x ∧ ds[i]? = some d ∧ H x = some (.tup [.int d.amount, .int d.earliest, .int d.latest]) := by
  obtain ⟨x, r, e, h1, h2⟩ := rows_item hp h
  unfold dR at h1
  rw [List.getElem?_map] at h1
  cases q : ds[i]? with
  | none =>
    rw [q] at h1
    cases h1
  | some d =>
    rw [q] at h1
    have h1 := Option.some.inj h1
    subst h1
    exact ⟨x, d, e, rfl, h2⟩
theorem c_item {H : Hp} {xs : List Addr} {cs : List Commitment} (hp : Paired (fun x r => H x = some (.tup (r.map V.int))) xs (cR cs)) {i : Nat} {v : V} (h : (xs.map V.ref)[i]? = some v) :
    ∃ x c, v = .ref x ∧ cs[i]? = some c ∧ H x = some (.tup [.int c.amount, .int c.due]) := by
  obtain ⟨x, r, e, h1, h2⟩ := rows_item hp h
  unfold cR at h1
  rw [List.getElem?_map] at h1
  cases q : cs[i]? with
  | none =>
    rw [q] at h1
    cases h1
  | some d =>
    rw [q] at h1
    have h1 := Option.some.inj h1
    subst h1
    exact ⟨x, d, e, rfl, h2⟩
theorem Rows.len {H : Hp} {a : Addr} {rows : List (List Int)} (h : Rows H a rows) : ∃ xs : List V, H a = some (.lst xs) ∧ xs.length = rows.length := by
  obtain ⟨xs, h1, h2⟩ := h
  exact ⟨_, h1, by rw [List.length_map]; exact paired_len h2⟩
theorem dR_length (ds : List Delivery) : (dR ds).length = ds.length := List.length_map ..
theorem cR_length (cs : List Commitment) : (cR cs).length = cs.length := List.length_map ..
theorem paired_mono {H H' : Hp} {xs : List Addr} {rows : List (List Int)} (hp : Paired (fun x r => H x = some (.tup (r.map V.int))) xs rows) (e : Same H H') : Paired (fun x r => H' x = some (.tup (r.map V.int))) xs rows := Paired.mapP hp fun _ _ q => e _ _ q
/-- no test -/
theorem tyes {σ : L2.St} {H : Hp} {A B : Hp → Prop} (h : A H) : tYes σ H (fun b H3 => if b = true then A H3 else B H3) := by
  show (if true = true then A H else B H)
  exact iteT h
end Cs

namespace Cs
open PySem PySem.Spec PyProof.Rows L2
open Km549 (Planner Delivery Commitment)
section
variable {P : Program} {w : World} {K : PySem.W.Frag} {mg : Str → Option Value} {base : Heap} {C CD : Addr}
def sp_amounts_by (K : PySem.W.Frag) (C CD : Addr) : Sp := fun vs H Q _ => ∃ (a : Addr) (ds : List Delivery) (d : Nat), vs = [.ref a, .int d] ∧ Rows H a (dR ds) ∧ ds.length ≤ 100 ∧
    ∀ (H' : Hp) (r : Addr), Same H H' → H r = none → H' r = some (.lst (vI ((ds.filter fun p => decide (p.latest ≤ d)).map fun p => p.amount))) → Q (.ref r) H'
theorem own_amounts_by (T : Txt K mg C CD) : Own P w K mg base "amounts_by" ["deliveries", "day"] 1 (sp_amounts_by K C CD) := by
  refine own_of T.h_amounts_by sc_amounts_by (fun _ _ _ _ _ _ us hl => match us, hl with | [_, _], _ => rfl) (fun vs H Q E h => ?_) (fun cdv A outer s H vs Q E hr h => ⟨_, (pss_one (ps_ret (pe_lc (own := [("amount", 2), ("earliest", 3), ("latest", 4)]) (g := (gTup K 3 (gCons (gName 2) (gCons (gName 3) (gCons (gName 4) gNil))))) rfl sc_amounts_by.nd (pi_list (pv 0)) (blkOk_by (own := [("amount", 2), ("earliest", 3), ("latest", 4)]) (N := N_amounts_by) (sc := defScope s_amounts_by) (by decide +kernel)) (fun _ _ _ _ _ => (pg_tup rfl (pgs_cons (pg_name (i := 2) sc_amounts_by.nd rfl (Or.inl rfl)) (pgs_cons (pg_name (i := 3) sc_amounts_by.nd rfl (Or.inl rfl)) (pgs_cons (pg_name (i := 4) sc_amounts_by.nd rfl (Or.inl rfl)) pgs_nil))))) (fun _ _ _ _ _ => pts_one (pt_cmpR op_le (pv 4) (pv 1) (nomark _))) (fun _ _ _ _ _ => (pv 2))))), ?_⟩)
  · obtain ⟨a, ds, d, rfl, ⟨xs, hx, hp⟩, hz, kk⟩ := h
    rfl
  · obtain ⟨a, ds, d, rfl, ⟨xs, hx, hp⟩, hz, kk⟩ := h
    refine ⟨_, rfl, a, rfl, ⟨_, SqL.of hx⟩, fun D hD => lc_keep (walk_list (xs := xs.map V.ref)) hD (fun H' e => SqL.of (e _ _ hx)) (fun i => ((ds.take i).filter fun p => decide (p.latest ≤ d)).map fun p => V.int (p.amount : Int)) rfl ?_ ?_⟩
    · rintro i x H1 H2 hi e1 hF ⟨rfl, hxi⟩
      obtain ⟨x, q, rfl, hq, hxx⟩ := d_item (paired_mono hp e1) hxi
      refine ⟨x, _, rfl, SqT.of hxx, rfl, _, _, rfl, _, _, rfl, _, _, rfl, rfl, rfl, _, rfl, _, rfl, _, _, rfl, rfl, _, rfl, if2 (fun c => ?_) (fun c => ?_)⟩
      · have c := of_decide_eq_true c
        exact ⟨_, rfl, lc_yes hD e1 hF (Nat.lt_of_le_of_lt (flt_len _ _ _ _) (by omega)) (flt_yes hq (decide_eq_true (by omega)))⟩
      · have c := of_decide_eq_false c
        exact lc_no e1 hF (flt_no hq (decide_eq_false (by omega)))
    · intro H1 e1 hF
      refine kk H1 D e1 hD ?_
      rw [hF]
      have hl : (xs.map V.ref).length = ds.length := by rw [List.length_map, paired_len hp, dR_length]
      rw [hl, List.take_length]
      unfold vI
      rw [List.map_map]
      rfl

def sp_least_amounts (K : PySem.W.Frag) (C CD : Addr) : Sp := fun vs H Q _ => ∃ (a : Addr) (l : List Nat) (k : Nat), vs = [.ref a, .int k] ∧ H a = some (.lst (vI l)) ∧ l.length ≤ 60 ∧
    ∀ (H' : Hp) (r : Addr) (ns : List Int), Same H H' → H r = none → ns.sum = ((Km549.sum l - Km549.sumOfGreatest k l : Nat) : Int) → H' r = some (.lst (ns.map V.int)) → Q (.ref r) H'
theorem own_least_amounts (T : Txt K mg C CD) : Own P w K mg base "least_amounts" ["amounts", "k"] 1 (sp_least_amounts K C CD) := by
  refine own_of T.h_least_amounts sc_least_amounts (fun _ _ _ _ _ _ us hl => match us, hl with | [_, _], _ => rfl) (fun vs H Q E h => ?_) (fun cdv A outer s H vs Q E hr h => ⟨_, (pss_cons (ps_set (i := 2) sc_least_amounts.nd rfl (Or.inl rfl) (pe_callB (call_max2 rfl) (by rfl) T.max (by decide +kernel) (pa_cons pe_int (pa_cons (pe_op op_sub (pe_callB call_len_seq (by rfl) T.len PySem.boot_len (pa_cons (pv 0) pa_nil)) (pv 1)) pa_nil)))) (pss_one (ps_ret (pe_slice sl_list (pe_callB cr_sorted (by rfl) T.sorted (by decide +kernel) (pa_cons (pv 0) pa_nil)) po_none (po_some (pv 2)))))), ?_⟩)
  · obtain ⟨a, l, k, rfl, hx, hz, kk⟩ := h
    rfl
  · obtain ⟨a, l, k, rfl, hx, hz, kk⟩ := h
    refine ⟨_, rfl, a, _, rfl, .inl (SqL.of hx), _, rfl, _, _, rfl, rfl, 0, ((vI l).length : Int) - (k : Int), rfl, ?_⟩
    refine ⟨_, rfl, a, Ma.nInts l, rfl, SqL.of (by rw [hx, vI_ints]), by rw [Ma.ints_length]; omega, fun ns p hp hs np => ?_⟩
    refine ⟨_, rfl, _, rfl, p, _, rfl, SqL.of upd_same, fun r nr => ?_⟩
    have e0 : H r = none := by
      by_cases c : r = p
      · rw [c]
        exact np
      · rwa [upd_ne c] at nr
    have hlen : ns.length = l.length := by rw [hp.length_eq, Ma.ints_length]
    refine kk _ r (ns.take (l.length - k)) ((same_upd np).trans (same_upd nr)) e0 (Ma.least_sum hp hs k) ?_
    rw [upd_same]
    congr 2
    unfold cutV
    rw [HT.sIx_none, List.drop_zero, Nat.sub_zero, List.map_take, vI_length, List.length_map, hlen]
    have e : (if ((l.length : Nat) : Int) - (k : Int) > 0 then ((l.length : Nat) : Int) - (k : Int) else 0) = ((l.length - k : Nat) : Int) := by
      split <;> omega
    rw [e, HT.sIx_nat, Nat.min_eq_left (by omega)]

end
end Cs

namespace Cs
open PySem PySem.Spec PyProof.Rows L2
open Km549 (Planner Delivery Commitment)
section
variable {P : Program} {w : World} {K : PySem.W.Frag} {mg : Str → Option Value} {base : Heap} {C CD : Addr}
def sp_supply_by (K : PySem.W.Frag) (C CD : Addr) : Sp := fun vs H Q _ => ∃ (p : Addr) (pl : Planner) (k d : Nat), vs = [.ref p, .int k, .int d] ∧ View C H p pl ∧ pl.deliveries.length ≤ 60 ∧
    ∀ (H' : Hp), Same H H' → Q (.int (Km549.certainSupply pl k d : Nat)) H'
theorem own_supply_by (T : Txt K mg C CD) : Own P w K mg base "supply_by" ["plan", "k", "day"] 2 (sp_supply_by K C CD) := by
  have G_least_amounts := own_least_amounts (P := P) (w := w) (base := base) T
  have G_amounts_by := own_amounts_by (P := P) (w := w) (base := base) T
  refine own_of T.h_supply_by sc_supply_by (fun _ _ _ _ _ _ us hl => match us, hl with | [_, _, _], _ => rfl) (fun vs H Q E h => ?_) (fun cdv A outer s H vs Q E hr h => ⟨_, (pss_one (ps_ret (pe_op op_add (pe_fld (pv 0) rfl) (pe_callB (cr_sum rfl) (by rfl) T.sum (by decide +kernel) (pa_cons (pe_own G_least_amounts hr (pa_cons (pe_own G_amounts_by hr (pa_cons (pe_fld (pv 0) rfl) (pa_cons (pv 2) pa_nil))) (pa_cons (pv 1) pa_nil))) pa_nil))))), ?_⟩)
  · obtain ⟨p, pl, k, d, rfl, hv, hz, kk⟩ := h
    rfl
  · obtain ⟨p, pl, k, d, rfl, hv, hz, kk⟩ := h
    obtain ⟨dx, ad, ac, x, y, z, h1, h2, h3⟩ := hv
    refine ⟨_, rfl, p, C, dx, _, _, rfl, h1, T.cl, T.nS, pF_stock, _, rfl, p, C, dx, _, _, rfl, h1, T.cl, T.nD, pF_deliveries, _, rfl, ad, _, d, rfl, h2, by omega, fun H1 r e1 nr hr => ?_⟩
    refine ⟨_, rfl, r, _, k, rfl, hr, ?_, fun H2 r2 ns e2 nr2 hs hr2 => ?_⟩
    · rw [List.length_map]
      have := List.length_filter_le (fun p : Delivery => decide (p.latest ≤ d)) pl.deliveries
      omega
    refine ⟨r2, ns, rfl, SqL.of hr2, _, _, rfl, rfl, ?_⟩
    have e : (pl.stock : Int) + ns.sum = ((Km549.certainSupply pl k d : Nat) : Int) := by
      rw [hs]
      show (pl.stock : Int) + ((Km549.sum (Km549.deliveriesBy pl d) - Km549.sumOfGreatest k (Km549.deliveriesBy pl d) : Nat) : Int) = ((pl.stock + (Km549.sum (Km549.deliveriesBy pl d) - Km549.sumOfGreatest k (Km549.deliveriesBy pl d)) : Nat) : Int)
      omega
    show Q (V.int ((pl.stock : Int) + ns.sum)) H2
    rw [e]
    exact kk H2 (e1.trans e2)

def sp_due_by (K : PySem.W.Frag) (C CD : Addr) : Sp := fun vs H Q _ => ∃ (p : Addr) (pl : Planner) (d : Nat), vs = [.ref p, .int d] ∧ View C H p pl ∧ pl.commitments.length ≤ 60 ∧
    ∀ (H' : Hp), Same H H' → Q (.int (Km549.dueBy pl d : Nat)) H'
theorem own_due_by (T : Txt K mg C CD) : Own P w K mg base "due_by" ["plan", "day"] 1 (sp_due_by K C CD) := by
  refine own_of T.h_due_by sc_due_by (fun _ _ _ _ _ _ us hl => match us, hl with | [_, _], _ => rfl) (fun vs H Q E h => ?_) (fun cdv A outer s H vs Q E hr h => ⟨_, (pss_one (ps_ret (pe_callB (cr_sum rfl) (by rfl) T.sum (by decide +kernel) (pa_cons (pe_lc (own := [("amount", 2), ("due", 3)]) (g := (gTup K 2 (gCons (gName 2) (gCons (gName 3) gNil)))) rfl sc_due_by.nd (pi_list (pe_fld (pv 0) rfl)) (blkOk_by (own := [("amount", 2), ("due", 3)]) (N := N_due_by) (sc := defScope s_due_by) (by decide +kernel)) (fun _ _ _ _ _ => (pg_tup rfl (pgs_cons (pg_name (i := 2) sc_due_by.nd rfl (Or.inl rfl)) (pgs_cons (pg_name (i := 3) sc_due_by.nd rfl (Or.inl rfl)) pgs_nil)))) (fun _ _ _ _ _ => pts_one (pt_cmpR op_le (pv 3) (pv 1) (nomark _))) (fun _ _ _ _ _ => (pv 2))) pa_nil)))), ?_⟩)
  · obtain ⟨p, pl, d, rfl, hv, hz, kk⟩ := h
    rfl
  · obtain ⟨p, pl, d, rfl, hv, hz, kk⟩ := h
    obtain ⟨dx, ad, ac, x, y, z, h1, h2, xs, h3, hp⟩ := hv
    refine ⟨_, rfl, p, C, dx, _, _, rfl, h1, T.cl, T.nC, pF_commitments, ac, rfl, ⟨_, SqL.of h3⟩, fun D hD => lc_keep (walk_list (xs := xs.map V.ref)) hD (fun H' e => SqL.of (e _ _ h3)) (fun i => ((pl.commitments.take i).filter fun p => decide (p.due ≤ d)).map fun p => V.int (p.amount : Int)) rfl ?_ ?_⟩
    · rintro i x H1 H2 hi e1 hF ⟨rfl, hxi⟩
      obtain ⟨x, q, rfl, hq, hxx⟩ := c_item (paired_mono hp e1) hxi
      refine ⟨x, _, rfl, SqT.of hxx, rfl, _, _, rfl, _, _, rfl, rfl, rfl, _, rfl, _, rfl, _, _, rfl, rfl, _, rfl, if2 (fun c => ?_) (fun c => ?_)⟩
      · have c := of_decide_eq_true c
        exact ⟨_, rfl, lc_yes hD e1 hF (Nat.lt_of_le_of_lt (flt_len _ _ _ _) (by omega)) (flt_yes hq (decide_eq_true (by omega)))⟩
      · have c := of_decide_eq_false c
        exact lc_no e1 hF (flt_no hq (decide_eq_false (by omega)))
    · intro H1 e1 hF
      have hl : (xs.map V.ref).length = pl.commitments.length := by rw [List.length_map, paired_len hp, cR_length]
      rw [hl, List.take_length] at hF
      refine ⟨D, Ma.nInts ((pl.commitments.filter fun p => decide (p.due ≤ d)).map fun p => p.amount), rfl, SqL.of (hF.trans ?_), ?_⟩
      · congr 2
        unfold Ma.nInts
        rw [List.map_map, List.map_map]
        rfl
      · rw [Ma.ints_sum, ← Ma.sum_eq]
        exact kk H1 e1

def sp_surplus_on (K : PySem.W.Frag) (C CD : Addr) : Sp := fun vs H Q _ => ∃ (p : Addr) (pl : Planner) (k d : Nat), vs = [.ref p, .int k, .int d] ∧ View C H p pl ∧ pl.deliveries.length ≤ 60 ∧ pl.commitments.length ≤ 60 ∧
    ∀ (H' : Hp), Same H H' → Q (.int (Km549.surplus pl k d)) H'
theorem own_surplus_on (T : Txt K mg C CD) : Own P w K mg base "surplus_on" ["plan", "k", "day"] 3 (sp_surplus_on K C CD) := by
  have G_supply_by := own_supply_by (P := P) (w := w) (base := base) T
  have G_due_by := own_due_by (P := P) (w := w) (base := base) T
  refine own_of T.h_surplus_on sc_surplus_on (fun _ _ _ _ _ _ us hl => match us, hl with | [_, _, _], _ => rfl) (fun vs H Q E h => ?_) (fun cdv A outer s H vs Q E hr h => ⟨_, (pss_one (ps_ret (pe_op op_sub (pe_own G_supply_by hr (pa_cons (pv 0) (pa_cons (pv 1) (pa_cons (pv 2) pa_nil)))) (pe_own G_due_by hr (pa_cons (pv 0) (pa_cons (pv 2) pa_nil)))))), ?_⟩)
  · obtain ⟨p, pl, k, d, rfl, hv, hz, hz2, kk⟩ := h
    rfl
  · obtain ⟨p, pl, k, d, rfl, hv, hz, hz2, kk⟩ := h
    refine ⟨_, rfl, _, rfl, _, rfl, p, pl, k, d, rfl, hv, hz, fun H1 e1 => ?_⟩
    refine ⟨_, rfl, _, rfl, p, pl, d, rfl, hv.same e1, hz2, fun H2 e2 => ?_⟩
    exact ⟨_, _, rfl, rfl, kk H2 (e1.trans e2)⟩

def optV : Option Nat → V
    | none => .non
    | some d => .int d
def sp_first_short_day (K : PySem.W.Frag) (C CD : Addr) : Sp := fun vs H Q _ => ∃ (p : Addr) (pl : Planner) (k : Nat), vs = [.ref p, .int k] ∧ View C H p pl ∧ pl.today ≤ 30 ∧ pl.deliveries.length ≤ 60 ∧ pl.commitments.length ≤ 60 ∧
    ∀ (H' : Hp), Same H H' → Q (optV (Ma.shortDay pl k)) H'
theorem own_first_short_day (T : Txt K mg C CD) : Own P w K mg base "first_short_day" ["plan", "k"] 4 (sp_first_short_day K C CD) := by
  have G_surplus_on := own_surplus_on (P := P) (w := w) (base := base) T
  refine own_of T.h_first_short_day sc_first_short_day (fun _ _ _ _ _ _ us hl => match us, hl with | [_, _], _ => rfl) (fun vs H Q E h => ?_) (fun cdv A outer s H vs Q E hr h => ⟨_, (pss_cons (ps_for PassesOwn.never rfl (pi_range2 (by rfl) T.range (pa_cons (pe_fld (pv 0) rfl) (pa_cons (pe_op op_add (pe_gint T.c_LAST_DAY) pe_int) pa_nil))) (pg_name (i := 2) sc_first_short_day.nd rfl (Or.inl rfl)) (pss_one (ps_if (pt_cmpR op_lt (pe_own G_surplus_on hr (pa_cons (pv 0) (pa_cons (pv 1) (pa_cons (pv 2) pa_nil)))) pe_int (nomark _)) (pss_one (ps_ret (pv 2))) pss_nil))) (pss_one (ps_ret pe_non))), ?_⟩)
  · obtain ⟨p, pl, k, rfl, hv, ht, hz, hz2, kk⟩ := h
    rfl
  · obtain ⟨p, pl, k, rfl, hv, ht, hz, hz2, kk⟩ := h
    have hv0 := hv
    obtain ⟨dx, ad, ac, x, y, z, h1, h2, h3⟩ := hv
    have ed := Ma.daysFrom_eq pl (Nat.le_refl pl.today)
    refine ⟨_, rfl, p, C, dx, _, _, rfl, h1, T.cl, T.nT, pF_today, _, _, rfl, rfl, _, _, rfl, by omega, for_range (lo := (pl.today : Int)) (n := ((30 : Int) + 1 - pl.today).toNat) (fun i σ H' => (∃ v, σ = [some (.ref p), some (.int k), v]) ∧ Same H H' ∧ ∀ j, j < i → decide (Km549.surplus pl k (pl.today + j) < 0) = false) ⟨⟨none, rfl⟩, Same.refl _, fun j hj => by omega⟩ ?_ ?_⟩
    · rintro i σ H' hi ⟨⟨v, rfl⟩, e1, hj⟩
      refine ⟨_, rfl, _, rfl, _, rfl, p, pl, k, pl.today + i, ?_, hv0.same e1, hz, hz2, fun H2 e2 => ?_⟩
      · show ([V.ref p, V.int k, V.int ((pl.today : Int) + (i : Int))] : List V) = [V.ref p, V.int k, V.int ((pl.today + i : Nat) : Int)]
        rw [Int.natCast_add]
      refine ⟨_, _, rfl, rfl, _, rfl, if2 (fun c => ?_) (fun c => ?_)⟩
      · refine ⟨_, rfl, ?_⟩
        have e : Ma.shortDay pl k = some (pl.today + i) := by
          unfold Ma.shortDay
          rw [ed]
          exact Ma.find_at (by omega) hj c
        have q := kk H2 (e1.trans e2)
        rw [e] at q
        exact q
      · refine ⟨⟨_, rfl⟩, e1.trans e2, fun j h => ?_⟩
        by_cases q : j = i
        · rw [q]
          exact c
        · exact hj j (by omega)
    · rintro σ H' ⟨⟨v, rfl⟩, e1, hj⟩
      have e : Ma.shortDay pl k = none := by
        unfold Ma.shortDay
        rw [ed]
        exact Ma.find_not fun j h => hj j (by omega)
      have q := kk H' e1
      rw [e] at q
      exact q

def sp_is_covered (K : PySem.W.Frag) (C CD : Addr) : Sp := fun vs H Q _ => ∃ (p : Addr) (pl : Planner) (k : Nat), vs = [.ref p, .int k] ∧ View C H p pl ∧ pl.today ≤ 30 ∧ pl.deliveries.length ≤ 60 ∧ pl.commitments.length ≤ 60 ∧
    ∀ (H' : Hp), Same H H' → Q (.bl (Km549.isCovered pl k)) H'
theorem own_is_covered (T : Txt K mg C CD) : Own P w K mg base "is_covered" ["plan", "k"] 5 (sp_is_covered K C CD) := by
  have G_first_short_day := own_first_short_day (P := P) (w := w) (base := base) T
  refine own_of T.h_is_covered sc_is_covered (fun _ _ _ _ _ _ us hl => match us, hl with | [_, _], _ => rfl) (fun vs H Q E h => ?_) (fun cdv A outer s H vs Q E hr h => ⟨_, (pss_one (ps_ret (pe_cmp (pc_isN (pe_own G_first_short_day hr (pa_cons (pv 0) (pa_cons (pv 1) pa_nil))))))), ?_⟩)
  · obtain ⟨p, pl, k, rfl, hv, ht, hz, hz2, kk⟩ := h
    rfl
  · obtain ⟨p, pl, k, rfl, hv, ht, hz, hz2, kk⟩ := h
    refine ⟨_, rfl, _, rfl, p, pl, k, rfl, hv, ht, hz, hz2, fun H1 e1 => ?_⟩
    have q := kk H1 e1
    rw [Ma.isCovered_eq] at q
    cases e : Ma.shortDay pl k with
    | none =>
      rw [e] at q
      exact q
    | some d =>
      rw [e] at q
      exact q

def sp_is_safe (K : PySem.W.Frag) (C CD : Addr) : Sp := fun vs H Q _ => ∃ (p : Addr) (pl : Planner) (k d : Nat), vs = [.ref p, .int k, .int d] ∧ View C H p pl ∧ pl.today ≤ 30 ∧ pl.deliveries.length ≤ 60 ∧ pl.commitments.length ≤ 60 ∧
    ∀ (H' : Hp), Same H H' → Q (.bl (Ma.safeBy pl k d)) H'
theorem own_is_safe (T : Txt K mg C CD) : Own P w K mg base "is_safe" ["plan", "k", "due"] 5 (sp_is_safe K C CD) := by
  have G_first_short_day := own_first_short_day (P := P) (w := w) (base := base) T
  refine own_of T.h_is_safe sc_is_safe (fun _ _ _ _ _ _ us hl => match us, hl with | [_, _, _], _ => rfl) (fun vs H Q E h => ?_) (fun cdv A outer s H vs Q E hr h => ⟨_, (pss_cons (ps_set (i := 3) sc_is_safe.nd rfl (Or.inl rfl) (pe_own G_first_short_day hr (pa_cons (pv 0) (pa_cons (pv 1) pa_nil)))) (pss_one (ps_ret (pe_or (pe_cmp (pc_isN (pv 3))) (pe_one (pe_cmpR op_gt (pv 3) (pv 2) (nomark _))))))), ?_⟩)
  · obtain ⟨p, pl, k, d, rfl, hv, ht, hz, hz2, kk⟩ := h
    rfl
  · obtain ⟨p, pl, k, d, rfl, hv, ht, hz, hz2, kk⟩ := h
    refine ⟨_, rfl, _, rfl, p, pl, k, rfl, hv, ht, hz, hz2, fun H1 e1 => ?_⟩
    have q := kk H1 e1
    unfold Ma.safeBy at q
    cases e : Ma.shortDay pl k with
    | none =>
      rw [e] at q
      exact ⟨_, rfl, _, rfl, iteT q⟩
    | some s =>
      rw [e] at q
      refine ⟨_, rfl, _, rfl, iteF ?_⟩
      refine ⟨_, rfl, _, rfl, _, _, rfl, rfl, ?_⟩
      have e2 : decide ((d : Int) < (s : Int)) = decide (d < s) := decide_eq_decide.mpr (by omega)
      show Q (V.bl (decide ((d : Int) < (s : Int)))) H1
      rw [e2]
      exact q

def safeNs (pl : Planner) (k n : Nat) : List Nat := (List.range n).filter fun j => match pl.commitments[j]? with
    | none => false
    | some c => Ma.safeBy pl k c.due
def sp_safe_numbers (K : PySem.W.Frag) (C CD : Addr) : Sp := fun vs H Q _ => ∃ (p : Addr) (pl : Planner) (k : Nat), vs = [.ref p, .int k] ∧ View C H p pl ∧ pl.today ≤ 30 ∧ pl.deliveries.length ≤ 60 ∧ pl.commitments.length ≤ 60 ∧
    ∀ (H' : Hp) (r : Addr), Same H H' → H r = none → H' r = some (.lst (vI (safeNs pl k pl.commitments.length))) → Q (.ref r) H'
theorem safeNs_succ {pl : Planner} {k n : Nat} {c : Commitment} (h : pl.commitments[n]? = some c) : safeNs pl k (n + 1) = if Ma.safeBy pl k c.due = true then safeNs pl k n ++ [n] else safeNs pl k n := by
  unfold safeNs
  rw [List.range_succ, List.filter_append]
  cases q : Ma.safeBy pl k c.due <;> simp [h, q]
theorem safeNs_length (pl : Planner) (k n : Nat) : (safeNs pl k n).length ≤ n := by
  have := List.length_filter_le (fun j => match pl.commitments[j]? with | none => false | some c => Ma.safeBy pl k c.due) (List.range n)
  rw [List.length_range] at this
  exact this
theorem own_safe_numbers (T : Txt K mg C CD) : Own P w K mg base "safe_numbers" ["plan", "k"] 6 (sp_safe_numbers K C CD) := by
  have G_is_safe := own_is_safe (P := P) (w := w) (base := base) T
  refine own_of T.h_safe_numbers sc_safe_numbers (fun _ _ _ _ _ _ us hl => match us, hl with | [_, _], _ => rfl) (fun vs H Q E h => ?_) (fun cdv A outer s H vs Q E hr h => ⟨_, (pss_one (ps_ret (pe_lc (own := [("number", 2), ("amount", 3), ("due", 4)]) (g := (gTup K 2 (gCons (gName 2) (gCons (gTup K 2 (gCons (gName 3) (gCons (gName 4) gNil))) gNil)))) rfl sc_safe_numbers.nd (pi_enum (by rfl) T.enumerate (pa_cons (pe_fld (pv 0) rfl) pa_nil)) (blkOk_by (own := [("number", 2), ("amount", 3), ("due", 4)]) (N := N_safe_numbers) (sc := defScope s_safe_numbers) (by decide +kernel)) (fun _ _ _ _ _ => (pg_tup rfl (pgs_cons (pg_name (i := 2) sc_safe_numbers.nd rfl (Or.inl rfl)) (pgs_cons (pg_tup rfl (pgs_cons (pg_name (i := 3) sc_safe_numbers.nd rfl (Or.inl rfl)) (pgs_cons (pg_name (i := 4) sc_safe_numbers.nd rfl (Or.inl rfl)) pgs_nil))) pgs_nil)))) (fun _ _ _ _ _ => pts_one (pt_val (pe_own G_is_safe hr (pa_cons (pv 0) (pa_cons (pv 1) (pa_cons (pv 4) pa_nil)))))) (fun _ _ _ _ _ => (pv 2))))), ?_⟩)
  · obtain ⟨p, pl, k, rfl, hv, ht, hz, hz2, kk⟩ := h
    rfl
  · obtain ⟨p, pl, k, rfl, hv, ht, hz, hz2, kk⟩ := h
    have hv0 := hv
    obtain ⟨dx, ad, ac, x, y, z, h1, h2, xs, h3, hp⟩ := hv
    have hl : (xs.map V.ref).length = pl.commitments.length := by rw [List.length_map, paired_len hp, cR_length]
    refine ⟨_, rfl, p, C, dx, _, _, rfl, h1, T.cl, T.nC, pF_commitments, ac, xs.map V.ref, rfl, SqL.of h3, fun D hD => lc_keep (walk_enum (xs := xs.map V.ref)) hD (fun H' e => SqL.of (e _ _ h3)) (fun i => vI (safeNs pl k i)) rfl ?_ ?_⟩
    · rintro i v H1 H2 hi e1 hF ⟨tp, vi, vx, rfl, nt, rfl, hvi, hxi⟩
      have hvi := Option.some.inj hvi
      subst hvi
      have e2 : Same H1 (upd H1 tp (.tup [.int (i : Nat), vx])) := same_upd nt
      obtain ⟨x, q, rfl, hq, hxx⟩ := c_item (paired_mono hp (e1.trans e2)) hxi
      refine ⟨tp, _, rfl, SqT.of upd_same, rfl, _, _, rfl, _, _, rfl, ⟨x, _, rfl, SqT.of hxx, rfl, _, _, rfl, _, _, rfl, rfl, rfl, rfl, ?_⟩⟩
      refine ⟨_, rfl, _, rfl, _, rfl, p, pl, k, q.due, rfl, hv0.same (e1.trans e2), ht, hz, hz2, fun H3 e3 => ⟨_, rfl, if2 (fun c => ?_) (fun c => ?_)⟩⟩
      · refine ⟨_, rfl, lc_yes hD ((e1.trans e2).trans e3) (e3 _ _ (e2 _ _ hF)) (by rw [vI_length]; have := safeNs_length pl k i; omega) ?_⟩
        rw [safeNs_succ hq, if_pos c, vI_append]
        rfl
      · refine lc_no ((e1.trans e2).trans e3) (e3 _ _ (e2 _ _ hF)) ?_
        rw [safeNs_succ hq, if_neg (by rw [c]; exact Bool.false_ne_true)]
    · intro H1 e1 hF
      rw [hl] at hF
      exact kk H1 D e1 hD hF

end
end Cs

namespace Cs
open PySem PySem.Spec PyProof.Rows L2
open Km549 (Planner Delivery Commitment)
section
variable {P : Program} {w : World} {K : PySem.W.Frag} {mg : Str → Option Value} {base : Heap} {C CD : Addr}
def sp_available_on (K : PySem.W.Frag) (C CD : Addr) : Sp := fun vs H Q _ => ∃ (p : Addr) (pl : Planner) (k d : Nat), vs = [.ref p, .int k, .int d] ∧ View C H p pl ∧ pl.today ≤ d ∧ d ≤ 30 ∧ pl.deliveries.length ≤ 60 ∧ pl.commitments.length ≤ 60 ∧
    ∀ (H' : Hp), Same H H' → Q (.int (Km549.available pl k d)) H'
theorem own_available_on (T : Txt K mg C CD) : Own P w K mg base "available_on" ["plan", "k", "day"] 4 (sp_available_on K C CD) := by
  have G_surplus_on := own_surplus_on (P := P) (w := w) (base := base) T
  refine own_of T.h_available_on sc_available_on (fun _ _ _ _ _ _ us hl => match us, hl with | [_, _, _], _ => rfl) (fun vs H Q E h => ?_) (fun cdv A outer s H vs Q E hr h => ⟨_, (pss_one (ps_ret (pe_callB (cr_min rfl) (by rfl) T.min (by decide +kernel) (pa_cons (pe_lc (own := [("other", 3)]) (g := (gName 3)) (tt := tYes) rfl sc_available_on.nd (pi_range2 (by rfl) T.range (pa_cons (pv 2) (pa_cons (pe_op op_add (pe_gint T.c_LAST_DAY) pe_int) pa_nil))) (blkOk_by (own := [("other", 3)]) (N := N_available_on) (sc := defScope s_available_on) (by decide +kernel)) (fun _ _ _ _ _ => (pg_name (i := 3) sc_available_on.nd rfl (Or.inl rfl))) (fun _ _ _ _ _ => pts_nil) (fun _ _ _ _ _ => (pe_own G_surplus_on hr (pa_cons (pv 0) (pa_cons (pv 1) (pa_cons (pv 3) pa_nil)))))) pa_nil)))), ?_⟩)
  · obtain ⟨p, pl, k, d, rfl, hv, ht, hd, hz, hz2, kk⟩ := h
    rfl
  · obtain ⟨p, pl, k, d, rfl, hv, ht, hd, hz, hz2, kk⟩ := h
    refine ⟨_, rfl, _, _, rfl, rfl, _, _, rfl, by omega, fun D hD => lc_keep (walk_range (lo := (d : Int)) (n := ((30 : Int) + 1 - d).toNat)) hD (fun _ _ => trivial) (fun i => (List.range i).map fun i => V.int (Km549.surplus pl k (d + i))) rfl ?_ ?_⟩
    · rintro i v H1 H2 hi e1 hF ⟨rfl, rfl⟩
      refine ⟨rfl, tyes ?_⟩
      refine ⟨_, rfl, _, rfl, _, rfl, p, pl, k, d + i, ?_, hv.same e1, hz, hz2, fun H3 e3 => ?_⟩
      · show ([V.ref p, V.int k, V.int ((d : Int) + (i : Int))] : List V) = [V.ref p, V.int k, V.int ((d + i : Nat) : Int)]
        rw [Int.natCast_add]
      · refine lc_yes hD (e1.trans e3) (e3 _ _ hF) (by rw [List.length_map, List.length_range]; omega) ?_
        rw [List.range_succ, List.map_append]
        rfl
    · intro H1 e1 hF
      have en : ((30 : Int) + 1 - d).toNat = 31 - d := by omega
      rw [en] at hF
      refine ⟨D, (List.range (31 - d)).map fun i => Km549.surplus pl k (d + i), rfl, SqL.of (hF.trans ?_), by rw [List.length_map, List.length_range]; omega, fun m hm hl => ?_⟩
      · rw [List.map_map]
        rfl
      · have q := kk H1 e1
        rw [Ma.available_eq pl k ht hd hm hl] at q
        exact q

def sp_first_day_with (K : PySem.W.Frag) (C CD : Addr) : Sp := fun vs H Q _ => ∃ (p : Addr) (pl : Planner) (k a : Nat), vs = [.ref p, .int k, .int a] ∧ View C H p pl ∧ pl.today ≤ 30 ∧ pl.deliveries.length ≤ 60 ∧ pl.commitments.length ≤ 60 ∧
    ∀ (H' : Hp), Same H H' → Q (optV (Km549.earliestDay pl k a)) H'
theorem own_first_day_with (T : Txt K mg C CD) : Own P w K mg base "first_day_with" ["plan", "k", "amount"] 5 (sp_first_day_with K C CD) := by
  have G_available_on := own_available_on (P := P) (w := w) (base := base) T
  refine own_of T.h_first_day_with sc_first_day_with (fun _ _ _ _ _ _ us hl => match us, hl with | [_, _, _], _ => rfl) (fun vs H Q E h => ?_) (fun cdv A outer s H vs Q E hr h => ⟨_, (pss_cons (ps_for PassesOwn.never rfl (pi_range2 (by rfl) T.range (pa_cons (pe_fld (pv 0) rfl) (pa_cons (pe_op op_add (pe_gint T.c_LAST_DAY) pe_int) pa_nil))) (pg_name (i := 3) sc_first_day_with.nd rfl (Or.inl rfl)) (pss_one (ps_if (pt_cmpR op_ge (pe_own G_available_on hr (pa_cons (pv 0) (pa_cons (pv 1) (pa_cons (pv 3) pa_nil)))) (pv 2) (nomark _)) (pss_one (ps_ret (pv 3))) pss_nil))) (pss_one (ps_ret pe_non))), ?_⟩)
  · obtain ⟨p, pl, k, a, rfl, hv, ht, hz, hz2, kk⟩ := h
    rfl
  · obtain ⟨p, pl, k, a, rfl, hv, ht, hz, hz2, kk⟩ := h
    have hv0 := hv
    obtain ⟨dx, ad, ac, x, y, z, h1, h2, h3⟩ := hv
    refine ⟨_, rfl, p, C, dx, _, _, rfl, h1, T.cl, T.nT, pF_today, _, _, rfl, rfl, _, _, rfl, by omega, for_range (lo := (pl.today : Int)) (n := ((30 : Int) + 1 - pl.today).toNat) (fun i σ H' => (∃ v, σ = [some (.ref p), some (.int k), some (.int a), v]) ∧ Same H H' ∧ ∀ j, j < i → decide ((a : Int) ≤ Km549.available pl k (pl.today + j)) = false) ⟨⟨none, rfl⟩, Same.refl _, fun j hj => by omega⟩ ?_ ?_⟩
    · rintro i σ H' hi ⟨⟨v, rfl⟩, e1, hj⟩
      refine ⟨_, rfl, _, rfl, _, rfl, p, pl, k, pl.today + i, ?_, hv0.same e1, by omega, by omega, hz, hz2, fun H2 e2 => ?_⟩
      · show ([V.ref p, V.int k, V.int ((pl.today : Int) + (i : Int))] : List V) = [V.ref p, V.int k, V.int ((pl.today + i : Nat) : Int)]
        rw [Int.natCast_add]
      refine ⟨_, rfl, _, _, rfl, rfl, _, rfl, if2 (fun c => ?_) (fun c => ?_)⟩
      · refine ⟨_, rfl, ?_⟩
        have e : Km549.earliestDay pl k a = some (pl.today + i) := by
          rw [Ma.earliest_eq]
          exact Ma.find_at (by omega) hj c
        have q := kk H2 (e1.trans e2)
        rw [e] at q
        exact q
      · refine ⟨⟨_, rfl⟩, e1.trans e2, fun j h => ?_⟩
        by_cases q : j = i
        · rw [q]
          exact c
        · exact hj j (by omega)
    · rintro σ H' ⟨⟨v, rfl⟩, e1, hj⟩
      have e : Km549.earliestDay pl k a = none := by
        rw [Ma.earliest_eq]
        exact Ma.find_not fun j h => hj j (by omega)
      have q := kk H' e1
      rw [e] at q
      exact q

def sp_tolerance_of (K : PySem.W.Frag) (C CD : Addr) : Sp := fun vs H Q _ => ∃ (p : Addr) (pl : Planner), vs = [.ref p] ∧ View C H p pl ∧ pl.today ≤ 30 ∧ pl.deliveries.length ≤ 60 ∧ pl.commitments.length ≤ 60 ∧
    ∀ (H' : Hp), Same H H' → Q (optV (Km549.tolerance pl)) H'
theorem own_tolerance_of (T : Txt K mg C CD) : Own P w K mg base "tolerance_of" ["plan"] 6 (sp_tolerance_of K C CD) := by
  have G_is_covered := own_is_covered (P := P) (w := w) (base := base) T
  refine own_of T.h_tolerance_of sc_tolerance_of (fun _ _ _ _ _ _ us hl => match us, hl with | [_], _ => rfl) (fun vs H Q E h => ?_) (fun cdv A outer s H vs Q E hr h => ⟨_, (pss_cons (ps_set (i := 1) sc_tolerance_of.nd rfl (Or.inl rfl) pe_non) (pss_cons (ps_for PassesOwn.never rfl (pi_range1 (by rfl) T.range (pa_cons (pe_op op_add (pe_callB call_len_seq (by rfl) T.len PySem.boot_len (pa_cons (pe_fld (pv 0) rfl) pa_nil)) pe_int) pa_nil)) (pg_name (i := 2) sc_tolerance_of.nd rfl (Or.inl rfl)) (pss_one (ps_if (pt_val (pe_own G_is_covered hr (pa_cons (pv 0) (pa_cons (pv 2) pa_nil)))) (pss_one (ps_set (i := 1) sc_tolerance_of.nd rfl (Or.inl rfl) (pv 2))) pss_nil))) (pss_one (ps_ret (pv 1))))), ?_⟩)
  · obtain ⟨p, pl, rfl, hv, ht, hz, hz2, kk⟩ := h
    rfl
  · obtain ⟨p, pl, rfl, hv, ht, hz, hz2, kk⟩ := h
    have hv0 := hv
    obtain ⟨dx, ad, ac, x, y, z, h1, ⟨xs, h2, hp⟩, h3⟩ := hv
    have hl : (xs.map V.ref).length = pl.deliveries.length := by rw [List.length_map, paired_len hp, dR_length]
    have en : (((xs.map V.ref).length : Int) + 1).toNat = pl.deliveries.length + 1 := by omega
    refine ⟨_, rfl, p, C, dx, _, _, rfl, h1, T.cl, T.nD, pF_deliveries, ad, _, rfl, .inl (SqL.of h2), _, _, rfl, rfl, _, rfl, by omega, by omega, for_range (lo := 0) (n := (((xs.map V.ref).length : Int) + 1).toNat) (fun i σ H' => (∃ v, σ = [some (.ref p), some (optV (Ma.lastCov pl i)), v]) ∧ Same H H') ⟨⟨none, rfl⟩, Same.refl _⟩ ?_ ?_⟩
    · rintro i σ H' hi ⟨⟨v, rfl⟩, e1⟩
      refine ⟨_, rfl, _, rfl, p, pl, i, ?_, hv0.same e1, ht, hz, hz2, fun H2 e2 => ⟨_, rfl, if2 (fun c => ?_) (fun c => ?_)⟩⟩
      · show ([V.ref p, V.int ((0 : Int) + (i : Int))] : List V) = [V.ref p, V.int (i : Int)]
        rw [Int.zero_add]
      · refine ⟨_, rfl, ⟨some (.int ((0 : Int) + (i : Nat))), ?_⟩, e1.trans e2⟩
        rw [Ma.lastCov_succ, if_pos c]
        show _ = [some (V.ref p), some (V.int (i : Int)), _]
        rw [Int.zero_add]
        rfl
      · refine ⟨⟨some (.int ((0 : Int) + (i : Nat))), ?_⟩, e1.trans e2⟩
        rw [Ma.lastCov_succ, if_neg (by rw [c]; exact Bool.false_ne_true)]
        rfl
    · rintro σ H' ⟨⟨v, rfl⟩, e1⟩
      refine ⟨_, rfl, ?_⟩
      have q := kk H' e1
      rw [Ma.tolerance_eq, ← en] at q
      exact q

def sp_Plan_init (K : PySem.W.Frag) (C CD : Addr) : Sp := fun vs H Q _ => ∃ (p dx : Addr) (s : Nat), vs = [.ref p, .int s] ∧ H p = some (.ins C dx []) ∧
    ∀ (H' : Hp), PlanAt C H' p ⟨0, s, [], [], 0, 0, 0⟩ → Keep p H H' → (∀ (C' dxp : Addr) (t u : V) (ad ac : Addr) (x y z : V), H' p = some (.ins C' dxp (pF t u (.ref ad) (.ref ac) x y z)) → H ad = none ∧ H ac = none) → Q .non H'
theorem pF_inj {a b c d e f g a' b' c' d' e' f' g' : V} (h : pF a b c d e f g = pF a' b' c' d' e' f' g') : c = c' ∧ d = d' := by
  unfold pF at h
  simp only [List.cons.injEq, Prod.mk.injEq, true_and] at h
  exact ⟨h.2.2.1, h.2.2.2.1⟩
theorem own_Plan_init (T : Txt K mg C CD) : OwnM P w K mg base (Mk K C) ["self", "stock"] 1 (sp_Plan_init K C CD) := by
  refine own_ofM T.h_Plan_init sc_Plan_init (fun _ _ _ _ _ _ us hl => match us, hl with | [_, _], _ => rfl) (fun vs H Q E h => ?_) (fun cdv A outer s H vs Q E hr h => ⟨_, (pss_cons (ps_fld (pv 0) pe_int rfl) (pss_cons (ps_fld (pv 0) (pv 1) rfl) (pss_cons (ps_fld (pv 0) (pe_lst pa_nil) rfl) (pss_cons (ps_fld (pv 0) (pe_lst pa_nil) rfl) (pss_cons (ps_fld (pv 0) pe_int rfl) (pss_cons (ps_fld (pv 0) pe_int rfl) (pss_one (ps_fld (pv 0) pe_int rfl)))))))), ?_⟩)
  · obtain ⟨p, dx, s, rfl, h0, kk⟩ := h
    rfl
  · obtain ⟨p, dx, s, rfl, h0, kk⟩ := h
    refine ⟨_, rfl, p, C, dx, [], rfl, h0, T.cl, T.nT, (by show 0 < 1000; decide), ?_⟩
    refine ⟨_, rfl, _, rfl, p, C, dx, _, rfl, upd_same, T.cl, T.nS, (by show 1 < 1000; decide), ?_⟩
    rw [upd_upd]
    refine ⟨Nat.zero_le _, fun a na => ?_⟩
    have nap : a ≠ p := by
      intro e
      rw [e, upd_same] at na
      cases na
    refine ⟨_, rfl, p, C, dx, _, rfl, (upd_ne nap.symm).trans upd_same, T.cl, T.nD, (by show 2 < 1000; decide), ?_⟩
    refine ⟨Nat.zero_le _, fun b nb => ?_⟩
    have nbp : b ≠ p := by
      intro e
      rw [e, upd_same] at nb
      cases nb
    rw [upd_ne nbp] at nb
    have nba : b ≠ a := by
      intro e
      rw [e, upd_same] at nb
      cases nb
    have na' : H a = none := by rwa [upd_ne nap] at na
    have nb' : H b = none := by rwa [upd_ne nba, upd_ne nbp] at nb
    refine ⟨_, rfl, p, C, dx, _, rfl, (upd_ne nbp.symm).trans upd_same, T.cl, T.nC, (by show 3 < 1000; decide), ?_⟩
    refine ⟨_, rfl, p, C, dx, _, rfl, upd_same, T.cl, T.nA, (by show 4 < 1000; decide), ?_⟩
    rw [upd_upd]
    refine ⟨_, rfl, p, C, dx, _, rfl, upd_same, T.cl, T.nF, (by show 5 < 1000; decide), ?_⟩
    rw [upd_upd]
    refine ⟨_, rfl, p, C, dx, _, rfl, upd_same, T.cl, T.nU, (by show 6 < 1000; decide), ?_⟩
    rw [upd_upd]
    refine kk _ ⟨dx, a, b, ?_, ⟨[], ?_, .nil⟩, ⟨[], ?_, .nil⟩⟩ (fun c o q n => ?_) fun C' dxp t u ad ac x y z e => ?_
    · rw [upd_same]
      exact congrArg (fun q => some (HO.ins C dx q)) pF_new
    · rw [upd_ne nap, upd_ne nba.symm, upd_ne nap, upd_same]
      rfl
    · rw [upd_ne nbp, upd_same]
      rfl
    · rw [upd_ne n, upd_ne (ne_of_none q nb'), upd_ne n, upd_ne (ne_of_none q na'), upd_ne n]
      exact q
    · rw [upd_same] at e
      have e := HO.ins.inj (Option.some.inj e)
      have e := pF_inj (pF_new.symm.trans e.2.2)
      rw [← V.ref.inj e.1, ← V.ref.inj e.2]
      exact ⟨na', nb'⟩

def sp_plan_like (K : PySem.W.Frag) (C CD : Addr) : Sp := fun vs H Q _ => ∃ (p : Addr) (pl : Planner) (ad : Addr) (ds : List Delivery) (ac : Addr) (cs : List Commitment), vs = [.ref p, .ref ad, .ref ac] ∧ View C H p pl ∧ Rows H ad (dR ds) ∧ Rows H ac (cR cs) ∧
    ∀ (H' : Hp) (r : Addr), Same H H' → View C H' r { pl with deliveries := ds, commitments := cs } → Q (.ref r) H'
theorem own_plan_like (T : Txt K mg C CD) : Own P w K mg base "plan_like" ["plan", "deliveries", "commitments"] 3 (sp_plan_like K C CD) := by
  obtain ⟨G_Plan_f, G_Plan_fd, G_Plan_m, G_Plan_b, G_Plan_F⟩ := (own_Plan_init (P := P) (w := w) (base := base) T).ex
  refine own_of T.h_plan_like sc_plan_like (fun _ _ _ _ _ _ us hl => match us, hl with | [_, _, _], _ => rfl) (fun vs H Q E h => ?_) (fun cdv A outer s H vs Q E hr h => ⟨_, (pss_cons (ps_set (i := 3) sc_plan_like.nd rfl (Or.inl rfl) (pe_make G_Plan_m G_Plan_F (hr.mono (by decide)) rfl T.gP G_Plan_b .nil pass0 (pa_cons (pe_fld (pv 0) rfl) pa_nil))) (pss_cons (ps_fld (pv 3) (pe_fld (pv 0) rfl) rfl) (pss_cons (ps_fld (pv 3) (pv 1) rfl) (pss_cons (ps_fld (pv 3) (pv 2) rfl) (pss_one (ps_ret (pv 3))))))), ?_⟩)
  · obtain ⟨p, pl, ad, ds, ac, cs, rfl, hv, hd, hc, kk⟩ := h
    rfl
  · obtain ⟨p, pl, ad, ds, ac, cs, rfl, hv, hd, hc, kk⟩ := h
    obtain ⟨dx, ad0, ac0, x, y, z, h1, h2, h3⟩ := hv
    refine ⟨_, rfl, p, C, dx, _, _, rfl, h1, T.cl, T.nS, pF_stock, ?_⟩
    intro r dr nr ndr ne
    refine ⟨r, dr, pl.stock, rfl, upd_same, fun H1 ⟨dx1, a1, c1, q1, q2, q3⟩ e1 _ => ⟨rfl, ?_⟩⟩
    have s1 : Same H H1 := Same.made nr ndr e1
    refine ⟨_, rfl, p, C, dx, _, _, rfl, s1 _ _ h1, T.cl, T.nT, pF_today, _, rfl, r, C, dx1, _, rfl, q1, T.cl, T.nT, (by show 7 < 1000; decide), ?_⟩
    rw [pF_today_put]
    refine ⟨_, rfl, _, rfl, r, C, dx1, _, rfl, upd_same, T.cl, T.nD, (by show 7 < 1000; decide), ?_⟩
    rw [pF_deliveries_put, upd_upd]
    refine ⟨_, rfl, _, rfl, r, C, dx1, _, rfl, upd_same, T.cl, T.nC, (by show 7 < 1000; decide), ?_⟩
    rw [pF_commitments_put, upd_upd]
    refine ⟨_, rfl, ?_⟩
    have s2 : Same H (upd H1 r (.ins C dx1 (pF (.int pl.today) (.int pl.stock) (.ref ad) (.ref ac) (.int (0 : Nat)) (.int (0 : Nat)) (.int (0 : Nat))))) := fun b o e => by
      rw [upd_ne (ne_of_none e nr)]
      exact s1 _ _ e
    exact kk _ r s2 ⟨dx1, ad, ac, _, _, _, upd_same, hd.same s2, hc.same s2⟩

def sp_without_row (K : PySem.W.Frag) (C CD : Addr) : Sp := fun vs H Q _ => ∃ (a : Addr) (rows : List (List Int)) (j : Nat), vs = [.ref a, .int j] ∧ Rows H a rows ∧ j < rows.length ∧ rows.length ≤ 60 ∧
    ∀ (H' : Hp) (r : Addr), Same H H' → H r = none → Rows H' r (rows.eraseIdx j) → Q (.ref r) H'
theorem own_without_row (T : Txt K mg C CD) : Own P w K mg base "without_row" ["rows", "at"] 1 (sp_without_row K C CD) := by
  refine own_of T.h_without_row sc_without_row (fun _ _ _ _ _ _ us hl => match us, hl with | [_, _], _ => rfl) (fun vs H Q E h => ?_) (fun cdv A outer s H vs Q E hr h => ⟨_, (pss_one (ps_ret (pe_op op_cat (pe_slice sl_list (pv 0) po_none (po_some (pv 1))) (pe_slice sl_list (pv 0) (po_some (pe_op op_add (pv 1) pe_int)) po_none)))), ?_⟩)
  · obtain ⟨a, rows, j, rfl, hr, hj, hz, kk⟩ := h
    rfl
  · obtain ⟨a, rows, j, rfl, hr, hj, hz, kk⟩ := h
    obtain ⟨xs, hx, hp⟩ := hr
    have hl : xs.length = rows.length := paired_len hp
    refine ⟨_, rfl, _, rfl, _, rfl, a, _, rfl, SqL.of hx, fun r1 n1 => ?_⟩
    have s1 := same_upd (o := .lst (cutV (xs.map V.ref) none (some (j : Int)))) n1
    refine ⟨_, rfl, _, rfl, _, _, rfl, rfl, _, rfl, a, _, rfl, SqL.of (s1 _ _ hx), fun r2 n2 => ?_⟩
    have s2 := same_upd (o := .lst (cutV (xs.map V.ref) (some ((j : Int) + 1)) none)) n2
    have e1 : cutV (xs.map V.ref) none (some (j : Int)) = (xs.take j).map V.ref := by
      unfold cutV
      rw [HT.sIx_none, List.drop_zero, Nat.sub_zero, HT.sIx_nat, List.length_map, Nat.min_eq_left (by omega), List.map_take]
    have e2 : cutV (xs.map V.ref) (some ((j : Int) + 1)) none = (xs.drop (j + 1)).map V.ref := by
      unfold cutV
      rw [HT.sIx_none, show ((j : Int) + 1) = ((j + 1 : Nat) : Int) by omega, HT.sIx_nat, List.length_map, Nat.min_eq_left (by omega), ← List.map_drop, List.take_of_length_le (by rw [List.length_map, List.length_drop]; omega)]
    refine ⟨r1, r2, _, _, rfl, rfl, s2 _ _ upd_same, upd_same, ?_, fun r n3 => ?_⟩
    · rw [e1, e2, List.length_map, List.length_map, List.length_take, List.length_drop]
      exact small_line (by omega)
    have s3 := same_upd (o := .lst (cutV (xs.map V.ref) none (some (j : Int)) ++ cutV (xs.map V.ref) (some ((j : Int) + 1)) none)) n3
    have s := (s1.trans s2).trans s3
    refine kk _ r s ((s1.trans s2).free n3) ⟨xs.take j ++ xs.drop (j + 1), ?_, ?_⟩
    · rw [upd_same, e1, e2, List.map_append]
    · rw [Ma.eraseIdx_cut]
      exact paired_mono (paired_append (paired_take j hp) (paired_drop (j + 1) hp)) s

def sp_is_amount (K : PySem.W.Frag) (C CD : Addr) : Sp := fun vs H Q _ => ∃ (n : Nat), vs = [.int n] ∧ Q (.bl (decide (1 ≤ n ∧ n ≤ 99))) H
theorem own_is_amount (T : Txt K mg C CD) : Own P w K mg base "is_amount" ["amount"] 1 (sp_is_amount K C CD) := by
  refine own_of T.h_is_amount sc_is_amount (fun _ _ _ _ _ _ us hl => match us, hl with | [_], _ => rfl) (fun vs H Q E h => ?_) (fun cdv A outer s H vs Q E hr h => ⟨_, (pss_one (ps_ret (pe_chain op_le op_le pe_int (pv 0) (pe_gint T.c_MOST_AMOUNT)))), ?_⟩)
  · obtain ⟨n, rfl, kk⟩ := h
    rfl
  · obtain ⟨n, rfl, kk⟩ := h
    refine ⟨_, rfl, _, _, rfl, rfl, _, rfl, if2 (fun c => ?_) (fun c => ?_)⟩
    · have c := of_decide_eq_true c
      refine ⟨_, _, rfl, rfl, ?_⟩
      have e : decide ((n : Int) ≤ 99) = decide (1 ≤ n ∧ n ≤ 99) := decide_eq_decide.mpr (by omega)
      show Q (V.bl (decide ((n : Int) ≤ 99))) H
      rw [e]
      exact kk
    · have c := of_decide_eq_false c
      have e : decide (1 ≤ n ∧ n ≤ 99) = false := decide_eq_false (by omega)
      rw [e] at kk
      exact kk

def sp_is_day_ahead (K : PySem.W.Frag) (C CD : Addr) : Sp := fun vs H Q _ => ∃ (p : Addr) (pl : Planner) (d : Nat), vs = [.ref p, .int d] ∧ View C H p pl ∧ Q (.bl (decide (pl.today ≤ d ∧ d ≤ 30))) H
theorem own_is_day_ahead (T : Txt K mg C CD) : Own P w K mg base "is_day_ahead" ["plan", "day"] 1 (sp_is_day_ahead K C CD) := by
  refine own_of T.h_is_day_ahead sc_is_day_ahead (fun _ _ _ _ _ _ us hl => match us, hl with | [_, _], _ => rfl) (fun vs H Q E h => ?_) (fun cdv A outer s H vs Q E hr h => ⟨_, (pss_one (ps_ret (pe_chain op_le op_le (pe_fld (pv 0) rfl) (pv 1) (pe_gint T.c_LAST_DAY)))), ?_⟩)
  · obtain ⟨p, pl, d, rfl, hv, kk⟩ := h
    rfl
  · obtain ⟨p, pl, d, rfl, hv, kk⟩ := h
    obtain ⟨dx, ad, ac, x, y, z, h1, h2, h3⟩ := hv
    refine ⟨_, rfl, p, C, dx, _, _, rfl, h1, T.cl, T.nT, pF_today, _, rfl, _, _, rfl, rfl, _, rfl, if2 (fun c => ?_) (fun c => ?_)⟩
    · have c := of_decide_eq_true c
      refine ⟨_, _, rfl, rfl, ?_⟩
      have e : decide ((d : Int) ≤ 30) = decide (pl.today ≤ d ∧ d ≤ 30) := decide_eq_decide.mpr (by omega)
      show Q (V.bl (decide ((d : Int) ≤ 30))) H
      rw [e]
      exact kk
    · have c := of_decide_eq_false c
      have e : decide (pl.today ≤ d ∧ d ≤ 30) = false := decide_eq_false (by omega)
      rw [e] at kk
      exact kk

end
end Cs

namespace Cs
open PySem PySem.Spec PyProof.Rows L2
open Km549 (Planner Delivery Commitment)
section
variable {P : Program} {w : World} {K : PySem.W.Frag} {mg : Str → Option Value} {base : Heap} {C CD : Addr}
def sp_members_of (K : PySem.W.Frag) (C CD : Addr) : Sp := fun vs H Q _ => ∃ (s n : Nat), vs = [.int s, .int n] ∧ n ≤ 100 ∧
    ∀ (H' : Hp) (r : Addr), Same H H' → H r = none → H' r = some (.lst (vI (Ma.memb s n))) → Q (.ref r) H'
theorem bit_test (s i : Nat) : decide (V.int ((s : Int) / 2 ^ ((0 : Int) + (i : Nat)).toNat % 2) = V.int 1) = s.testBit i := by
  rw [Nat.testBit_eq_decide_div_mod_eq, show ((0 : Int) + (i : Nat)).toNat = i by omega]
  have e : ((s : Int) / 2 ^ i % 2) = ((s / 2 ^ i % 2 : Nat) : Int) := by push_cast; rfl
  rw [e]
  refine decide_eq_decide.mpr ⟨fun h => ?_, fun h => ?_⟩
  · have := V.int.inj h
    omega
  · rw [h]
    rfl
theorem own_members_of (T : Txt K mg C CD) : Own P w K mg base "members_of" ["set_number", "many"] 1 (sp_members_of K C CD) := by
  refine own_of T.h_members_of sc_members_of (fun _ _ _ _ _ _ us hl => match us, hl with | [_, _], _ => rfl) (fun vs H Q E h => ?_) (fun cdv A outer s H vs Q E hr h => ⟨_, (pss_one (ps_ret (pe_lc (own := [("member", 2)]) (g := (gName 2)) rfl sc_members_of.nd (pi_range1 (by rfl) T.range (pa_cons (pv 1) pa_nil)) (blkOk_by (own := [("member", 2)]) (N := N_members_of) (sc := defScope s_members_of) (by decide +kernel)) (fun _ _ _ _ _ => (pg_name (i := 2) sc_members_of.nd rfl (Or.inl rfl))) (fun _ _ _ _ _ => pts_one (pt_cmpR op_eq (pe_op op_mod (pe_op op_shr (pv 0) (pv 2)) pe_int) pe_int (nomark _))) (fun _ _ _ _ _ => (pv 2))))), ?_⟩)
  · obtain ⟨s, n, rfl, hz, kk⟩ := h
    rfl
  · obtain ⟨s, n, rfl, hz, kk⟩ := h
    refine ⟨_, rfl, _, rfl, by omega, by omega, fun D hD => lc_keep (walk_range (lo := 0) (n := ((n : Int)).toNat)) hD (fun _ _ => trivial) (fun i => vI (Ma.memb s i)) rfl ?_ ?_⟩
    · rintro i v H1 H2 hi e1 hF ⟨rfl, rfl⟩
      refine ⟨rfl, _, rfl, _, rfl, _, _, rfl, rfl, (by show (0 : Int) ≤ 0 + (i : Nat); omega), _, _, rfl, rfl, (by show (0 : Int) < 2; decide), rfl, _, rfl, if2 (fun c => ?_) (fun c => ?_)⟩
      · rw [bit_test] at c
        refine ⟨_, rfl, lc_yes hD e1 hF (by rw [vI_length]; have := Ma.memb_le s i; omega) ?_⟩
        show _ = _ ++ [V.int ((0 : Int) + (i : Nat))]
        rw [Ma.memb_succ, if_pos c, vI_append, Int.zero_add]
        rfl
      · rw [bit_test] at c
        exact lc_no e1 hF (by rw [Ma.memb_succ, if_neg (by rw [c]; exact Bool.false_ne_true)])
    · intro H1 e1 hF
      rw [Int.toNat_natCast] at hF
      exact kk H1 D e1 hD hF

def sp_rows_without (K : PySem.W.Frag) (C CD : Addr) : Sp := fun vs H Q _ => ∃ (a b : Addr) (rows : List (List Int)) (ms : List Nat), vs = [.ref a, .ref b] ∧ Rows H a rows ∧ H b = some (.lst (vI ms)) ∧ rows.length ≤ 100 ∧
    ∀ (H' : Hp) (r : Addr), Same H H' → H r = none → Rows H' r (Ma.without rows ms) → Q (.ref r) H'
theorem inV_vI (i : Nat) : ∀ ms : List Nat, inV (.int i) (vI ms) = decide (i ∈ ms)
  | [] => rfl
  | m :: r => by
    show ((m : Int) == (i : Int) || inV (.int i) (vI r)) = _
    rw [inV_vI i r]
    by_cases c : m = i
    · subst c
      simp
    · have : ((m : Int) == (i : Int)) = false := beq_false_of_ne (by omega)
      rw [this]
      simp [Ne.symm c]
theorem flat_vI : ∀ ms : List Nat, (vI ms).all flatV = true
  | [] => rfl
  | _ :: r => flat_vI r
theorem paired_withoutTo {G : Addr → List Int → Prop} {xs : List Addr} {rows : List (List Int)} (h : Paired G xs rows) (ms : List Nat) : ∀ n, n ≤ rows.length → Paired G (Ma.withoutTo xs ms n) (Ma.withoutTo rows ms n)
  | 0, _ => .nil
  | n + 1, hn => by
    obtain ⟨x, h1, h2⟩ := paired_at h (i := n) (b := rows[n]'(by omega)) (by simp [show n < rows.length by omega])
    have h3 : rows[n]? = some (rows[n]'(by omega)) := by simp [show n < rows.length by omega]
    have ih := paired_withoutTo h ms n (by omega)
    rw [Ma.withoutTo_succ h1, Ma.withoutTo_succ h3]
    split
    · exact ih
    · exact paired_append ih (.cons h2 .nil)
theorem own_rows_without (T : Txt K mg C CD) : Own P w K mg base "rows_without" ["rows", "members"] 1 (sp_rows_without K C CD) := by
  refine own_of T.h_rows_without sc_rows_without (fun _ _ _ _ _ _ us hl => match us, hl with | [_, _], _ => rfl) (fun vs H Q E h => ?_) (fun cdv A outer s H vs Q E hr h => ⟨_, (pss_one (ps_ret (pe_lc (own := [("at", 2), ("row", 3)]) (g := (gTup K 2 (gCons (gName 2) (gCons (gName 3) gNil)))) (tt := (tTest (tOp (rIn K true) (tVar 2) (tVar 1)))) rfl sc_rows_without.nd (pi_enum (by rfl) T.enumerate (pa_cons (pv 0) pa_nil)) (blkOk_by (own := [("at", 2), ("row", 3)]) (N := N_rows_without) (sc := defScope s_rows_without) (by decide +kernel)) (fun _ _ _ _ _ => (pg_tup rfl (pgs_cons (pg_name (i := 2) sc_rows_without.nd rfl (Or.inl rfl)) (pgs_cons (pg_name (i := 3) sc_rows_without.nd rfl (Or.inl rfl)) pgs_nil)))) (fun _ _ _ _ _ => pts_one (pt_cmpR op_notIn_seq (pv 2) (pv 1) (by rfl))) (fun _ _ _ _ _ => (pv 3))))), ?_⟩)
  · obtain ⟨a, b, rows, ms, rfl, ⟨xs, hx, hp⟩, hb, hz, kk⟩ := h
    rfl
  · obtain ⟨a, b, rows, ms, rfl, ⟨xs, hx, hp⟩, hb, hz, kk⟩ := h
    have hl : xs.length = rows.length := paired_len hp
    refine ⟨_, rfl, a, _, rfl, SqL.of hx, fun D hD => lc_keep (walk_enum (xs := xs.map V.ref)) hD (fun H' e => SqL.of (e _ _ hx)) (fun i => (Ma.withoutTo xs ms i).map V.ref) rfl ?_ ?_⟩
    · rintro i v H1 H2 hi e1 hF ⟨tp, vi, vx, rfl, nt, rfl, hvi, hxi⟩
      have hvi := Option.some.inj hvi
      subst hvi
      have e2 : Same H1 (upd H1 tp (.tup [.int (i : Nat), vx])) := same_upd nt
      have hxi : (xs.map V.ref)[i]? = some vx := hxi
      rw [List.getElem?_map] at hxi
      cases q : xs[i]? with
      | none =>
        rw [q] at hxi
        cases hxi
      | some x =>
        rw [q] at hxi
        have hxi := Option.some.inj hxi
        subst hxi
        refine ⟨tp, _, rfl, SqT.of upd_same, rfl, _, _, rfl, _, _, rfl, rfl, rfl, ?_⟩
        refine ⟨_, rfl, _, rfl, b, _, rfl, .inl (SqL.of (e2 _ _ (e1 _ _ hb))), rfl, flat_vI ms, _, rfl, if2 (fun c => ?_) (fun c => ?_)⟩
        · have c : (!inV (.int i) (vI ms)) = true := c
          rw [inV_vI] at c
          have c : ¬ i ∈ ms := by simpa using c
          refine ⟨_, rfl, lc_yes hD (e1.trans e2) (e2 _ _ hF) (by rw [List.length_map]; have := Ma.without_length xs ms i; rw [List.length_map] at hi; omega) ?_⟩
          rw [Ma.withoutTo_succ q, if_neg c, List.map_append]
          rfl
        · have c : (!inV (.int i) (vI ms)) = false := c
          rw [inV_vI] at c
          have c : i ∈ ms := by simpa using c
          exact lc_no (e1.trans e2) (e2 _ _ hF) (by rw [Ma.withoutTo_succ q, if_pos c])
    · intro H1 e1 hF
      refine kk H1 D e1 hD ⟨_, hF, ?_⟩
      rw [List.length_map, hl]
      exact paired_mono (paired_withoutTo hp ms rows.length (Nat.le_refl _)) e1

def sp_total_of (K : PySem.W.Frag) (C CD : Addr) : Sp := fun vs H Q _ => ∃ (a b : Addr) (cs : List Commitment) (ms : List Nat), vs = [.ref a, .ref b] ∧ Rows H a (cR cs) ∧ H b = some (.lst (vI ms)) ∧ (∀ j ∈ ms, j < cs.length) ∧ ms.length ≤ 100 ∧
    ∀ (H' : Hp), Same H H' → Q (.int (Ma.totalOf cs ms : Nat)) H'
theorem own_total_of (T : Txt K mg C CD) : Own P w K mg base "total_of" ["commitments", "members"] 1 (sp_total_of K C CD) := by
  refine own_of T.h_total_of sc_total_of (fun _ _ _ _ _ _ us hl => match us, hl with | [_, _], _ => rfl) (fun vs H Q E h => ?_) (fun cdv A outer s H vs Q E hr h => ⟨_, (pss_one (ps_ret (pe_callB (cr_sum rfl) (by rfl) T.sum (by decide +kernel) (pa_cons (pe_lc (own := [("member", 2)]) (g := (gName 2)) (tt := tYes) (te := (tOp (rIxT K) (tOp (rIxL K) (tVar 0) (tVar 2)) (tC (.int 0)))) rfl sc_total_of.nd (pi_list (pv 1)) (blkOk_by (own := [("member", 2)]) (N := N_total_of) (sc := defScope s_total_of) (by decide +kernel)) (fun _ _ _ _ _ => (pg_name (i := 2) sc_total_of.nd rfl (Or.inl rfl))) (fun _ _ _ _ _ => pts_nil) (fun _ _ _ _ _ => (pe_ix ix_tup (pe_ix ix_list (pv 0) (pv 2) (fun _ _ => rfl)) pe_int (fun _ _ => rfl)))) pa_nil)))), ?_⟩)
  · obtain ⟨a, b, cs, ms, rfl, ⟨xs, hx, hp⟩, hb, hm, hz, kk⟩ := h
    rfl
  · obtain ⟨a, b, cs, ms, rfl, ⟨xs, hx, hp⟩, hb, hm, hz, kk⟩ := h
    refine ⟨_, rfl, b, rfl, ⟨_, SqL.of hb⟩, fun D hD => lc_keep (walk_list (xs := vI ms)) hD (fun H' e => SqL.of (e _ _ hb)) (fun i => vI ((ms.take i).map (Ma.amAt cs))) rfl ?_ ?_⟩
    · rintro i v H1 H2 hi e1 hF ⟨rfl, hvi⟩
      rw [vI_length] at hi
      have hj : ms[i]? = some ms[i] := by simp [hi]
      have hv : v = .int (ms[i] : Nat) := by
        unfold vI at hvi
        rw [List.getElem?_map, hj] at hvi
        exact (Option.some.inj hvi).symm
      subst hv
      have hlt : ms[i] < cs.length := hm _ (List.getElem_mem _)
      have hc : cs[ms[i]]? = some cs[ms[i]] := by simp [hlt]
      obtain ⟨x, q1, q2⟩ := paired_at hp (i := ms[i]) (b := [((cs[ms[i]]).amount : Int), ((cs[ms[i]]).due : Int)]) (by unfold cR; rw [List.getElem?_map, hc]; rfl)
      refine ⟨rfl, tyes ?_⟩
      refine ⟨_, rfl, _, rfl, a, _, _, .ref x, rfl, rfl, SqL.of (e1 _ _ hx), atI_nat (by rw [List.getElem?_map, q1]; rfl), x, _, 0, _, rfl, rfl, SqT.of (e1 _ _ q2), atI_nat (j := 0) rfl, ?_⟩
      refine lc_yes hD e1 hF (by rw [vI_length, List.length_map, List.length_take]; omega) ?_
      rw [take_more hj, List.map_append, vI_append]
      show _ = _ ++ [V.int ((cs[ms[i]]).amount : Nat)]
      have e : Ma.amAt cs ms[i] = (cs[ms[i]]).amount := by
        unfold Ma.amAt
        rw [hc]
      rw [← e]
      rfl
    · intro H1 e1 hF
      rw [vI_length, List.take_length] at hF
      refine ⟨D, Ma.nInts (ms.map (Ma.amAt cs)), rfl, SqL.of (hF.trans (by rw [vI_ints])), ?_⟩
      rw [Ma.ints_sum]
      exact kk H1 e1

def sp_is_better (K : PySem.W.Frag) (C CD : Addr) : Sp := fun vs H Q _ => ∃ (a b c : Addr) (cs : List Commitment) (ms os : List Nat), vs = [.ref a, .ref b, .ref c] ∧ Rows H a (cR cs) ∧ H b = some (.lst (vI ms)) ∧ H c = some (.lst (vI os)) ∧ (∀ j ∈ ms, j < cs.length) ∧ (∀ j ∈ os, j < cs.length) ∧ ms.length ≤ 100 ∧ os.length ≤ 100 ∧
    ∀ (H' : Hp), Same H H' → Q (.bl (Ma.better cs ms os)) H'
theorem own_is_better (T : Txt K mg C CD) : Own P w K mg base "is_better" ["commitments", "members", "others"] 2 (sp_is_better K C CD) := by
  have G_total_of := own_total_of (P := P) (w := w) (base := base) T
  refine own_of T.h_is_better sc_is_better (fun _ _ _ _ _ _ us hl => match us, hl with | [_, _, _], _ => rfl) (fun vs H Q E h => ?_) (fun cdv A outer s H vs Q E hr h => ⟨_, (pss_cons (ps_if (pt_cmpR op_ne (pe_callB call_len_seq (by rfl) T.len PySem.boot_len (pa_cons (pv 1) pa_nil)) (pe_callB call_len_seq (by rfl) T.len PySem.boot_len (pa_cons (pv 2) pa_nil)) (nomark _)) (pss_one (ps_ret (pe_cmpR op_lt (pe_callB call_len_seq (by rfl) T.len PySem.boot_len (pa_cons (pv 1) pa_nil)) (pe_callB call_len_seq (by rfl) T.len PySem.boot_len (pa_cons (pv 2) pa_nil)) (nomark _)))) pss_nil) (pss_one (ps_ret (pe_cmpR op_lt (pe_own G_total_of hr (pa_cons (pv 0) (pa_cons (pv 1) pa_nil))) (pe_own G_total_of hr (pa_cons (pv 0) (pa_cons (pv 2) pa_nil))) (nomark _))))), ?_⟩)
  · obtain ⟨a, b, c, cs, ms, os, rfl, hr, hb, hc, hm, ho, hz, hz2, kk⟩ := h
    rfl
  · obtain ⟨a, b, c, cs, ms, os, rfl, hr, hb, hc, hm, ho, hz, hz2, kk⟩ := h
    refine ⟨_, rfl, b, _, rfl, .inl (SqL.of hb), _, rfl, c, _, rfl, .inl (SqL.of hc), rfl, _, rfl, if2 (fun q => ?_) (fun q => ?_)⟩
    · have q : ms.length ≠ os.length := by
        intro e
        rw [vI_length, vI_length, e] at q
        simp at q
      refine ⟨_, rfl, b, _, rfl, .inl (SqL.of hb), _, rfl, c, _, rfl, .inl (SqL.of hc), _, _, rfl, rfl, ?_⟩
      have k := kk H (Same.refl H)
      unfold Ma.better at k
      rw [if_pos q] at k
      show Q (V.bl (decide (((vI ms).length : Int) < ((vI os).length : Int)))) H
      rw [vI_length, vI_length, show decide ((ms.length : Int) < (os.length : Int)) = decide (ms.length < os.length) from decide_eq_decide.mpr (by omega)]
      exact k
    · have q : ¬ ms.length ≠ os.length := by
        intro e
        rw [vI_length, vI_length] at q
        have : ¬ V.int (ms.length : Int) = V.int (os.length : Int) := fun z => e (by have := V.int.inj z; omega)
        rw [decide_eq_false this] at q
        cases q
      refine ⟨_, rfl, _, rfl, a, b, cs, ms, rfl, hr, hb, hm, hz, fun H1 e1 => ?_⟩
      refine ⟨_, rfl, _, rfl, a, c, cs, os, rfl, hr.same e1, e1 _ _ hc, ho, hz2, fun H2 e2 => ?_⟩
      refine ⟨_, _, rfl, rfl, ?_⟩
      have k := kk H2 (e1.trans e2)
      unfold Ma.better at k
      rw [if_neg q] at k
      show Q (V.bl (decide ((Ma.totalOf cs ms : Int) < (Ma.totalOf cs os : Int)))) H2
      rw [show decide ((Ma.totalOf cs ms : Int) < (Ma.totalOf cs os : Int)) = decide (Ma.totalOf cs ms < Ma.totalOf cs os) from decide_eq_decide.mpr (by omega)]
      exact k

def sp_is_enough (K : PySem.W.Frag) (C CD : Addr) : Sp := fun vs H Q _ => ∃ (p : Addr) (pl : Planner) (k : Nat) (b : Addr) (ms : List Nat), vs = [.ref p, .int k, .ref b] ∧ View C H p pl ∧ pl.today ≤ 30 ∧ pl.deliveries.length ≤ 60 ∧ pl.commitments.length ≤ 60 ∧ H b = some (.lst (vI ms)) ∧
    ∀ (H' : Hp), Same H H' → Q (.bl (Km549.isCovered { pl with commitments := Ma.without pl.commitments ms } k)) H'
theorem own_is_enough (T : Txt K mg C CD) : Own P w K mg base "is_enough" ["plan", "k", "members"] 6 (sp_is_enough K C CD) := by
  have G_rows_without := own_rows_without (P := P) (w := w) (base := base) T
  have G_is_covered := own_is_covered (P := P) (w := w) (base := base) T
  have G_plan_like := own_plan_like (P := P) (w := w) (base := base) T
  refine own_of T.h_is_enough sc_is_enough (fun _ _ _ _ _ _ us hl => match us, hl with | [_, _, _], _ => rfl) (fun vs H Q E h => ?_) (fun cdv A outer s H vs Q E hr h => ⟨_, (pss_cons (ps_set (i := 3) sc_is_enough.nd rfl (Or.inl rfl) (pe_own G_rows_without hr (pa_cons (pe_fld (pv 0) rfl) (pa_cons (pv 2) pa_nil)))) (pss_one (ps_ret (pe_own G_is_covered hr (pa_cons (pe_own G_plan_like hr (pa_cons (pv 0) (pa_cons (pe_fld (pv 0) rfl) (pa_cons (pv 3) pa_nil)))) (pa_cons (pv 1) pa_nil)))))), ?_⟩)
  · obtain ⟨p, pl, k, b, ms, rfl, hv, ht, hz, hz2, hb, kk⟩ := h
    rfl
  · obtain ⟨p, pl, k, b, ms, rfl, hv, ht, hz, hz2, hb, kk⟩ := h
    have hv0 := hv
    obtain ⟨dx, ad, ac, x, y, z, h1, h2, h3⟩ := hv
    refine ⟨_, rfl, p, C, dx, _, _, rfl, h1, T.cl, T.nC, pF_commitments, _, rfl, ac, b, _, ms, rfl, h3, hb, by rw [cR_length]; omega, fun H1 r e1 nr hr => ?_⟩
    have er : Ma.without (cR pl.commitments) ms = cR (Ma.without pl.commitments ms) := Ma.without_map _ _ _
    rw [er] at hr
    refine ⟨_, rfl, _, rfl, p, C, dx, _, _, rfl, e1 _ _ h1, T.cl, T.nD, pF_deliveries, _, rfl, p, pl, ad, _, r, _, rfl, hv0.same e1, h2.same e1, hr, fun H2 p2 e2 hv2 => ?_⟩
    refine ⟨_, rfl, p2, _, k, rfl, hv2, ht, hz, ?_, fun H3 e3 => kk H3 ((e1.trans e2).trans e3)⟩
    exact Nat.le_trans (Ma.without_length pl.commitments ms pl.commitments.length) hz2

def sp_best_members (K : PySem.W.Frag) (C CD : Addr) : Sp := fun vs H Q _ => ∃ (p : Addr) (pl : Planner) (k : Nat), vs = [.ref p, .int k] ∧ View C H p pl ∧ pl.today ≤ 30 ∧ pl.deliveries.length ≤ 6 ∧ pl.commitments.length ≤ 7 ∧
    ∀ (H' : Hp) (r : Addr), Same H H' → H r = none → H' r = some (.lst (vI (Ma.bestM pl k (2 ^ pl.commitments.length)))) → Q (.ref r) H'
theorem bestM_lt (pl : Planner) (k n : Nat) : ∀ j ∈ Ma.bestM pl k n, j < pl.commitments.length := fun j hj => by
  unfold Ma.bestM at hj
  split at hj
  · exact List.mem_range.mp hj
  · exact (Ma.memb_mem.mp hj).1
theorem bestM_len (pl : Planner) (k n : Nat) : (Ma.bestM pl k n).length ≤ pl.commitments.length := by
  unfold Ma.bestM
  split
  · rw [List.length_range]
    exact Nat.le_refl _
  · exact Ma.memb_le _ _
theorem rgV_vI (n : Nat) : rgV 0 (n : Int) = vI (List.range n) := by
  unfold rgV vI
  rw [show ((n : Int) - 0).toNat = n by omega]
  refine List.map_congr_left fun i _ => ?_
  rw [Int.zero_add]
theorem pow7 {n : Nat} (h : n ≤ 7) : 2 ^ n ≤ 128 := Nat.pow_le_pow_right (n := 2) (by decide) h
theorem own_best_members (T : Txt K mg C CD) : Own P w K mg base "best_members" ["plan", "k"] 7 (sp_best_members K C CD) := by
  have G_members_of := own_members_of (P := P) (w := w) (base := base) T
  have G_is_better := own_is_better (P := P) (w := w) (base := base) T
  have G_is_enough := own_is_enough (P := P) (w := w) (base := base) T
  refine own_of T.h_best_members sc_best_members (fun _ _ _ _ _ _ us hl => match us, hl with | [_, _], _ => rfl) (fun vs H Q E h => ?_) (fun cdv A outer s H vs Q E hr h => ⟨_, (pss_cons (ps_set (i := 2) sc_best_members.nd rfl (Or.inl rfl) (pe_callB call_len_seq (by rfl) T.len PySem.boot_len (pa_cons (pe_fld (pv 0) rfl) pa_nil))) (pss_cons (ps_set (i := 3) sc_best_members.nd rfl (Or.inl rfl) (pe_listRg rfl (by rfl) T.list (prg_1 (by rfl) T.range (pv 2)))) (pss_cons (ps_for PassesOwn.never rfl (pi_range1 (by rfl) T.range (pa_cons (pe_op op_shl pe_int (pv 2)) pa_nil)) (pg_name (i := 4) sc_best_members.nd rfl (Or.inl rfl)) (pss_cons (ps_set (i := 5) sc_best_members.nd rfl (Or.inl rfl) (pe_own G_members_of hr (pa_cons (pv 4) (pa_cons (pv 2) pa_nil)))) (pss_one (ps_if (PW.pt (pw_and (pt_val (pe_own G_is_better hr (pa_cons (pe_fld (pv 0) rfl) (pa_cons (pv 5) (pa_cons (pv 3) pa_nil))))) (pw_and1 (pt_val (pe_own G_is_enough hr (pa_cons (pv 0) (pa_cons (pv 1) (pa_cons (pv 5) pa_nil)))))))) (pss_one (ps_set (i := 3) sc_best_members.nd rfl (Or.inl rfl) (pv 5))) pss_nil)))) (pss_one (ps_ret (pv 3)))))), ?_⟩)
  · obtain ⟨p, pl, k, rfl, hv, ht, hz, hz2, kk⟩ := h
    rfl
  · obtain ⟨p, pl, k, rfl, hv, ht, hz, hz2, kk⟩ := h
    have hv0 := hv
    obtain ⟨dx, ad, ac, x, y, z, h1, h2, ⟨xs, h3, hp⟩⟩ := hv
    have hl : (xs.map V.ref).length = pl.commitments.length := by rw [List.length_map, paired_len hp, cR_length]
    have h7 := pow7 hz2
    refine ⟨_, rfl, p, C, dx, _, _, rfl, h1, T.cl, T.nC, pF_commitments, ac, _, rfl, .inl (SqL.of h3), ?_⟩
    refine ⟨_, rfl, _, rfl, ⟨by omega, by omega, by omega, by omega, by omega⟩, fun r0 n0 => ?_⟩
    have s0 := same_upd (o := .lst (rgV 0 ((xs.map V.ref).length : Int))) n0
    have ep : (1 : Int) * 2 ^ (((xs.map V.ref).length : Nat) : Int).toNat = ((2 ^ pl.commitments.length : Nat) : Int) := by
      rw [hl, Int.toNat_natCast, Int.one_mul]
      push_cast
      rfl
    have en : ((1 : Int) * 2 ^ (((xs.map V.ref).length : Nat) : Int).toNat).toNat = 2 ^ pl.commitments.length := by
      rw [ep]
      exact Int.toNat_natCast _
    refine ⟨_, rfl, _, _, rfl, rfl, ⟨by omega, by omega, by decide⟩, _, rfl, by rw [ep]; omega, by rw [ep]; omega, for_range (lo := 0) (n := ((1 : Int) * 2 ^ (((xs.map V.ref).length : Nat) : Int).toNat).toNat) (fun i σ H' => ∃ (b : Addr) (v u : Option V), σ = [some (.ref p), some (.int k), some (.int ((xs.map V.ref).length : Nat)), some (.ref b), v, u] ∧ Same H H' ∧ H b = none ∧ H' b = some (.lst (vI (Ma.bestM pl k i)))) ⟨r0, none, none, rfl, s0, n0, ?_⟩ ?_ ?_⟩
    · rw [upd_same]
      have e : Ma.bestM pl k 0 = List.range pl.commitments.length := rfl
      rw [e, hl, rgV_vI]
    · rintro i σ H1 hi ⟨b, v, u, rfl, e1, nb, hb⟩
      rw [en] at hi
      have hb7 := bestM_len pl k i
      refine ⟨_, rfl, _, rfl, i, (xs.map V.ref).length, ?_, by omega, fun H2 r e2 nr hr => ?_⟩
      · show ([V.int ((0 : Int) + (i : Nat)), V.int ((xs.map V.ref).length : Nat)] : List V) = [V.int (i : Nat), V.int ((xs.map V.ref).length : Nat)]
        rw [Int.zero_add]
      rw [hl] at hr
      have hm7 := Ma.memb_le i pl.commitments.length
      have es := e1.trans e2
      refine ⟨_, rfl, p, C, dx, _, _, rfl, es _ _ h1, T.cl, T.nC, pF_commitments, _, rfl, _, rfl, ac, r, b, pl.commitments, Ma.memb i pl.commitments.length, Ma.bestM pl k i, rfl, Rows.same ⟨xs, h3, hp⟩ es, hr, e2 _ _ hb, fun j hj => (Ma.memb_mem.mp hj).1, bestM_lt pl k i, by omega, by omega, fun H3 e3 => ⟨_, rfl, if2 (fun c => ?_) (fun c => ?_)⟩⟩
      · refine ⟨_, rfl, _, rfl, _, rfl, p, pl, k, r, Ma.memb i pl.commitments.length, rfl, hv0.same (es.trans e3), ht, by omega, by omega, e3 _ _ hr, fun H4 e4 => ⟨_, rfl, if2 (fun c2 => ?_) (fun c2 => ?_)⟩⟩
        · refine ⟨_, rfl, r, _, _, rfl, (es.trans e3).trans e4, e1.free nr, ?_⟩
          rw [Ma.bestM_succ pl k i hi hz2, Ma.withoutSet_eq, c, c2]
          exact e4 _ _ (e3 _ _ hr)
        · refine ⟨b, _, _, rfl, (es.trans e3).trans e4, nb, ?_⟩
          rw [Ma.bestM_succ pl k i hi hz2, Ma.withoutSet_eq, c, c2]
          exact e4 _ _ (e3 _ _ (e2 _ _ hb))
      · refine iteF ⟨b, _, _, rfl, es.trans e3, nb, ?_⟩
        rw [Ma.bestM_succ pl k i hi hz2, Ma.withoutSet_eq, c]
        exact e3 _ _ (e2 _ _ hb)
    · rintro σ H1 ⟨b, v, u, rfl, e1, nb, hb⟩
      rw [en] at hb
      exact ⟨_, rfl, kk H1 b e1 nb hb⟩

end
end Cs

namespace Cs
open PySem PySem.Spec PyProof.Rows L2
open Km549 (Planner Delivery Commitment)
theorem nd_t {p : Prop} [Decidable p] (h : (!decide p) = true) : ¬ p := by simpa using h
theorem nd_f {p : Prop} [Decidable p] (h : (!decide p) = false) : p := by simpa using h
/-- what an operation answers and leaves is what the specification's step says -/
def OpPost (C : Addr) (H : Hp) (p : Addr) (o : Km549.State × Km549.Result) (Q : VK) : Prop :=
  ∀ (H' : Hp) (r : Addr) (pl' : Planner), o.1 = some pl' → Keep p H H' → H r = none → PlanAt C H' p pl' → H' r = some (.lst ((o.2.num :: o.2.nums).map V.int)) → Q (.ref r) H'
theorem keep_free {p : Addr} {H H1 : Hp} {o : HO} (e : Keep p H H1) (hp : H1 p = some o) {r : Addr} (h : H1 r = none) : H r = none := by
  cases q : H r with
  | none => rfl
  | some u =>
    by_cases c : r = p
    · rw [c, hp] at h
      cases h
    · rw [e r u q c] at h
      cases h
theorem PlanAt.there {C : Addr} {H : Hp} {p : Addr} {pl : Planner} (h : PlanAt C H p pl) : ∃ o, H p = some o := by
  obtain ⟨dx, ad, ac, h1, _⟩ := h
  exact ⟨_, h1⟩
section
variable {C : Addr} {H H1 : Hp} {p : Addr} {pl : Planner} {o : Km549.State × Km549.Result} {Q : VK}
/-- the answer, a list of whole numbers, is made new -/
theorem ansL (kk : OpPost C H p o Q) (ho : o.1 = some pl) (e : Keep p H H1) (hp : PlanAt C H1 p pl) {vs : List V} (hv : vs = (o.2.num :: o.2.nums).map V.int) : ∀ r, H1 r = none → Q (.ref r) (upd H1 r (.lst vs)) := fun r nr => by
  obtain ⟨u, hu⟩ := hp.there
  exact kk _ r pl ho (e.same (same_upd nr)) (keep_free e hu nr) (hp.same (same_upd nr)) (by rw [upd_same, hv])
theorem ans1 (kk : OpPost C H p o Q) {n : Int} (ho : o = (some pl, ⟨n, []⟩)) (e : Keep p H H1) (hp : PlanAt C H1 p pl) : ([V.int n] : List V).length ≤ sizeLine ∧ ∀ r, H1 r = none → Q (.ref r) (upd H1 r (.lst [.int n])) := by
  subst ho
  exact ⟨small_line (by show 1 ≤ 10000000; decide), ansL kk rfl e hp rfl⟩
end
theorem Rows.snoc {H H' : Hp} {q tp : Addr} {rows : List (List Int)} {r : List Int} {xs : List Addr} (hp : Paired (fun x r => H x = some (.tup (r.map V.int))) xs rows) (e : Same H H') (hq : H' q = some (.lst (xs.map V.ref ++ [.ref tp]))) (ht : H' tp = some (.tup (r.map V.int))) : Rows H' q (rows ++ [r]) :=
  ⟨xs ++ [tp], by rw [hq, List.map_append]; rfl, paired_append (paired_mono hp e) (.cons ht .nil)⟩
theorem dR_snoc (ds : List Delivery) (d : Delivery) : dR (ds ++ [d]) = dR ds ++ [[(d.amount : Int), (d.earliest : Int), (d.latest : Int)]] := List.map_append
theorem cR_snoc (cs : List Commitment) (c : Commitment) : cR (cs ++ [c]) = cR cs ++ [[(c.amount : Int), (c.due : Int)]] := List.map_append
theorem dR_erase (ds : List Delivery) (j : Nat) : (dR ds).eraseIdx j = dR (ds.eraseIdx j) := Ma.eraseIdx_map _ _ _
theorem cR_erase (cs : List Commitment) (j : Nat) : (cR cs).eraseIdx j = cR (cs.eraseIdx j) := Ma.eraseIdx_map _ _ _
theorem map_ref_len (xs : List Addr) : (xs.map V.ref).length = xs.length := List.length_map ..
/-- rows + [(..)] -/
theorem cat_row {H : Hp} {ad : Addr} {xs : List Addr} {rows : List (List Int)} {r : List Int} {Q : VK} (h2 : H ad = some (.lst (xs.map V.ref))) (hp : Paired (fun x r => H x = some (.tup (r.map V.int))) xs rows) (hz : rows.length ≤ 60) (hr : r.length ≤ 60)
    (k : ∀ (H' : Hp) (q : Addr), Same H H' → H q = none → Rows H' q (rows ++ [r]) → Q (.ref q) H') :
    (r.map V.int).length ≤ sizeLine ∧ ∀ tp, H tp = none → (([V.ref tp] : List V).length ≤ sizeLine ∧ ∀ lp, upd H tp (.tup (r.map V.int)) lp = none → rCat (.ref ad) (.ref lp) (upd (upd H tp (.tup (r.map V.int))) lp (.lst [V.ref tp])) Q) := by
  refine ⟨small_line (by rw [List.length_map]; omega), fun tp ntp => ?_⟩
  have s1 := same_upd (o := .tup (r.map V.int)) ntp
  refine ⟨small_line (by show 1 ≤ 10000000; decide), fun lp nlp => ?_⟩
  have s2 := same_upd (o := .lst [V.ref tp]) nlp
  have hl : (xs.map V.ref).length = rows.length := by rw [List.length_map, paired_len hp]
  refine ⟨ad, lp, _, _, rfl, rfl, s2 _ _ (s1 _ _ h2), upd_same, small_line (by rw [hl]; show rows.length + 1 ≤ 10000000; omega), fun q nq => ?_⟩
  have s3 := same_upd (o := .lst (xs.map V.ref ++ [V.ref tp])) nq
  exact k _ q ((s1.trans s2).trans s3) ((s1.trans s2).free nq) (Rows.snoc hp ((s1.trans s2).trans s3) upd_same (s3 _ _ (s2 _ _ upd_same)))
theorem Rows.cat {H : Hp} {a : Addr} {rows : List (List Int)} (h : Rows H a rows) : ∃ xs : List Addr, H a = some (.lst (xs.map V.ref)) ∧ Paired (fun x r => H x = some (.tup (r.map V.int))) xs rows ∧ (xs.map V.ref).length = rows.length := by
  obtain ⟨xs, h1, h2⟩ := h
  exact ⟨xs, h1, h2, by rw [List.length_map, paired_len h2]⟩
theorem Rows.apart {H : Hp} {a p C dx : Addr} {rows : List (List Int)} {fs : List (Str × V)} (h : Rows H a rows) (h1 : H p = some (.ins C dx fs)) : a ≠ p := by
  obtain ⟨xs, h2, _⟩ := h
  exact ne_of h2 h1 (by intro z; cases z)
end Cs

namespace Cs
open PySem PySem.Spec PyProof.Rows L2
open Km549 (Planner Delivery Commitment)
section
variable {P : Program} {w : World} {K : PySem.W.Frag} {mg : Str → Option Value} {base : Heap} {C CD : Addr}
def sp_add_delivery (K : PySem.W.Frag) (C CD : Addr) : Sp := fun vs H Q _ => ∃ (p : Addr) (pl : Planner) (a b c : Nat), vs = [.ref p, .int a, .int b, .int c] ∧ PlanAt C H p pl ∧ Good pl ∧ OpPost C H p (Km549.step (some pl) (.addDelivery a b c)) Q
theorem own_add_delivery (T : Txt K mg C CD) : Own P w K mg base "add_delivery" ["plan", "amount", "earliest", "latest"] 2 (sp_add_delivery K C CD) := by
  have G_is_amount := own_is_amount (P := P) (w := w) (base := base) T
  have G_is_day_ahead := own_is_day_ahead (P := P) (w := w) (base := base) T
  refine own_of T.h_add_delivery sc_add_delivery (fun _ _ _ _ _ _ us hl => match us, hl with | [_, _, _, _], _ => rfl) (fun vs H Q E h => ?_) (fun cdv A outer s H vs Q E hr h => ⟨_, (pss_cons (ps_if (PW.pt (pw_or (pt_not (pt_val (pe_own G_is_amount hr (pa_cons (pv 1) pa_nil)))) (pw_or (pt_cmpR op_lt (pv 3) (pv 2) (nomark _)) (pw_or1 (pt_not (pt_val (pe_own G_is_day_ahead hr (pa_cons (pv 0) (pa_cons (pv 3) pa_nil))))))))) (pss_one (ps_ret (pe_lst (pa_cons (pe_gint T.c_OUT_OF_RANGE) pa_nil)))) pss_nil) (pss_cons (ps_if (pt_cmpR op_ge (pe_callB call_len_seq (by rfl) T.len PySem.boot_len (pa_cons (pe_fld (pv 0) rfl) pa_nil)) (pe_gint T.c_MOST_DELIVERIES) (nomark _)) (pss_one (ps_ret (pe_lst (pa_cons (pe_gint T.c_FULL) pa_nil)))) pss_nil) (pss_cons (ps_fld (pv 0) (pe_op op_cat (pe_fld (pv 0) rfl) (pe_lst (pa_cons (pe_tup (pa_cons (pv 1) (pa_cons (pv 2) (pa_cons (pv 3) pa_nil)))) pa_nil))) rfl) (pss_one (ps_ret (pe_lst (pa_cons (pe_op op_sub (pe_callB call_len_seq (by rfl) T.len PySem.boot_len (pa_cons (pe_fld (pv 0) rfl) pa_nil)) pe_int) pa_nil))))))), ?_⟩)
  · obtain ⟨p, pl, a, b, c, rfl, hv, hg, kk⟩ := h
    rfl
  · obtain ⟨p, pl, a, b, c, rfl, hv, hg, kk⟩ := h
    have no : (a = 0 ∨ 99 < a ∨ c < b ∨ c < pl.today ∨ 30 < c) → ([V.int (-22)] : List V).length ≤ sizeLine ∧ ∀ r, H r = none → Q (.ref r) (upd H r (.lst [.int (-22)])) := fun g =>
      ans1 kk (n := -22) (if_pos g) (Same.keep (Same.refl H)) hv
    refine ⟨_, rfl, a, rfl, _, rfl, if2 (fun c1 => ?_) (fun c1 => ?_)⟩
    · exact iteT (no (by have := nd_t c1; omega))
    have c1 := nd_f c1
    refine ⟨_, rfl, _, rfl, _, _, rfl, rfl, _, rfl, if2 (fun c2 => ?_) (fun c2 => ?_)⟩
    · have c2 := of_decide_eq_true c2
      exact iteT (no (by omega))
    have c2 := of_decide_eq_false c2
    refine ⟨_, rfl, _, rfl, p, pl, c, rfl, hv.view, _, rfl, if2 (fun c3 => ?_) (fun c3 => ?_)⟩
    · exact no (by have := nd_t c3; omega)
    have c3 := nd_f c3
    have g : ¬ (a = 0 ∨ 99 < a ∨ c < b ∨ c < pl.today ∨ 30 < c) := by omega
    have hv0 := hv
    obtain ⟨dx, ad, ac, h1, ⟨xs, h2, hp⟩, h3⟩ := hv
    have hl : (xs.map V.ref).length = pl.deliveries.length := by rw [List.length_map, paired_len hp, dR_length]
    refine ⟨_, rfl, p, C, dx, _, _, rfl, h1, T.cl, T.nD, pF_deliveries, ad, _, rfl, .inl (SqL.of h2), _, _, rfl, rfl, _, rfl, if2 (fun c4 => ?_) (fun c4 => ?_)⟩
    · have c4 := of_decide_eq_true c4
      exact ans1 kk (n := -28) ((if_neg g).trans (if_pos (show 6 ≤ pl.deliveries.length by omega))) (Same.keep (Same.refl H)) hv0
    have c4 := of_decide_eq_false c4
    refine ⟨_, rfl, p, C, dx, _, _, rfl, h1, T.cl, T.nD, pF_deliveries, _, rfl, _, rfl, _, rfl, small_line (by show 3 ≤ 10000000; decide), fun tp ntp => ?_⟩
    have s1 := same_upd (o := .tup [.int a, .int b, .int c]) ntp
    refine ⟨small_line (by show 1 ≤ 10000000; decide), fun lp nlp => ?_⟩
    have s2 := same_upd (o := .lst [V.ref tp]) nlp
    refine ⟨ad, lp, _, _, rfl, rfl, s2 _ _ (s1 _ _ h2), upd_same, small_line (by rw [hl]; show pl.deliveries.length + 1 ≤ 10000000; omega), fun q nq => ?_⟩
    have s3 := same_upd (o := .lst (xs.map V.ref ++ [V.ref tp])) nq
    have s := (s1.trans s2).trans s3
    have hq : upd (upd (upd H tp (.tup [.int a, .int b, .int c])) lp (.lst [V.ref tp])) q (.lst (xs.map V.ref ++ [V.ref tp])) q = some (.lst (xs.map V.ref ++ [V.ref tp])) := upd_same
    have ht : upd (upd (upd H tp (.tup [.int a, .int b, .int c])) lp (.lst [V.ref tp])) q (.lst (xs.map V.ref ++ [V.ref tp])) tp = some (.tup ([(a : Int), (b : Int), (c : Int)].map V.int)) := s3 _ _ (s2 _ _ upd_same)
    refine ⟨_, rfl, p, C, dx, _, rfl, s _ _ h1, T.cl, T.nD, (by show 7 < 1000; decide), ?_⟩
    rw [pF_deliveries_put]
    generalize upd (upd (upd H tp (.tup [.int a, .int b, .int c])) lp (.lst [V.ref tp])) q (.lst (xs.map V.ref ++ [V.ref tp])) = H3 at hq ht s
    have hqp : q ≠ p := ne_of hq (s _ _ h1) (by intro z; cases z)
    refine ⟨_, rfl, p, C, dx, _, _, rfl, upd_same, T.cl, T.nD, pF_deliveries, q, _, rfl, .inl (SqL.of ((upd_ne hqp).trans hq)), _, _, rfl, rfl, ?_⟩
    have hlen : ((((xs.map V.ref ++ [V.ref tp]).length : Nat) : Int) - 1) = (pl.deliveries.length : Int) := by
      rw [List.length_append, hl]
      show ((pl.deliveries.length + 1 : Nat) : Int) - 1 = _
      omega
    have hr : Rows H3 q (dR (pl.deliveries ++ [⟨a, b, c⟩])) := by
      rw [dR_snoc]
      exact Rows.snoc hp s hq ht
    have hk : Keep p H3 (upd H3 p (.ins C dx (pF (.int pl.today) (.int pl.stock) (.ref q) (.ref ac) (.int pl.arrivedCount) (.int pl.failedCount) (.int pl.fulfilledCount)))) := keep_upd
    have fin := ans1 kk (pl := Km549.withDelivery pl a b c) (n := (pl.deliveries.length : Int)) ((if_neg g).trans (if_neg (show ¬ 6 ≤ pl.deliveries.length by omega))) (Same.keep2 s hk) ⟨dx, q, ac, upd_same, hr.keep (s _ _ h1) hk, (h3.same s).keep (s _ _ h1) hk⟩
    rw [← hlen] at fin
    exact fin

def refC (pl : Planner) (a d : Nat) : Int := if a = 0 ∨ 99 < a ∨ d < pl.today ∨ 30 < d then -22 else if 7 ≤ pl.commitments.length then -28 else 0
def sp_commitment_refusal (K : PySem.W.Frag) (C CD : Addr) : Sp := fun vs H Q _ => ∃ (p : Addr) (pl : Planner) (a d : Nat), vs = [.ref p, .int a, .int d] ∧ View C H p pl ∧ pl.commitments.length ≤ 60 ∧ Q (.int (refC pl a d)) H
theorem own_commitment_refusal (T : Txt K mg C CD) : Own P w K mg base "commitment_refusal" ["plan", "amount", "due"] 2 (sp_commitment_refusal K C CD) := by
  have G_is_amount := own_is_amount (P := P) (w := w) (base := base) T
  have G_is_day_ahead := own_is_day_ahead (P := P) (w := w) (base := base) T
  refine own_of T.h_commitment_refusal sc_commitment_refusal (fun _ _ _ _ _ _ us hl => match us, hl with | [_, _, _], _ => rfl) (fun vs H Q E h => ?_) (fun cdv A outer s H vs Q E hr h => ⟨_, (pss_cons (ps_if (PW.pt (pw_or (pt_not (pt_val (pe_own G_is_amount hr (pa_cons (pv 1) pa_nil)))) (pw_or1 (pt_not (pt_val (pe_own G_is_day_ahead hr (pa_cons (pv 0) (pa_cons (pv 2) pa_nil)))))))) (pss_one (ps_ret (pe_gint T.c_OUT_OF_RANGE))) pss_nil) (pss_cons (ps_if (pt_cmpR op_ge (pe_callB call_len_seq (by rfl) T.len PySem.boot_len (pa_cons (pe_fld (pv 0) rfl) pa_nil)) (pe_gint T.c_MOST_COMMITMENTS) (nomark _)) (pss_one (ps_ret (pe_gint T.c_FULL))) pss_nil) (pss_one (ps_ret pe_int)))), ?_⟩)
  · obtain ⟨p, pl, a, d, rfl, hv, hz, kk⟩ := h
    rfl
  · obtain ⟨p, pl, a, d, rfl, hv, hz, kk⟩ := h
    have no : (a = 0 ∨ 99 < a ∨ d < pl.today ∨ 30 < d) → Q (.int (-22)) H := fun g => by
      have e : refC pl a d = -22 := if_pos g
      rw [e] at kk
      exact kk
    refine ⟨_, rfl, a, rfl, _, rfl, if2 (fun c1 => ?_) (fun c1 => ?_)⟩
    · exact iteT (no (by have := nd_t c1; omega))
    have c1 := nd_f c1
    refine ⟨_, rfl, _, rfl, p, pl, d, rfl, hv, _, rfl, if2 (fun c3 => ?_) (fun c3 => ?_)⟩
    · exact no (by have := nd_t c3; omega)
    have c3 := nd_f c3
    have g : ¬ (a = 0 ∨ 99 < a ∨ d < pl.today ∨ 30 < d) := by omega
    obtain ⟨dx, ad, ac, x, y, z, h1, h2, ⟨xs, h3, hp⟩⟩ := hv
    have hl : (xs.map V.ref).length = pl.commitments.length := by rw [List.length_map, paired_len hp, cR_length]
    refine ⟨_, rfl, p, C, dx, _, _, rfl, h1, T.cl, T.nC, pF_commitments, ac, _, rfl, .inl (SqL.of h3), _, _, rfl, rfl, _, rfl, if2 (fun c4 => ?_) (fun c4 => ?_)⟩
    · have c4 := of_decide_eq_true c4
      have e : refC pl a d = -28 := (if_neg g).trans (if_pos (by omega))
      rw [e] at kk
      exact kk
    · have c4 := of_decide_eq_false c4
      have e : refC pl a d = 0 := (if_neg g).trans (if_neg (by omega))
      rw [e] at kk
      exact kk

end
end Cs

namespace Cs
open PySem PySem.Spec PyProof.Rows L2
open Km549 (Planner Delivery Commitment)
section
variable {P : Program} {w : World} {K : PySem.W.Frag} {mg : Str → Option Value} {base : Heap} {C CD : Addr}
def sp_add_commitment (K : PySem.W.Frag) (C CD : Addr) : Sp := fun vs H Q _ => ∃ (p : Addr) (pl : Planner) (a d : Nat), vs = [.ref p, .int a, .int d] ∧ PlanAt C H p pl ∧ Good pl ∧ OpPost C H p (Km549.step (some pl) (.addCommitment a d)) Q
theorem own_add_commitment (T : Txt K mg C CD) : Own P w K mg base "add_commitment" ["plan", "amount", "due"] 3 (sp_add_commitment K C CD) := by
  have G_commitment_refusal := own_commitment_refusal (P := P) (w := w) (base := base) T
  refine own_of T.h_add_commitment sc_add_commitment (fun _ _ _ _ _ _ us hl => match us, hl with | [_, _, _], _ => rfl) (fun vs H Q E h => ?_) (fun cdv A outer s H vs Q E hr h => ⟨_, (pss_cons (ps_set (i := 3) sc_add_commitment.nd rfl (Or.inl rfl) (pe_own G_commitment_refusal hr (pa_cons (pv 0) (pa_cons (pv 1) (pa_cons (pv 2) pa_nil))))) (pss_cons (ps_if (pt_cmpR op_lt (pv 3) pe_int (nomark _)) (pss_one (ps_ret (pe_lst (pa_cons (pv 3) pa_nil)))) pss_nil) (pss_cons (ps_fld (pv 0) (pe_op op_cat (pe_fld (pv 0) rfl) (pe_lst (pa_cons (pe_tup (pa_cons (pv 1) (pa_cons (pv 2) pa_nil))) pa_nil))) rfl) (pss_one (ps_ret (pe_lst (pa_cons (pe_op op_sub (pe_callB call_len_seq (by rfl) T.len PySem.boot_len (pa_cons (pe_fld (pv 0) rfl) pa_nil)) pe_int) pa_nil))))))), ?_⟩)
  · obtain ⟨p, pl, a, d, rfl, hv, hg, kk⟩ := h
    rfl
  · obtain ⟨p, pl, a, d, rfl, hv, hg, kk⟩ := h
    have hz := hg.2.2
    refine ⟨_, rfl, _, rfl, _, rfl, p, pl, a, d, rfl, hv.view, by omega, ?_⟩
    by_cases g : a = 0 ∨ 99 < a ∨ d < pl.today ∨ 30 < d
    · have e : refC pl a d = -22 := if_pos g
      rw [e]
      exact ⟨_, rfl, _, _, rfl, rfl, _, rfl, iteT ⟨_, rfl, ans1 kk (n := -22) (if_pos g) (Same.keep (Same.refl H)) hv⟩⟩
    by_cases g2 : 7 ≤ pl.commitments.length
    · have e : refC pl a d = -28 := (if_neg g).trans (if_pos g2)
      rw [e]
      exact ⟨_, rfl, _, _, rfl, rfl, _, rfl, iteT ⟨_, rfl, ans1 kk (n := -28) ((if_neg g).trans (if_pos g2)) (Same.keep (Same.refl H)) hv⟩⟩
    have e : refC pl a d = 0 := (if_neg g).trans (if_neg g2)
    rw [e]
    obtain ⟨dx, ad, ac, h1, h2, ⟨xs, h3, hp⟩⟩ := hv
    refine ⟨_, rfl, _, _, rfl, rfl, _, rfl, iteF ?_⟩
    refine ⟨_, rfl, p, C, dx, _, _, rfl, h1, T.cl, T.nC, pF_commitments, _, rfl, _, rfl, cat_row (r := [(a : Int), (d : Int)]) h3 hp (by rw [cR_length]; omega) (by show 2 ≤ 60; decide) fun H3 q s nq hr => ?_⟩
    refine ⟨_, rfl, p, C, dx, _, rfl, s _ _ h1, T.cl, T.nC, (by show 7 < 1000; decide), ?_⟩
    rw [pF_commitments_put]
    have hqp := hr.apart (s _ _ h1)
    have hr0 := hr
    obtain ⟨ys, h4, hp4, hl⟩ := hr.cat
    refine ⟨_, rfl, p, C, dx, _, _, rfl, upd_same, T.cl, T.nC, pF_commitments, q, _, rfl, .inl (SqL.of ((upd_ne hqp).trans h4)), _, _, rfl, rfl, ?_⟩
    have hlen : ((((ys.map V.ref).length : Nat) : Int) - 1) = (pl.commitments.length : Int) := by
      rw [hl, List.length_append, cR_length]
      show ((pl.commitments.length + 1 : Nat) : Int) - 1 = _
      omega
    have hk : Keep p H3 (upd H3 p (.ins C dx (pF (.int pl.today) (.int pl.stock) (.ref ad) (.ref q) (.int pl.arrivedCount) (.int pl.failedCount) (.int pl.fulfilledCount)))) := keep_upd
    have hr1 : Rows H3 q (cR (pl.commitments ++ [⟨a, d⟩])) := by
      rw [cR_snoc]
      exact hr0
    have fin := ans1 kk (pl := Km549.withCommitment pl a d) (n := (pl.commitments.length : Int)) ((if_neg g).trans (if_neg g2)) (Same.keep2 s hk) ⟨dx, ad, q, upd_same, (h2.same s).keep (s _ _ h1) hk, hr1.keep (s _ _ h1) hk⟩
    rw [← hlen] at fin
    exact fin

def sp_add_covered_commitment (K : PySem.W.Frag) (C CD : Addr) : Sp := fun vs H Q _ => ∃ (p : Addr) (pl : Planner) (k a d : Nat), vs = [.ref p, .int k, .int a, .int d] ∧ PlanAt C H p pl ∧ Good pl ∧ OpPost C H p (Km549.step (some pl) (.addCoveredCommitment k a d)) Q
theorem own_add_covered_commitment (T : Txt K mg C CD) : Own P w K mg base "add_covered_commitment" ["plan", "k", "amount", "due"] 6 (sp_add_covered_commitment K C CD) := by
  have G_commitment_refusal := own_commitment_refusal (P := P) (w := w) (base := base) T
  have G_is_covered := own_is_covered (P := P) (w := w) (base := base) T
  have G_plan_like := own_plan_like (P := P) (w := w) (base := base) T
  refine own_of T.h_add_covered_commitment sc_add_covered_commitment (fun _ _ _ _ _ _ us hl => match us, hl with | [_, _, _, _], _ => rfl) (fun vs H Q E h => ?_) (fun cdv A outer s H vs Q E hr h => ⟨_, (pss_cons (ps_if (pt_cmpR op_gt (pv 1) (pe_gint T.c_MOST_FAILURES) (nomark _)) (pss_one (ps_ret (pe_lst (pa_cons (pe_gint T.c_OUT_OF_RANGE) pa_nil)))) pss_nil) (pss_cons (ps_set (i := 4) sc_add_covered_commitment.nd rfl (Or.inl rfl) (pe_own G_commitment_refusal hr (pa_cons (pv 0) (pa_cons (pv 2) (pa_cons (pv 3) pa_nil))))) (pss_cons (ps_if (pt_cmpR op_lt (pv 4) pe_int (nomark _)) (pss_one (ps_ret (pe_lst (pa_cons (pv 4) pa_nil)))) pss_nil) (pss_cons (ps_set (i := 5) sc_add_covered_commitment.nd rfl (Or.inl rfl) (pe_op op_cat (pe_fld (pv 0) rfl) (pe_lst (pa_cons (pe_tup (pa_cons (pv 2) (pa_cons (pv 3) pa_nil))) pa_nil)))) (pss_cons (ps_if (pt_not (pt_val (pe_own G_is_covered hr (pa_cons (pe_own G_plan_like hr (pa_cons (pv 0) (pa_cons (pe_fld (pv 0) rfl) (pa_cons (pv 5) pa_nil)))) (pa_cons (pv 1) pa_nil))))) (pss_one (ps_ret (pe_lst (pa_cons (pe_gint T.c_NOT_COVERED) pa_nil)))) pss_nil) (pss_cons (ps_fld (pv 0) (pv 5) rfl) (pss_one (ps_ret (pe_lst (pa_cons (pe_op op_sub (pe_callB call_len_seq (by rfl) T.len PySem.boot_len (pa_cons (pv 5) pa_nil)) pe_int) pa_nil)))))))))), ?_⟩)
  · obtain ⟨p, pl, k, a, d, rfl, hv, hg, kk⟩ := h
    rfl
  · obtain ⟨p, pl, k, a, d, rfl, hv, hg, kk⟩ := h
    have hz := hg.2.2
    have hy := hg.2.1
    refine ⟨_, rfl, _, _, rfl, rfl, _, rfl, if2 (fun c => ?_) (fun c => ?_)⟩
    · have c := of_decide_eq_true c
      exact ans1 kk (n := -22) (if_pos (by show 6 < k ∨ _; omega)) (Same.keep (Same.refl H)) hv
    have c := of_decide_eq_false c
    refine ⟨_, rfl, _, rfl, _, rfl, p, pl, a, d, rfl, hv.view, by omega, ?_⟩
    by_cases g : a = 0 ∨ 99 < a ∨ d < pl.today ∨ 30 < d
    · have e : refC pl a d = -22 := if_pos g
      rw [e]
      exact ⟨_, rfl, _, _, rfl, rfl, _, rfl, iteT ⟨_, rfl, ans1 kk (n := -22) (if_pos (.inr g)) (Same.keep (Same.refl H)) hv⟩⟩
    have gk : ¬ (6 < k ∨ a = 0 ∨ 99 < a ∨ d < pl.today ∨ 30 < d) := by omega
    by_cases g2 : 7 ≤ pl.commitments.length
    · have e : refC pl a d = -28 := (if_neg g).trans (if_pos g2)
      rw [e]
      exact ⟨_, rfl, _, _, rfl, rfl, _, rfl, iteT ⟨_, rfl, ans1 kk (n := -28) ((if_neg gk).trans (if_pos g2)) (Same.keep (Same.refl H)) hv⟩⟩
    have e : refC pl a d = 0 := (if_neg g).trans (if_neg g2)
    rw [e]
    have hv0 := hv
    obtain ⟨dx, ad, ac, h1, h2, ⟨xs, h3, hp⟩⟩ := hv
    refine ⟨_, rfl, _, _, rfl, rfl, _, rfl, iteF ?_⟩
    refine ⟨_, rfl, p, C, dx, _, _, rfl, h1, T.cl, T.nC, pF_commitments, _, rfl, _, rfl, cat_row (r := [(a : Int), (d : Int)]) h3 hp (by rw [cR_length]; omega) (by show 2 ≤ 60; decide) fun H3 q s nq hr => ?_⟩
    have hr1 : Rows H3 q (cR (pl.commitments ++ [⟨a, d⟩])) := by
      rw [cR_snoc]
      exact hr
    refine ⟨_, rfl, _, rfl, p, C, dx, _, _, rfl, s _ _ h1, T.cl, T.nD, pF_deliveries, _, rfl, p, pl, ad, pl.deliveries, q, pl.commitments ++ [⟨a, d⟩], rfl, (hv0.same s).view, h2.same s, hr1, fun H4 p2 e4 hv2 => ?_⟩
    refine ⟨_, rfl, p2, _, k, rfl, hv2, hg.1, by show pl.deliveries.length ≤ 60; omega, by show (pl.commitments ++ [(⟨a, d⟩ : Commitment)]).length ≤ 60; rw [List.length_append]; show pl.commitments.length + 1 ≤ 60; omega, fun H5 e5 => ?_⟩
    have s5 := (s.trans e4).trans e5
    refine ⟨_, rfl, if2 (fun c2 => ?_) (fun c2 => ?_)⟩
    · have c2 : (!Km549.isCovered (Km549.withCommitment pl a d) k) = true := c2
      have c2 : Km549.isCovered (Km549.withCommitment pl a d) k = false := by
        cases q : Km549.isCovered (Km549.withCommitment pl a d) k with
        | false => rfl
        | true =>
          rw [q] at c2
          cases c2
      exact ans1 kk (n := -30) ((if_neg gk).trans ((if_neg g2).trans (if_pos c2))) (Same.keep s5) (hv0.same s5)
    have c2 : ¬ Km549.isCovered (Km549.withCommitment pl a d) k = false := by
      intro z
      have c2 : (!Km549.isCovered (Km549.withCommitment pl a d) k) = false := c2
      rw [z] at c2
      cases c2
    refine ⟨_, rfl, _, rfl, p, C, dx, _, rfl, s5 _ _ h1, T.cl, T.nC, (by show 7 < 1000; decide), ?_⟩
    rw [pF_commitments_put]
    have hr5 := (hr1.same e4).same e5
    have hqp := hr5.apart (s5 _ _ h1)
    obtain ⟨ys, h4, hp4, hl⟩ := hr5.cat
    refine ⟨_, rfl, q, _, rfl, .inl (SqL.of ((upd_ne hqp).trans h4)), _, _, rfl, rfl, ?_⟩
    have hlen : ((((ys.map V.ref).length : Nat) : Int) - 1) = (pl.commitments.length : Int) := by
      rw [hl, cR_length, List.length_append]
      show ((pl.commitments.length + 1 : Nat) : Int) - 1 = _
      omega
    have hk : Keep p H5 (upd H5 p (.ins C dx (pF (.int pl.today) (.int pl.stock) (.ref ad) (.ref q) (.int pl.arrivedCount) (.int pl.failedCount) (.int pl.fulfilledCount)))) := keep_upd
    have fin := ans1 kk (pl := Km549.withCommitment pl a d) (n := (pl.commitments.length : Int)) ((if_neg gk).trans ((if_neg g2).trans (if_neg c2))) (Same.keep2 s5 hk) ⟨dx, ad, q, upd_same, (h2.same s5).keep (s5 _ _ h1) hk, hr5.keep (s5 _ _ h1) hk⟩
    rw [← hlen] at fin
    exact fin

def sp_cancel_commitment (K : PySem.W.Frag) (C CD : Addr) : Sp := fun vs H Q _ => ∃ (p : Addr) (pl : Planner) (j : Nat), vs = [.ref p, .int j] ∧ PlanAt C H p pl ∧ Good pl ∧ OpPost C H p (Km549.step (some pl) (.cancelCommitment j)) Q
theorem own_cancel_commitment (T : Txt K mg C CD) : Own P w K mg base "cancel_commitment" ["plan", "commitment"] 2 (sp_cancel_commitment K C CD) := by
  have G_without_row := own_without_row (P := P) (w := w) (base := base) T
  refine own_of T.h_cancel_commitment sc_cancel_commitment (fun _ _ _ _ _ _ us hl => match us, hl with | [_, _], _ => rfl) (fun vs H Q E h => ?_) (fun cdv A outer s H vs Q E hr h => ⟨_, (pss_cons (ps_if (pt_cmpR op_ge (pv 1) (pe_callB call_len_seq (by rfl) T.len PySem.boot_len (pa_cons (pe_fld (pv 0) rfl) pa_nil)) (nomark _)) (pss_one (ps_ret (pe_lst (pa_cons (pe_gint T.c_NOT_THERE) pa_nil)))) pss_nil) (pss_cons (ps_fld (pv 0) (pe_own G_without_row hr (pa_cons (pe_fld (pv 0) rfl) (pa_cons (pv 1) pa_nil))) rfl) (pss_one (ps_ret (pe_lst (pa_cons (pe_callB call_len_seq (by rfl) T.len PySem.boot_len (pa_cons (pe_fld (pv 0) rfl) pa_nil)) pa_nil)))))), ?_⟩)
  · obtain ⟨p, pl, j, rfl, hv, hg, kk⟩ := h
    rfl
  · obtain ⟨p, pl, j, rfl, hv, hg, kk⟩ := h
    have hz := hg.2.2
    have hv0 := hv
    obtain ⟨dx, ad, ac, h1, h2, h3⟩ := hv
    obtain ⟨xs, h4, hp, hl⟩ := h3.cat
    rw [cR_length] at hl
    refine ⟨_, rfl, _, rfl, p, C, dx, _, _, rfl, h1, T.cl, T.nC, pF_commitments, ac, _, rfl, .inl (SqL.of h4), _, _, rfl, rfl, _, rfl, if2 (fun c => ?_) (fun c => ?_)⟩
    · have c := of_decide_eq_true c
      exact ans1 kk (n := -2) (if_pos (by omega)) (Same.keep (Same.refl H)) hv0
    have c := of_decide_eq_false c
    have cj : ¬ pl.commitments.length ≤ j := by omega
    refine ⟨_, rfl, p, C, dx, _, _, rfl, h1, T.cl, T.nC, pF_commitments, _, rfl, ac, cR pl.commitments, j, rfl, h3, by rw [cR_length]; omega, by rw [cR_length]; omega, fun H3 q s nq hr => ?_⟩
    rw [cR_erase] at hr
    refine ⟨_, rfl, p, C, dx, _, rfl, s _ _ h1, T.cl, T.nC, (by show 7 < 1000; decide), ?_⟩
    rw [pF_commitments_put]
    have hqp := hr.apart (s _ _ h1)
    obtain ⟨ys, h5, hp5, hl5⟩ := hr.cat
    refine ⟨_, rfl, p, C, dx, _, _, rfl, upd_same, T.cl, T.nC, pF_commitments, q, _, rfl, .inl (SqL.of ((upd_ne hqp).trans h5)), ?_⟩
    have hlen : ((ys.map V.ref).length : Int) = ((pl.commitments.length - 1 : Nat) : Int) := by
      rw [hl5, cR_length, List.length_eraseIdx_of_lt (by omega)]
    have hk : Keep p H3 (upd H3 p (.ins C dx (pF (.int pl.today) (.int pl.stock) (.ref ad) (.ref q) (.int pl.arrivedCount) (.int pl.failedCount) (.int pl.fulfilledCount)))) := keep_upd
    have fin := ans1 kk (pl := Km549.withoutCommitment pl j) (n := ((pl.commitments.length - 1 : Nat) : Int)) (if_neg cj) (Same.keep2 s hk) ⟨dx, ad, q, upd_same, (h2.same s).keep (s _ _ h1) hk, hr.keep (s _ _ h1) hk⟩
    rw [← hlen] at fin
    exact fin

end
end Cs

namespace Cs
open PySem PySem.Spec PyProof.Rows L2
open Km549 (Planner Delivery Commitment)
section
variable {pl : Planner} {j : Nat}
theorem st_arr_none (h : pl.deliveries[j]? = none) : Km549.step (some pl) (.deliveryArrived j) = (some pl, ⟨-2, []⟩) := by
  simp only [Km549.step, h]
  rfl
theorem st_arr_no {d : Delivery} (h : pl.deliveries[j]? = some d) (c : pl.today < d.earliest) : Km549.step (some pl) (.deliveryArrived j) = (some pl, ⟨-33, []⟩) := by
  simp only [Km549.step, h, if_pos c]
  rfl
theorem st_arr_yes {d : Delivery} (h : pl.deliveries[j]? = some d) (c : ¬ pl.today < d.earliest) : Km549.step (some pl) (.deliveryArrived j) = (some { Km549.withoutDelivery pl j with stock := pl.stock + d.amount, arrivedCount := pl.arrivedCount + 1 }, ⟨((pl.stock + d.amount : Nat) : Int), []⟩) := by
  simp only [Km549.step, h, if_neg c]
  rfl
theorem st_fail_none (h : pl.deliveries[j]? = none) : Km549.step (some pl) (.deliveryFailed j) = (some pl, ⟨-2, []⟩) := by
  simp only [Km549.step, h]
  rfl
theorem st_fail_yes {d : Delivery} (h : pl.deliveries[j]? = some d) : Km549.step (some pl) (.deliveryFailed j) = (some { Km549.withoutDelivery pl j with failedCount := pl.failedCount + 1 }, ⟨((pl.deliveries.length - 1 : Nat) : Int), []⟩) := by
  simp only [Km549.step, h]
  rfl
theorem st_ful_none (h : pl.commitments[j]? = none) : Km549.step (some pl) (.fulfillCommitment j) = (some pl, ⟨-2, []⟩) := by
  simp only [Km549.step, h]
  rfl
theorem st_ful_no {d : Commitment} (h : pl.commitments[j]? = some d) (c : pl.stock < d.amount) : Km549.step (some pl) (.fulfillCommitment j) = (some pl, ⟨-19, []⟩) := by
  simp only [Km549.step, h, if_pos c]
  rfl
theorem st_ful_yes {d : Commitment} (h : pl.commitments[j]? = some d) (c : ¬ pl.stock < d.amount) : Km549.step (some pl) (.fulfillCommitment j) = (some { Km549.withoutCommitment pl j with stock := pl.stock - d.amount, fulfilledCount := pl.fulfilledCount + 1 }, ⟨((pl.stock - d.amount : Nat) : Int), []⟩) := by
  simp only [Km549.step, h, if_neg c]
  rfl
end
theorem dp_ints {K : PySem.W.Frag} {H : Hp} : ∀ ns : List Nat, DpAll K H (vI ns) (ns.map fun n : Nat => PyData.int n)
  | [] => .nil
  | n :: r => .cons (.int n) (dp_ints r)
theorem lay_ints : ∀ ns : List Nat, PyData.canLayAll0 (ns.map fun n : Nat => PyData.int n) = true
  | [] => rfl
  | n :: r => by
    show (true && PyData.canLayAll0 (r.map fun n : Nat => PyData.int n)) = true
    rw [lay_ints r]
    rfl
theorem depth_ints : ∀ ns : List Nat, PyData.depthAll (ns.map fun n : Nat => PyData.int n) = 0
  | [] => rfl
  | n :: r => by
    show max 0 (PyData.depthAll (r.map fun n : Nat => PyData.int n)) = 0
    rw [depth_ints r]
    rfl
theorem shaped_ints (ns : List Nat) : SeqAt.shaped (.list (ns.map fun n : Nat => PyData.int n)) = true := by
  show (PyData.canLayAll0 (ns.map fun n : Nat => PyData.int n) && decide (PyData.depthAll (ns.map fun n : Nat => PyData.int n) + 1 ≤ 64)) = true
  rw [lay_ints, depth_ints]
  rfl
theorem eqv_nil (ns : List Nat) : PyData.eqv (.list (ns.map fun n : Nat => PyData.int n)) (.list []) = ns.isEmpty := by
  cases ns with
  | nil => rfl
  | cons n r => rfl
/-- a list of whole numbers against [] -/
theorem ne_nil {K : PySem.W.Frag} {H : Hp} {D : Addr} {ns : List Nat} {Q : VK} (hD : H D = some (.lst (vI ns))) (k : ∀ H', Same H H' → Q (.bl (!ns.isEmpty)) H') :
    ([] : List V).length ≤ sizeLine ∧ ∀ q, H q = none → rNeD K (.ref D) (.ref q) (upd H q (.lst [])) Q := by
  refine ⟨Nat.zero_le _, fun q nq => ?_⟩
  refine ⟨_, .list [], .lst (SqL.of ((same_upd nq) _ _ hD)) (dp_ints ns), .lst (SqL.of upd_same) .nil, shaped_ints ns, rfl, ?_⟩
  rw [eqv_nil]
  exact k _ (same_upd nq)
theorem any_isEmpty {α : Type} (p : α → Bool) (f : α → Nat) (l : List α) : (!((l.filter p).map f).isEmpty) = l.any p := by
  induction l with
  | nil => rfl
  | cons x r ih =>
    cases c : p x with
    | true => simp [c]
    | false =>
      rw [List.filter_cons_of_neg (by rw [c]; exact Bool.false_ne_true), ih, List.any_cons, c, Bool.false_or]
end Cs

namespace Cs
open PySem PySem.Spec PyProof.Rows L2
open Km549 (Planner Delivery Commitment)
section
variable {P : Program} {w : World} {K : PySem.W.Frag} {mg : Str → Option Value} {base : Heap} {C CD : Addr}
def sp_delivery_arrived (K : PySem.W.Frag) (C CD : Addr) : Sp := fun vs H Q _ => ∃ (p : Addr) (pl : Planner) (j : Nat), vs = [.ref p, .int j] ∧ PlanAt C H p pl ∧ Good pl ∧ OpPost C H p (Km549.step (some pl) (.deliveryArrived j)) Q
theorem own_delivery_arrived (T : Txt K mg C CD) : Own P w K mg base "delivery_arrived" ["plan", "delivery"] 2 (sp_delivery_arrived K C CD) := by
  have G_without_row := own_without_row (P := P) (w := w) (base := base) T
  refine own_of T.h_delivery_arrived sc_delivery_arrived (fun _ _ _ _ _ _ us hl => match us, hl with | [_, _], _ => rfl) (fun vs H Q E h => ?_) (fun cdv A outer s H vs Q E hr h => ⟨_, (pss_cons (ps_if (pt_cmpR op_ge (pv 1) (pe_callB call_len_seq (by rfl) T.len PySem.boot_len (pa_cons (pe_fld (pv 0) rfl) pa_nil)) (nomark _)) (pss_one (ps_ret (pe_lst (pa_cons (pe_gint T.c_NOT_THERE) pa_nil)))) pss_nil) (pss_cons (ps_asg (pe_ix ix_list (pe_fld (pv 0) rfl) (pv 1) (fun _ _ => rfl)) (pg_tup rfl (pgs_cons (pg_name (i := 2) sc_delivery_arrived.nd rfl (Or.inl rfl)) (pgs_cons (pg_name (i := 3) sc_delivery_arrived.nd rfl (Or.inl rfl)) (pgs_cons (pg_name (i := 4) sc_delivery_arrived.nd rfl (Or.inl rfl)) pgs_nil))))) (pss_cons (ps_if (pt_cmpR op_lt (pe_fld (pv 0) rfl) (pv 3) (nomark _)) (pss_one (ps_ret (pe_lst (pa_cons (pe_gint T.c_NO_VALUE) pa_nil)))) pss_nil) (pss_cons (ps_fld (pv 0) (pe_own G_without_row hr (pa_cons (pe_fld (pv 0) rfl) (pa_cons (pv 1) pa_nil))) rfl) (pss_cons (ps_fld (pv 0) (pe_op op_add (pe_fld (pv 0) rfl) (pv 2)) rfl) (pss_cons (ps_fld (pv 0) (pe_op op_add (pe_fld (pv 0) rfl) pe_int) rfl) (pss_one (ps_ret (pe_lst (pa_cons (pe_fld (pv 0) rfl) pa_nil)))))))))), ?_⟩)
  · obtain ⟨p, pl, j, rfl, hv, hg, kk⟩ := h
    rfl
  · obtain ⟨p, pl, j, rfl, hv, hg, kk⟩ := h
    have hz := hg.2.1
    have hv0 := hv
    obtain ⟨dx, ad, ac, h1, h2, h3⟩ := hv
    obtain ⟨xs, h4, hp, hl⟩ := h2.cat
    rw [dR_length] at hl
    refine ⟨_, rfl, _, rfl, p, C, dx, _, _, rfl, h1, T.cl, T.nD, pF_deliveries, ad, _, rfl, .inl (SqL.of h4), _, _, rfl, rfl, _, rfl, if2 (fun c => ?_) (fun c => ?_)⟩
    · have c := of_decide_eq_true c
      exact ans1 kk (n := -2) (st_arr_none (by simp; omega)) (Same.keep (Same.refl H)) hv0
    have c := of_decide_eq_false c
    have cj : j < pl.deliveries.length := by omega
    have hj : pl.deliveries[j]? = some pl.deliveries[j] := by simp [cj]
    obtain ⟨x, q1, q2⟩ := paired_at hp (i := j) (b := [((pl.deliveries[j]).amount : Int), ((pl.deliveries[j]).earliest : Int), ((pl.deliveries[j]).latest : Int)]) (by unfold dR; rw [List.getElem?_map, hj]; rfl)
    generalize pl.deliveries[j] = de at hj q1 q2
    refine ⟨_, rfl, p, C, dx, _, _, rfl, h1, T.cl, T.nD, pF_deliveries, _, rfl, ad, _, _, .ref x, rfl, rfl, SqL.of h4, atI_nat (by rw [List.getElem?_map, q1]; rfl), x, _, rfl, SqT.of q2, rfl, _, _, rfl, _, _, rfl, _, _, rfl, rfl, ?_⟩
    refine ⟨_, rfl, p, C, dx, _, _, rfl, h1, T.cl, T.nT, pF_today, _, rfl, _, _, rfl, rfl, _, rfl, if2 (fun c2 => ?_) (fun c2 => ?_)⟩
    · have c2 := of_decide_eq_true c2
      exact ans1 kk (n := -33) (st_arr_no hj (by omega)) (Same.keep (Same.refl H)) hv0
    have c2 := of_decide_eq_false c2
    refine ⟨_, rfl, p, C, dx, _, _, rfl, h1, T.cl, T.nD, pF_deliveries, _, rfl, ad, dR pl.deliveries, j, rfl, h2, by rw [dR_length]; omega, by rw [dR_length]; omega, fun H3 q s nq hr => ?_⟩
    rw [dR_erase] at hr
    refine ⟨_, rfl, p, C, dx, _, rfl, s _ _ h1, T.cl, T.nD, (by show 7 < 1000; decide), ?_⟩
    rw [pF_deliveries_put]
    have hqp := hr.apart (s _ _ h1)
    refine ⟨_, rfl, p, C, dx, _, _, rfl, upd_same, T.cl, T.nS, pF_stock, _, rfl, _, _, rfl, rfl, _, rfl, p, C, dx, _, rfl, upd_same, T.cl, T.nS, (by show 7 < 1000; decide), ?_⟩
    rw [pF_stock_put, upd_upd]
    refine ⟨_, rfl, p, C, dx, _, _, rfl, upd_same, T.cl, T.nA, pF_arrived, _, _, rfl, rfl, _, rfl, p, C, dx, _, rfl, upd_same, T.cl, T.nA, (by show 7 < 1000; decide), ?_⟩
    rw [pF_arrived_put, upd_upd]
    refine ⟨_, rfl, p, C, dx, _, _, rfl, upd_same, T.cl, T.nS, pF_stock, ?_⟩
    have hk : Keep p H3 (upd H3 p (.ins C dx (pF (.int pl.today) (.int ((pl.stock : Int) + (de.amount : Int))) (.ref q) (.ref ac) (.int ((pl.arrivedCount : Int) + 1)) (.int pl.failedCount) (.int pl.fulfilledCount)))) := keep_upd
    have es : ((pl.stock + de.amount : Nat) : Int) = (pl.stock : Int) + (de.amount : Int) := Int.natCast_add _ _
    have fin := ans1 kk (pl := { Km549.withoutDelivery pl j with stock := pl.stock + de.amount, arrivedCount := pl.arrivedCount + 1 }) (n := ((pl.stock + de.amount : Nat) : Int)) (st_arr_yes hj (by omega)) (Same.keep2 s hk) ⟨dx, q, ac, upd_same, hr.keep (s _ _ h1) hk, (h3.same s).keep (s _ _ h1) hk⟩
    rw [es] at fin
    exact fin

def sp_delivery_failed (K : PySem.W.Frag) (C CD : Addr) : Sp := fun vs H Q _ => ∃ (p : Addr) (pl : Planner) (j : Nat), vs = [.ref p, .int j] ∧ PlanAt C H p pl ∧ Good pl ∧ OpPost C H p (Km549.step (some pl) (.deliveryFailed j)) Q
theorem own_delivery_failed (T : Txt K mg C CD) : Own P w K mg base "delivery_failed" ["plan", "delivery"] 2 (sp_delivery_failed K C CD) := by
  have G_without_row := own_without_row (P := P) (w := w) (base := base) T
  refine own_of T.h_delivery_failed sc_delivery_failed (fun _ _ _ _ _ _ us hl => match us, hl with | [_, _], _ => rfl) (fun vs H Q E h => ?_) (fun cdv A outer s H vs Q E hr h => ⟨_, (pss_cons (ps_if (pt_cmpR op_ge (pv 1) (pe_callB call_len_seq (by rfl) T.len PySem.boot_len (pa_cons (pe_fld (pv 0) rfl) pa_nil)) (nomark _)) (pss_one (ps_ret (pe_lst (pa_cons (pe_gint T.c_NOT_THERE) pa_nil)))) pss_nil) (pss_cons (ps_fld (pv 0) (pe_own G_without_row hr (pa_cons (pe_fld (pv 0) rfl) (pa_cons (pv 1) pa_nil))) rfl) (pss_cons (ps_fld (pv 0) (pe_op op_add (pe_fld (pv 0) rfl) pe_int) rfl) (pss_one (ps_ret (pe_lst (pa_cons (pe_callB call_len_seq (by rfl) T.len PySem.boot_len (pa_cons (pe_fld (pv 0) rfl) pa_nil)) pa_nil))))))), ?_⟩)
  · obtain ⟨p, pl, j, rfl, hv, hg, kk⟩ := h
    rfl
  · obtain ⟨p, pl, j, rfl, hv, hg, kk⟩ := h
    have hz := hg.2.1
    have hv0 := hv
    obtain ⟨dx, ad, ac, h1, h2, h3⟩ := hv
    obtain ⟨xs, h4, hp, hl⟩ := h2.cat
    rw [dR_length] at hl
    refine ⟨_, rfl, _, rfl, p, C, dx, _, _, rfl, h1, T.cl, T.nD, pF_deliveries, ad, _, rfl, .inl (SqL.of h4), _, _, rfl, rfl, _, rfl, if2 (fun c => ?_) (fun c => ?_)⟩
    · have c := of_decide_eq_true c
      exact ans1 kk (n := -2) (st_fail_none (by simp; omega)) (Same.keep (Same.refl H)) hv0
    have c := of_decide_eq_false c
    have cj : j < pl.deliveries.length := by omega
    have hj : pl.deliveries[j]? = some pl.deliveries[j] := by simp [cj]
    refine ⟨_, rfl, p, C, dx, _, _, rfl, h1, T.cl, T.nD, pF_deliveries, _, rfl, ad, dR pl.deliveries, j, rfl, h2, by rw [dR_length]; omega, by rw [dR_length]; omega, fun H3 q s nq hr => ?_⟩
    rw [dR_erase] at hr
    refine ⟨_, rfl, p, C, dx, _, rfl, s _ _ h1, T.cl, T.nD, (by show 7 < 1000; decide), ?_⟩
    rw [pF_deliveries_put]
    have hqp := hr.apart (s _ _ h1)
    obtain ⟨ys, h5, hp5, hl5⟩ := hr.cat
    refine ⟨_, rfl, p, C, dx, _, _, rfl, upd_same, T.cl, T.nF, pF_failed, _, _, rfl, rfl, _, rfl, p, C, dx, _, rfl, upd_same, T.cl, T.nF, (by show 7 < 1000; decide), ?_⟩
    rw [pF_failed_put, upd_upd]
    refine ⟨_, rfl, p, C, dx, _, _, rfl, upd_same, T.cl, T.nD, pF_deliveries, q, _, rfl, .inl (SqL.of ((upd_ne hqp).trans h5)), ?_⟩
    have hlen : ((ys.map V.ref).length : Int) = ((pl.deliveries.length - 1 : Nat) : Int) := by
      rw [hl5, dR_length, List.length_eraseIdx_of_lt (by omega)]
    have hk : Keep p H3 (upd H3 p (.ins C dx (pF (.int pl.today) (.int pl.stock) (.ref q) (.ref ac) (.int pl.arrivedCount) (.int ((pl.failedCount : Int) + 1)) (.int pl.fulfilledCount)))) := keep_upd
    have fin := ans1 kk (pl := { Km549.withoutDelivery pl j with failedCount := pl.failedCount + 1 }) (n := ((pl.deliveries.length - 1 : Nat) : Int)) (st_fail_yes hj) (Same.keep2 s hk) ⟨dx, q, ac, upd_same, hr.keep (s _ _ h1) hk, (h3.same s).keep (s _ _ h1) hk⟩
    rw [← hlen] at fin
    exact fin

def sp_fulfill_commitment (K : PySem.W.Frag) (C CD : Addr) : Sp := fun vs H Q _ => ∃ (p : Addr) (pl : Planner) (j : Nat), vs = [.ref p, .int j] ∧ PlanAt C H p pl ∧ Good pl ∧ OpPost C H p (Km549.step (some pl) (.fulfillCommitment j)) Q
theorem own_fulfill_commitment (T : Txt K mg C CD) : Own P w K mg base "fulfill_commitment" ["plan", "commitment"] 2 (sp_fulfill_commitment K C CD) := by
  have G_without_row := own_without_row (P := P) (w := w) (base := base) T
  refine own_of T.h_fulfill_commitment sc_fulfill_commitment (fun _ _ _ _ _ _ us hl => match us, hl with | [_, _], _ => rfl) (fun vs H Q E h => ?_) (fun cdv A outer s H vs Q E hr h => ⟨_, (pss_cons (ps_if (pt_cmpR op_ge (pv 1) (pe_callB call_len_seq (by rfl) T.len PySem.boot_len (pa_cons (pe_fld (pv 0) rfl) pa_nil)) (nomark _)) (pss_one (ps_ret (pe_lst (pa_cons (pe_gint T.c_NOT_THERE) pa_nil)))) pss_nil) (pss_cons (ps_asg (pe_ix ix_list (pe_fld (pv 0) rfl) (pv 1) (fun _ _ => rfl)) (pg_tup rfl (pgs_cons (pg_name (i := 2) sc_fulfill_commitment.nd rfl (Or.inl rfl)) (pgs_cons (pg_name (i := 3) sc_fulfill_commitment.nd rfl (Or.inl rfl)) pgs_nil)))) (pss_cons (ps_if (pt_cmpR op_lt (pe_fld (pv 0) rfl) (pv 2) (nomark _)) (pss_one (ps_ret (pe_lst (pa_cons (pe_gint T.c_NOT_ENOUGH) pa_nil)))) pss_nil) (pss_cons (ps_fld (pv 0) (pe_own G_without_row hr (pa_cons (pe_fld (pv 0) rfl) (pa_cons (pv 1) pa_nil))) rfl) (pss_cons (ps_fld (pv 0) (pe_op op_sub (pe_fld (pv 0) rfl) (pv 2)) rfl) (pss_cons (ps_fld (pv 0) (pe_op op_add (pe_fld (pv 0) rfl) pe_int) rfl) (pss_one (ps_ret (pe_lst (pa_cons (pe_fld (pv 0) rfl) pa_nil)))))))))), ?_⟩)
  · obtain ⟨p, pl, j, rfl, hv, hg, kk⟩ := h
    rfl
  · obtain ⟨p, pl, j, rfl, hv, hg, kk⟩ := h
    have hz := hg.2.2
    have hv0 := hv
    obtain ⟨dx, ad, ac, h1, h2, h3⟩ := hv
    obtain ⟨xs, h4, hp, hl⟩ := h3.cat
    rw [cR_length] at hl
    refine ⟨_, rfl, _, rfl, p, C, dx, _, _, rfl, h1, T.cl, T.nC, pF_commitments, ac, _, rfl, .inl (SqL.of h4), _, _, rfl, rfl, _, rfl, if2 (fun c => ?_) (fun c => ?_)⟩
    · have c := of_decide_eq_true c
      exact ans1 kk (n := -2) (st_ful_none (by simp; omega)) (Same.keep (Same.refl H)) hv0
    have c := of_decide_eq_false c
    have cj : j < pl.commitments.length := by omega
    have hj : pl.commitments[j]? = some pl.commitments[j] := by simp [cj]
    obtain ⟨x, q1, q2⟩ := paired_at hp (i := j) (b := [((pl.commitments[j]).amount : Int), ((pl.commitments[j]).due : Int)]) (by unfold cR; rw [List.getElem?_map, hj]; rfl)
    generalize pl.commitments[j] = de at hj q1 q2
    refine ⟨_, rfl, p, C, dx, _, _, rfl, h1, T.cl, T.nC, pF_commitments, _, rfl, ac, _, _, .ref x, rfl, rfl, SqL.of h4, atI_nat (by rw [List.getElem?_map, q1]; rfl), x, _, rfl, SqT.of q2, rfl, _, _, rfl, _, _, rfl, rfl, ?_⟩
    refine ⟨_, rfl, p, C, dx, _, _, rfl, h1, T.cl, T.nS, pF_stock, _, rfl, _, _, rfl, rfl, _, rfl, if2 (fun c2 => ?_) (fun c2 => ?_)⟩
    · have c2 := of_decide_eq_true c2
      exact ans1 kk (n := -19) (st_ful_no hj (by omega)) (Same.keep (Same.refl H)) hv0
    have c2 := of_decide_eq_false c2
    refine ⟨_, rfl, p, C, dx, _, _, rfl, h1, T.cl, T.nC, pF_commitments, _, rfl, ac, cR pl.commitments, j, rfl, h3, by rw [cR_length]; omega, by rw [cR_length]; omega, fun H3 q s nq hr => ?_⟩
    rw [cR_erase] at hr
    refine ⟨_, rfl, p, C, dx, _, rfl, s _ _ h1, T.cl, T.nC, (by show 7 < 1000; decide), ?_⟩
    rw [pF_commitments_put]
    have hqp := hr.apart (s _ _ h1)
    refine ⟨_, rfl, p, C, dx, _, _, rfl, upd_same, T.cl, T.nS, pF_stock, _, rfl, _, _, rfl, rfl, _, rfl, p, C, dx, _, rfl, upd_same, T.cl, T.nS, (by show 7 < 1000; decide), ?_⟩
    rw [pF_stock_put, upd_upd]
    refine ⟨_, rfl, p, C, dx, _, _, rfl, upd_same, T.cl, T.nU, pF_fulfilled, _, _, rfl, rfl, _, rfl, p, C, dx, _, rfl, upd_same, T.cl, T.nU, (by show 7 < 1000; decide), ?_⟩
    rw [pF_fulfilled_put, upd_upd]
    refine ⟨_, rfl, p, C, dx, _, _, rfl, upd_same, T.cl, T.nS, pF_stock, ?_⟩
    have es : ((pl.stock - de.amount : Nat) : Int) = (pl.stock : Int) - (de.amount : Int) := by omega
    have hk : Keep p H3 (upd H3 p (.ins C dx (pF (.int pl.today) (.int ((pl.stock : Int) - (de.amount : Int))) (.ref ad) (.ref q) (.int pl.arrivedCount) (.int pl.failedCount) (.int ((pl.fulfilledCount : Int) + 1))))) := keep_upd
    have hpl : PlanAt C (upd H3 p (.ins C dx (pF (.int pl.today) (.int ((pl.stock : Int) - (de.amount : Int))) (.ref ad) (.ref q) (.int pl.arrivedCount) (.int pl.failedCount) (.int ((pl.fulfilledCount : Int) + 1))))) p { Km549.withoutCommitment pl j with stock := pl.stock - de.amount, fulfilledCount := pl.fulfilledCount + 1 } := by
      refine ⟨dx, ad, q, ?_, (h2.same s).keep (s _ _ h1) hk, hr.keep (s _ _ h1) hk⟩
      rw [upd_same, ← es]
      rfl
    have fin := ans1 kk (pl := { Km549.withoutCommitment pl j with stock := pl.stock - de.amount, fulfilledCount := pl.fulfilledCount + 1 }) (n := ((pl.stock - de.amount : Nat) : Int)) (st_ful_yes hj (by omega)) (Same.keep2 s hk) hpl
    rw [es] at fin
    exact fin

end
end Cs

namespace Cs
open PySem PySem.Spec PyProof.Rows L2
open Km549 (Planner Delivery Commitment)
section
variable {P : Program} {w : World} {K : PySem.W.Frag} {mg : Str → Option Value} {base : Heap} {C CD : Addr}
def sp_next_day (K : PySem.W.Frag) (C CD : Addr) : Sp := fun vs H Q _ => ∃ (p : Addr) (pl : Planner), vs = [.ref p] ∧ PlanAt C H p pl ∧ Good pl ∧ OpPost C H p (Km549.step (some pl) .nextDay) Q
theorem own_next_day (T : Txt K mg C CD) : Own P w K mg base "next_day" ["plan"] 1 (sp_next_day K C CD) := by
  refine own_of T.h_next_day sc_next_day (fun _ _ _ _ _ _ us hl => match us, hl with | [_], _ => rfl) (fun vs H Q E h => ?_) (fun cdv A outer s H vs Q E hr h => ⟨_, (pss_cons (ps_if (pt_cmpR (op_neD hr.units) (pe_lc (own := [("amount", 1), ("due", 2)]) (g := (gTup K 2 (gCons (gName 1) (gCons (gName 2) gNil)))) (tt := (tTest (tOp (rI0 fun i j => .bl (decide (i ≤ j))) (tVar 2) (tFld K (tVar 0) "today")))) rfl sc_next_day.nd (pi_list (pe_fld (pv 0) rfl)) (blkOk_by (own := [("amount", 1), ("due", 2)]) (N := N_next_day) (sc := defScope s_next_day) (by decide +kernel)) (fun _ _ _ _ _ => (pg_tup rfl (pgs_cons (pg_name (i := 1) sc_next_day.nd rfl (Or.inl rfl)) (pgs_cons (pg_name (i := 2) sc_next_day.nd rfl (Or.inl rfl)) pgs_nil)))) (fun _ _ _ _ _ => pts_one (pt_cmpR op_le (pv 2) (pe_fld (pv 0) rfl) (nomark _))) (fun _ _ _ _ _ => (pv 2))) (pe_lst pa_nil) (nomark _)) (pss_one (ps_ret (pe_lst (pa_cons (pe_gint T.c_NOT_COVERED) pa_nil)))) pss_nil) (pss_cons (ps_if (pt_cmpR (op_neD hr.units) (pe_lc (own := [("amount", 1), ("earliest", 3), ("latest", 4)]) (g := (gTup K 3 (gCons (gName 1) (gCons (gName 3) (gCons (gName 4) gNil))))) (tt := (tTest (tOp (rI0 fun i j => .bl (decide (i ≤ j))) (tVar 4) (tFld K (tVar 0) "today")))) rfl sc_next_day.nd (pi_list (pe_fld (pv 0) rfl)) (blkOk_by (own := [("amount", 1), ("earliest", 3), ("latest", 4)]) (N := N_next_day) (sc := defScope s_next_day) (by decide +kernel)) (fun _ _ _ _ _ => (pg_tup rfl (pgs_cons (pg_name (i := 1) sc_next_day.nd rfl (Or.inl rfl)) (pgs_cons (pg_name (i := 3) sc_next_day.nd rfl (Or.inl rfl)) (pgs_cons (pg_name (i := 4) sc_next_day.nd rfl (Or.inl rfl)) pgs_nil))))) (fun _ _ _ _ _ => pts_one (pt_cmpR op_le (pv 4) (pe_fld (pv 0) rfl) (nomark _))) (fun _ _ _ _ _ => (pv 4))) (pe_lst pa_nil) (nomark _)) (pss_one (ps_ret (pe_lst (pa_cons (pe_gint T.c_NO_VALUE) pa_nil)))) pss_nil) (pss_cons (ps_if (pt_cmpR op_eq (pe_fld (pv 0) rfl) (pe_gint T.c_LAST_DAY) (nomark _)) (pss_one (ps_ret (pe_lst (pa_cons (pe_gint T.c_LAST_DAY_REACHED) pa_nil)))) pss_nil) (pss_cons (ps_fld (pv 0) (pe_op op_add (pe_fld (pv 0) rfl) pe_int) rfl) (pss_one (ps_ret (pe_lst (pa_cons (pe_fld (pv 0) rfl) pa_nil)))))))), ?_⟩)
  · obtain ⟨p, pl, rfl, hv, hg, kk⟩ := h
    rfl
  · obtain ⟨p, pl, rfl, hv, hg, kk⟩ := h
    have hz := hg.2.1
    have hz2 := hg.2.2
    have hv0 := hv
    obtain ⟨dx, ad, ac, h1, h2, h3⟩ := hv
    obtain ⟨xs, h4, hp, hl⟩ := h3.cat
    rw [cR_length] at hl
    obtain ⟨ys, h5, hp5, hl5⟩ := h2.cat
    rw [dR_length] at hl5
    refine ⟨_, rfl, p, C, dx, _, _, rfl, h1, T.cl, T.nC, pF_commitments, ac, rfl, ⟨_, SqL.of h4⟩, fun D hD => lc_keep (walk_list (xs := xs.map V.ref)) hD (fun H' e => SqL.of (e _ _ h4)) (fun i => vI (((pl.commitments.take i).filter fun c => decide (c.due ≤ pl.today)).map fun c => c.due)) rfl ?_ ?_⟩
    · rintro i x H1 H2 hi e1 hF ⟨rfl, hxi⟩
      obtain ⟨x, q, rfl, hq, hxx⟩ := c_item (paired_mono hp e1) hxi
      refine ⟨x, _, rfl, SqT.of hxx, rfl, _, _, rfl, _, _, rfl, rfl, rfl, _, rfl, _, rfl, p, C, dx, _, _, rfl, e1 _ _ h1, T.cl, T.nT, pF_today, _, _, rfl, rfl, _, rfl, if2 (fun c => ?_) (fun c => ?_)⟩
      · have c := of_decide_eq_true c
        refine ⟨_, rfl, lc_yes hD e1 hF (by rw [vI_length]; exact Nat.lt_of_le_of_lt (flt_len _ _ _ _) (by omega)) ?_⟩
        rw [flt_yes hq (decide_eq_true (by omega)), vI_append]
        rfl
      · have c := of_decide_eq_false c
        exact lc_no e1 hF (by rw [flt_no hq (decide_eq_false (by omega))])
    intro H1 e1 hF
    rw [hl, List.take_length] at hF
    refine ne_nil hF fun H2 e2 => ⟨_, rfl, ?_⟩
    rw [any_isEmpty]
    have s2 := e1.trans e2
    refine if2 (fun c => ?_) (fun c => ?_)
    · exact ans1 kk (n := -30) (if_pos c) (Same.keep s2) (hv0.same s2)
    have c : ¬ (pl.commitments.any fun c => decide (c.due ≤ pl.today)) = true := by rw [c]; exact Bool.false_ne_true
    refine ⟨_, rfl, p, C, dx, _, _, rfl, s2 _ _ h1, T.cl, T.nD, pF_deliveries, ad, rfl, ⟨_, SqL.of (s2 _ _ h5)⟩, fun D2 hD2 => lc_keep (walk_list (xs := ys.map V.ref)) hD2 (fun H' e => SqL.of (e _ _ (s2 _ _ h5))) (fun i => vI (((pl.deliveries.take i).filter fun c => decide (c.latest ≤ pl.today)).map fun c => c.latest)) rfl ?_ ?_⟩
    · rintro i x H3 H4 hi e3 hF ⟨rfl, hxi⟩
      obtain ⟨x, q, rfl, hq, hxx⟩ := d_item (paired_mono hp5 (s2.trans e3)) hxi
      refine ⟨x, _, rfl, SqT.of hxx, rfl, _, _, rfl, _, _, rfl, _, _, rfl, rfl, rfl, _, rfl, _, rfl, p, C, dx, _, _, rfl, (s2.trans e3) _ _ h1, T.cl, T.nT, pF_today, _, _, rfl, rfl, _, rfl, if2 (fun c => ?_) (fun c => ?_)⟩
      · have c := of_decide_eq_true c
        refine ⟨_, rfl, lc_yes hD2 e3 hF (by rw [vI_length]; exact Nat.lt_of_le_of_lt (flt_len _ _ _ _) (by omega)) ?_⟩
        rw [flt_yes hq (decide_eq_true (by omega)), vI_append]
        rfl
      · have c := of_decide_eq_false c
        exact lc_no e3 hF (by rw [flt_no hq (decide_eq_false (by omega))])
    intro H3 e3 hF
    rw [hl5, List.take_length] at hF
    refine ne_nil hF fun H4 e4 => ⟨_, rfl, ?_⟩
    rw [any_isEmpty]
    have s4 := (s2.trans e3).trans e4
    refine if2 (fun c2 => ?_) (fun c2 => ?_)
    · exact ans1 kk (n := -33) ((if_neg c).trans (if_pos c2)) (Same.keep s4) (hv0.same s4)
    have c2 : ¬ (pl.deliveries.any fun c => decide (c.latest ≤ pl.today)) = true := by rw [c2]; exact Bool.false_ne_true
    refine ⟨_, rfl, p, C, dx, _, _, rfl, s4 _ _ h1, T.cl, T.nT, pF_today, rfl, _, rfl, if2 (fun c3 => ?_) (fun c3 => ?_)⟩
    · have c3 := V.int.inj (of_decide_eq_true c3)
      exact ans1 kk (n := -75) ((if_neg c).trans ((if_neg c2).trans (if_pos (show 30 ≤ pl.today by omega)))) (Same.keep s4) (hv0.same s4)
    have ht := hg.1
    have c3 : ¬ 30 ≤ pl.today := by
      have c3 := of_decide_eq_false c3
      intro z
      exact c3 (by rw [show pl.today = 30 by omega]; rfl)
    refine ⟨_, rfl, p, C, dx, _, _, rfl, s4 _ _ h1, T.cl, T.nT, pF_today, _, _, rfl, rfl, _, rfl, p, C, dx, _, rfl, s4 _ _ h1, T.cl, T.nT, (by show 7 < 1000; decide), ?_⟩
    rw [pF_today_put]
    refine ⟨_, rfl, p, C, dx, _, _, rfl, upd_same, T.cl, T.nT, pF_today, ?_⟩
    have hk : Keep p H4 (upd H4 p (.ins C dx (pF (.int ((pl.today : Int) + 1)) (.int pl.stock) (.ref ad) (.ref ac) (.int pl.arrivedCount) (.int pl.failedCount) (.int pl.fulfilledCount)))) := keep_upd
    exact ans1 kk (pl := { pl with today := pl.today + 1 }) (n := ((pl.today + 1 : Nat) : Int)) ((if_neg c).trans ((if_neg c2).trans (if_neg c3))) (Same.keep2 s4 hk) ⟨dx, ad, ac, upd_same, (h2.same s4).keep (s4 _ _ h1) hk, (h3.same s4).keep (s4 _ _ h1) hk⟩

def sp_cancel_best (K : PySem.W.Frag) (C CD : Addr) : Sp := fun vs H Q _ => ∃ (p : Addr) (pl : Planner) (k : Nat), vs = [.ref p, .int k] ∧ PlanAt C H p pl ∧ Good pl ∧ OpPost C H p (Km549.step (some pl) (.cancelBest k)) Q
theorem st_cb_no {pl : Planner} {k : Nat} (h : 6 < k) : Km549.step (some pl) (.cancelBest k) = (some pl, ⟨-22, []⟩) := if_pos h
theorem st_cb_yes {pl : Planner} {k s : Nat} (h : ¬ 6 < k) (e : Km549.bestCancellation pl k = some s) : Km549.step (some pl) (.cancelBest k) = (some (Km549.withoutSet pl s), ⟨(Km549.setSize s : Nat), []⟩) := by
  refine (if_neg h).trans ?_
  rw [e]
  rfl
theorem own_cancel_best (T : Txt K mg C CD) : Own P w K mg base "cancel_best" ["plan", "k"] 8 (sp_cancel_best K C CD) := by
  have G_best_members := own_best_members (P := P) (w := w) (base := base) T
  have G_rows_without := own_rows_without (P := P) (w := w) (base := base) T
  refine own_of T.h_cancel_best sc_cancel_best (fun _ _ _ _ _ _ us hl => match us, hl with | [_, _], _ => rfl) (fun vs H Q E h => ?_) (fun cdv A outer s H vs Q E hr h => ⟨_, (pss_cons (ps_if (pt_cmpR op_gt (pv 1) (pe_gint T.c_MOST_FAILURES) (nomark _)) (pss_one (ps_ret (pe_lst (pa_cons (pe_gint T.c_OUT_OF_RANGE) pa_nil)))) pss_nil) (pss_cons (ps_set (i := 2) sc_cancel_best.nd rfl (Or.inl rfl) (pe_own G_best_members hr (pa_cons (pv 0) (pa_cons (pv 1) pa_nil)))) (pss_cons (ps_fld (pv 0) (pe_own G_rows_without hr (pa_cons (pe_fld (pv 0) rfl) (pa_cons (pv 2) pa_nil))) rfl) (pss_one (ps_ret (pe_lst (pa_cons (pe_callB call_len_seq (by rfl) T.len PySem.boot_len (pa_cons (pv 2) pa_nil)) pa_nil))))))), ?_⟩)
  · obtain ⟨p, pl, k, rfl, hv, hg, kk⟩ := h
    rfl
  · obtain ⟨p, pl, k, rfl, hv, hg, kk⟩ := h
    have hz := hg.2.1
    have hz2 := hg.2.2
    have hv0 := hv
    obtain ⟨dx, ad, ac, h1, h2, h3⟩ := hv
    refine ⟨_, rfl, _, _, rfl, rfl, _, rfl, if2 (fun c => ?_) (fun c => ?_)⟩
    · have c := of_decide_eq_true c
      exact ans1 kk (n := -22) (st_cb_no (by omega)) (Same.keep (Same.refl H)) hv0
    have c := of_decide_eq_false c
    obtain ⟨s, es, hs, em⟩ := Ma.best_some pl k
    refine ⟨_, rfl, _, rfl, p, pl, k, rfl, hv0.view, hg.1, hz, hz2, fun H1 r e1 nr hr => ?_⟩
    rw [← em] at hr
    refine ⟨_, rfl, p, C, dx, _, _, rfl, e1 _ _ h1, T.cl, T.nC, pF_commitments, _, rfl, ac, r, _, _, rfl, h3.same e1, hr, by rw [cR_length]; omega, fun H2 q e2 nq hq => ?_⟩
    have er : Ma.without (cR pl.commitments) (Ma.memb s pl.commitments.length) = cR (Km549.withoutSet pl s).commitments := by
      rw [Ma.withoutSet_eq]
      exact Ma.without_map _ _ _
    rw [er] at hq
    have s2 := e1.trans e2
    refine ⟨_, rfl, p, C, dx, _, rfl, s2 _ _ h1, T.cl, T.nC, (by show 7 < 1000; decide), ?_⟩
    rw [pF_commitments_put]
    have hrp : r ≠ p := ne_of hr (e1 _ _ h1) (by intro z; cases z)
    refine ⟨_, rfl, r, _, rfl, .inl (SqL.of ((upd_ne hrp).trans (e2 _ _ hr))), ?_⟩
    have hk : Keep p H2 (upd H2 p (.ins C dx (pF (.int pl.today) (.int pl.stock) (.ref ad) (.ref q) (.int pl.arrivedCount) (.int pl.failedCount) (.int pl.fulfilledCount)))) := keep_upd
    have hlen : ((vI (Ma.memb s pl.commitments.length)).length : Int) = ((Km549.setSize s : Nat) : Int) := by
      rw [vI_length, Ma.setSize_eq hs hz2]
    have fin := ans1 kk (pl := Km549.withoutSet pl s) (n := ((Km549.setSize s : Nat) : Int)) (st_cb_yes (by omega) es) (Same.keep2 s2 hk) ⟨dx, ad, q, upd_same, (h2.same s2).keep (s2 _ _ h1) hk, hq.keep (s2 _ _ h1) hk⟩
    rw [← hlen] at fin
    exact fin

end
end Cs

namespace Cs
open PySem PySem.Spec PyProof.Rows L2
open Km549 (Planner Delivery Commitment)
section
variable {C : Addr} {H H1 : Hp} {p : Addr} {pl : Planner} {o : Km549.State × Km549.Result} {Q : VK}
theorem ansR (kk : OpPost C H p o Q) {n : Int} {ns : List Int} (ho : o = (some pl, ⟨n, ns⟩)) (e : Same H H1) (hp : PlanAt C H p pl) {r : Addr} (hr : H r = none) (h' : H1 r = some (.lst (V.int n :: ns.map V.int))) : Q (.ref r) H1 := by
  subst ho
  exact kk H1 r pl rfl (Same.keep e) hr (hp.same e) h'
/-- a list made new at the end -/
theorem ansN (kk : OpPost C H p o Q) {n : Int} {ns : List Int} {vs : List V} (ho : o = (some pl, ⟨n, ns⟩)) (e : Same H H1) (hp : PlanAt C H p pl) (hv : vs = V.int n :: ns.map V.int) : ∀ r, H1 r = none → Q (.ref r) (upd H1 r (.lst vs)) := fun r nr =>
  ansR kk ho (e.trans (same_upd nr)) hp (e.free nr) (by rw [upd_same, hv])
end
def optL : Option Nat → List V
  | none => [.int (-33)]
  | some k => [.int (k : Int)]
theorem ints_map (l : List Nat) : (Km549.toInts l).map V.int = vI l := by
  rw [vI_ints]
  rfl
theorem opt_res (o : Option Nat) : V.int (Km549.optionResult o).num :: (Km549.optionResult o).nums.map V.int = optL o := by
  cases o <;> rfl
end Cs

namespace Cs
open PySem PySem.Spec PyProof.Rows L2
open Km549 (Planner Delivery Commitment)
section
variable {P : Program} {w : World} {K : PySem.W.Frag} {mg : Str → Option Value} {base : Heap} {C CD : Addr}
def sp_counted (K : PySem.W.Frag) (C CD : Addr) : Sp := fun vs H Q _ => ∃ (a : Addr) (l : List Nat), vs = [.ref a] ∧ H a = some (.lst (vI l)) ∧ l.length ≤ 100 ∧
    ∀ (H' : Hp) (r : Addr), Same H H' → H r = none → H' r = some (.lst (V.int l.length :: vI l)) → Q (.ref r) H'
theorem own_counted (T : Txt K mg C CD) : Own P w K mg base "counted" ["numbers"] 1 (sp_counted K C CD) := by
  refine own_of T.h_counted sc_counted (fun _ _ _ _ _ _ us hl => match us, hl with | [_], _ => rfl) (fun vs H Q E h => ?_) (fun cdv A outer s H vs Q E hr h => ⟨_, (pss_one (ps_ret (pe_op op_cat (pe_lst (pa_cons (pe_callB call_len_seq (by rfl) T.len PySem.boot_len (pa_cons (pv 0) pa_nil)) pa_nil)) (pv 0)))), ?_⟩)
  · obtain ⟨a, l, rfl, ha, hz, kk⟩ := h
    rfl
  · obtain ⟨a, l, rfl, ha, hz, kk⟩ := h
    refine ⟨_, rfl, a, _, rfl, .inl (SqL.of ha), small_line (by show 1 ≤ 10000000; decide), fun q nq => ?_⟩
    have s1 := same_upd (o := .lst [V.int (vI l).length]) nq
    refine ⟨_, rfl, q, a, _, _, rfl, rfl, upd_same, s1 _ _ ha, small_line (by rw [vI_length]; show 1 + l.length ≤ 10000000; omega), fun r nr => ?_⟩
    have s2 := same_upd (o := .lst ([V.int (vI l).length] ++ vI l)) nr
    refine kk _ r (s1.trans s2) (s1.free nr) ?_
    rw [upd_same, vI_length]
    rfl

def sp_value_or_refusal (K : PySem.W.Frag) (C CD : Addr) : Sp := fun vs H Q _ => ∃ (o : Option Nat), vs = [optV o] ∧
    ∀ (H' : Hp) (r : Addr), Same H H' → H r = none → H' r = some (.lst (optL o)) → Q (.ref r) H'
theorem own_value_or_refusal (T : Txt K mg C CD) : Own P w K mg base "value_or_refusal" ["value"] 1 (sp_value_or_refusal K C CD) := by
  refine own_of T.h_value_or_refusal sc_value_or_refusal (fun _ _ _ _ _ _ us hl => match us, hl with | [_], _ => rfl) (fun vs H Q E h => ?_) (fun cdv A outer s H vs Q E hr h => ⟨_, (pss_one (ps_ret (pe_ifExp (pt_cmp (pc_isN (pv 0))) (pe_lst (pa_cons (pe_gint T.c_NO_VALUE) pa_nil)) (pe_lst (pa_cons (pv 0) pa_nil))))), ?_⟩)
  · obtain ⟨o, rfl, kk⟩ := h
    rfl
  · obtain ⟨o, rfl, kk⟩ := h
    cases o with
    | none =>
      refine ⟨_, rfl, _, rfl, iteT ⟨small_line (by show 1 ≤ 10000000; decide), fun q nq => ?_⟩⟩
      exact kk _ q (same_upd nq) nq upd_same
    | some k =>
      refine ⟨_, rfl, _, rfl, iteF ⟨_, rfl, small_line (by show 1 ≤ 10000000; decide), fun q nq => ?_⟩⟩
      exact kk _ q (same_upd nq) nq upd_same

def sp_list_rows (K : PySem.W.Frag) (C CD : Addr) : Sp := fun vs H Q _ => ∃ (a : Addr) (rows : List (List Int)), vs = [.ref a] ∧ Rows H a rows ∧ rows.length ≤ 60 ∧ (∀ r ∈ rows, r.length ≤ 3) ∧
    ∀ (H' : Hp) (r : Addr), Same H H' → H r = none → H' r = some (.lst (V.int rows.length :: rows.flatten.map V.int)) → Q (.ref r) H'
theorem flat_len : ∀ rows : List (List Int), (∀ r ∈ rows, r.length ≤ 3) → rows.flatten.length ≤ 3 * rows.length
  | [], _ => by simp
  | r :: t, h => by
    rw [List.flatten_cons, List.length_append, List.length_cons]
    have h1 := h r (by simp)
    have h2 := flat_len t fun x hx => h x (List.mem_cons_of_mem _ hx)
    omega
theorem own_list_rows (T : Txt K mg C CD) : Own P w K mg base "list_rows" ["rows"] 1 (sp_list_rows K C CD) := by
  refine own_of T.h_list_rows sc_list_rows (fun _ _ _ _ _ _ us hl => match us, hl with | [_], _ => rfl) (fun vs H Q E h => ?_) (fun cdv A outer s H vs Q E hr h => ⟨_, (pss_cons (ps_set (i := 1) sc_list_rows.nd rfl (Or.inl rfl) (pe_lst (pa_cons (pe_callB call_len_seq (by rfl) T.len PySem.boot_len (pa_cons (pv 0) pa_nil)) pa_nil))) (pss_cons (ps_for PassesOwn.never rfl (pi_list (pv 0)) (pg_name (i := 2) sc_list_rows.nd rfl (Or.inl rfl)) (pss_one (ps_expr (pe_bm PySem.F.plainAttrs_list PySem.F.slot_list_extend PySem.F.type_list_extend mt_extend (pv 1) (pa_cons (pe_callTy call_list_of (by rfl) T.list (by decide +kernel) (pa_cons (pv 2) pa_nil)) pa_nil))))) (pss_one (ps_ret (pv 1))))), ?_⟩)
  · obtain ⟨a, rows, rfl, hr, hz, h3, kk⟩ := h
    rfl
  · obtain ⟨a, rows, rfl, hr, hz, h3, kk⟩ := h
    obtain ⟨xs, hx, hp, hl⟩ := hr.cat
    refine ⟨_, rfl, a, _, rfl, .inl (SqL.of hx), small_line (by show 1 ≤ 10000000; decide), fun f nf => ?_⟩
    refine ⟨_, rfl, a, rfl, ⟨_, SqL.of ((same_upd nf) _ _ hx)⟩, for_list (K := K) (a := a) (xs := xs.map V.ref) (fun i σ H' => (∃ v, σ = [some (.ref a), some (.ref f), v]) ∧ Same H H' ∧ H' f = some (.lst (V.int (xs.map V.ref).length :: (rows.take i).flatten.map V.int))) ⟨⟨none, rfl⟩, same_upd nf, upd_same⟩ (fun i σ H' _ ⟨_, e, _⟩ => SqL.of (e _ _ hx)) ?_ ?_⟩
    · rintro i v σ H1 hi ⟨⟨w, rfl⟩, e1, hf⟩
      obtain ⟨x, r, rfl, hq, hxx⟩ := rows_item (paired_mono hp e1) hi
      refine ⟨_, rfl, .inl ⟨rfl, _, SqL.of hf⟩, _, rfl, x, _, rfl, .inr (SqT.of hxx), fun l nl => ?_⟩
      have s2 := same_upd (o := .lst (r.map V.int)) nl
      have hilt : i < rows.length := (List.getElem?_eq_some_iff.mp hq).1
      have hlen : (rows.take (i + 1)).flatten.length ≤ 3 * 60 := by
        have := flat_len (rows.take (i + 1)) fun r hr => h3 r (List.mem_of_mem_take hr)
        rw [List.length_take] at this
        omega
      have ef : (rows.take (i + 1)).flatten = (rows.take i).flatten ++ r := by
        rw [take_more hq, List.flatten_append]
        simp
      refine ⟨f, l, _, _, rfl, rfl, s2 _ _ hf, upd_same, small_line ?_, ⟨_, rfl⟩, fun b o e => ?_, ?_⟩
      · rw [ef, List.length_append] at hlen
        rw [List.length_cons, List.length_map, List.length_map]
        omega
      · rw [upd_ne (ne_of_none e nf)]
        exact s2 _ _ (e1 _ _ e)
      · rw [upd_same, ef, List.map_append]
        rfl
    · rintro σ H1 ⟨⟨w, rfl⟩, e1, hf⟩
      refine ⟨_, rfl, kk H1 f e1 nf ?_⟩
      rw [hf, hl, List.take_length]

def sp_covered (K : PySem.W.Frag) (C CD : Addr) : Sp := fun vs H Q _ => ∃ (p : Addr) (pl : Planner) (k : Nat), vs = [.ref p, .int k] ∧ PlanAt C H p pl ∧ Good pl ∧ OpPost C H p (Km549.step (some pl) (.isCovered k)) Q
theorem own_covered (T : Txt K mg C CD) : Own P w K mg base "covered" ["plan", "k"] 6 (sp_covered K C CD) := by
  have G_is_covered := own_is_covered (P := P) (w := w) (base := base) T
  refine own_of T.h_covered sc_covered (fun _ _ _ _ _ _ us hl => match us, hl with | [_, _], _ => rfl) (fun vs H Q E h => ?_) (fun cdv A outer s H vs Q E hr h => ⟨_, (pss_cons (ps_if (pt_cmpR op_gt (pv 1) (pe_gint T.c_MOST_FAILURES) (nomark _)) (pss_one (ps_ret (pe_lst (pa_cons (pe_gint T.c_OUT_OF_RANGE) pa_nil)))) pss_nil) (pss_one (ps_ret (pe_lst (pa_cons (pe_callTy call_int1 (by rfl) T.int (by decide +kernel) (pa_cons (pe_own G_is_covered hr (pa_cons (pv 0) (pa_cons (pv 1) pa_nil))) pa_nil)) pa_nil))))), ?_⟩)
  · obtain ⟨p, pl, k, rfl, hv, hg, kk⟩ := h
    rfl
  · obtain ⟨p, pl, k, rfl, hv, hg, kk⟩ := h
    have hz := hg.2.1
    have hz2 := hg.2.2
    refine ⟨_, rfl, _, _, rfl, rfl, _, rfl, if2 (fun c => ?_) (fun c => ?_)⟩
    · have c := of_decide_eq_true c
      exact ans1 kk (n := -22) (congrArg (Prod.mk (some pl)) (if_pos (show 6 < k by omega))) (Same.keep (Same.refl H)) hv
    have c := of_decide_eq_false c
    refine ⟨_, rfl, _, rfl, p, pl, k, rfl, hv.view, hg.1, by omega, by omega, fun H1 e1 => .inr ⟨_, rfl, ?_⟩⟩
    exact ans1 kk (n := if Km549.isCovered pl k then 1 else 0) (congrArg (Prod.mk (some pl)) (if_neg (show ¬ 6 < k by omega))) (Same.keep e1) (hv.same e1)

def sp_surplus (K : PySem.W.Frag) (C CD : Addr) : Sp := fun vs H Q _ => ∃ (p : Addr) (pl : Planner) (k d : Nat), vs = [.ref p, .int k, .int d] ∧ PlanAt C H p pl ∧ Good pl ∧ OpPost C H p (Km549.step (some pl) (.surplus k d)) Q
theorem own_surplus (T : Txt K mg C CD) : Own P w K mg base "surplus" ["plan", "k", "day"] 4 (sp_surplus K C CD) := by
  have G_surplus_on := own_surplus_on (P := P) (w := w) (base := base) T
  have G_supply_by := own_supply_by (P := P) (w := w) (base := base) T
  have G_due_by := own_due_by (P := P) (w := w) (base := base) T
  have G_is_day_ahead := own_is_day_ahead (P := P) (w := w) (base := base) T
  refine own_of T.h_surplus sc_surplus (fun _ _ _ _ _ _ us hl => match us, hl with | [_, _, _], _ => rfl) (fun vs H Q E h => ?_) (fun cdv A outer s H vs Q E hr h => ⟨_, (pss_cons (ps_if (PW.pt (pw_or (pt_cmpR op_gt (pv 1) (pe_gint T.c_MOST_FAILURES) (nomark _)) (pw_or1 (pt_not (pt_val (pe_own G_is_day_ahead hr (pa_cons (pv 0) (pa_cons (pv 2) pa_nil)))))))) (pss_one (ps_ret (pe_lst (pa_cons (pe_gint T.c_OUT_OF_RANGE) pa_nil)))) pss_nil) (pss_cons (ps_set (i := 3) sc_surplus.nd rfl (Or.inl rfl) (pe_own G_surplus_on hr (pa_cons (pv 0) (pa_cons (pv 1) (pa_cons (pv 2) pa_nil))))) (pss_one (ps_ret (pe_lst (pa_cons (pe_callTy call_int1 (by rfl) T.int (by decide +kernel) (pa_cons (pe_cmpR op_ge (pv 3) pe_int (nomark _)) pa_nil)) (pa_cons (pe_callB call_abs (by rfl) T.abs (by decide +kernel) (pa_cons (pv 3) pa_nil)) (pa_cons (pe_own G_supply_by hr (pa_cons (pv 0) (pa_cons (pv 1) (pa_cons (pv 2) pa_nil)))) (pa_cons (pe_own G_due_by hr (pa_cons (pv 0) (pa_cons (pv 2) pa_nil))) pa_nil))))))))), ?_⟩)
  · obtain ⟨p, pl, k, d, rfl, hv, hg, kk⟩ := h
    rfl
  · obtain ⟨p, pl, k, d, rfl, hv, hg, kk⟩ := h
    have hz := hg.2.1
    have hz2 := hg.2.2
    have no : (6 < k ∨ 30 < d ∨ d < pl.today) → ([V.int (-22)] : List V).length ≤ sizeLine ∧ ∀ r, H r = none → Q (.ref r) (upd H r (.lst [.int (-22)])) := fun g =>
      ans1 kk (n := -22) (congrArg (Prod.mk (some pl)) (if_pos g)) (Same.keep (Same.refl H)) hv
    refine ⟨_, rfl, _, _, rfl, rfl, _, rfl, if2 (fun c => ?_) (fun c => ?_)⟩
    · have c := of_decide_eq_true c
      exact iteT (no (by omega))
    have c := of_decide_eq_false c
    refine ⟨_, rfl, _, rfl, p, pl, d, rfl, hv.view, _, rfl, if2 (fun c3 => ?_) (fun c3 => ?_)⟩
    · exact no (by have := nd_t c3; omega)
    have c3 := nd_f c3
    have g : ¬ (6 < k ∨ 30 < d ∨ d < pl.today) := by omega
    refine ⟨_, rfl, _, rfl, _, rfl, p, pl, k, d, rfl, hv.view, by omega, by omega, fun H1 e1 => ?_⟩
    refine ⟨_, rfl, _, _, rfl, rfl, .inr ⟨_, rfl, ?_⟩⟩
    refine ⟨_, rfl, _, rfl, ?_⟩
    refine ⟨_, rfl, _, rfl, _, rfl, p, pl, k, d, rfl, (hv.same e1).view, by omega, fun H2 e2 => ?_⟩
    refine ⟨_, rfl, _, rfl, p, pl, d, rfl, (hv.same (e1.trans e2)).view, by omega, fun H3 e3 => ?_⟩
    refine ⟨small_line (by show 4 ≤ 10000000; decide), ?_⟩
    refine ansN kk (congrArg (Prod.mk (some pl)) (if_neg g)) ((e1.trans e2).trans e3) hv ?_
    show ([_, _, _, _] : List V) = [_, _, _, _]
    congr 1
    · by_cases q : 0 ≤ Km549.surplus pl k d
      · rw [if_pos q, decide_eq_true q]
        rfl
      · rw [if_neg q, decide_eq_false q]
        rfl
    · congr 1
      by_cases q : 0 ≤ Km549.surplus pl k d
      · rw [if_pos q, if_neg (by omega)]
      · rw [if_neg q, if_pos (by omega)]

def sp_available (K : PySem.W.Frag) (C CD : Addr) : Sp := fun vs H Q _ => ∃ (p : Addr) (pl : Planner) (k d : Nat), vs = [.ref p, .int k, .int d] ∧ PlanAt C H p pl ∧ Good pl ∧ OpPost C H p (Km549.step (some pl) (.available k d)) Q
theorem own_available (T : Txt K mg C CD) : Own P w K mg base "available" ["plan", "k", "day"] 5 (sp_available K C CD) := by
  have G_available_on := own_available_on (P := P) (w := w) (base := base) T
  have G_is_day_ahead := own_is_day_ahead (P := P) (w := w) (base := base) T
  refine own_of T.h_available sc_available (fun _ _ _ _ _ _ us hl => match us, hl with | [_, _, _], _ => rfl) (fun vs H Q E h => ?_) (fun cdv A outer s H vs Q E hr h => ⟨_, (pss_cons (ps_if (PW.pt (pw_or (pt_cmpR op_gt (pv 1) (pe_gint T.c_MOST_FAILURES) (nomark _)) (pw_or1 (pt_not (pt_val (pe_own G_is_day_ahead hr (pa_cons (pv 0) (pa_cons (pv 2) pa_nil)))))))) (pss_one (ps_ret (pe_lst (pa_cons (pe_gint T.c_OUT_OF_RANGE) pa_nil)))) pss_nil) (pss_cons (ps_set (i := 3) sc_available.nd rfl (Or.inl rfl) (pe_own G_available_on hr (pa_cons (pv 0) (pa_cons (pv 1) (pa_cons (pv 2) pa_nil))))) (pss_one (ps_ret (pe_ifExp (pt_cmpR op_lt (pv 3) pe_int (nomark _)) (pe_lst (pa_cons (pe_gint T.c_NO_VALUE) pa_nil)) (pe_lst (pa_cons (pv 3) pa_nil))))))), ?_⟩)
  · obtain ⟨p, pl, k, d, rfl, hv, hg, kk⟩ := h
    rfl
  · obtain ⟨p, pl, k, d, rfl, hv, hg, kk⟩ := h
    have hz := hg.2.1
    have hz2 := hg.2.2
    have no : (6 < k ∨ 30 < d ∨ d < pl.today) → ([V.int (-22)] : List V).length ≤ sizeLine ∧ ∀ r, H r = none → Q (.ref r) (upd H r (.lst [.int (-22)])) := fun g =>
      ans1 kk (n := -22) (congrArg (Prod.mk (some pl)) (if_pos g)) (Same.keep (Same.refl H)) hv
    refine ⟨_, rfl, _, _, rfl, rfl, _, rfl, if2 (fun c => ?_) (fun c => ?_)⟩
    · have c := of_decide_eq_true c
      exact iteT (no (by omega))
    have c := of_decide_eq_false c
    refine ⟨_, rfl, _, rfl, p, pl, d, rfl, hv.view, _, rfl, if2 (fun c3 => ?_) (fun c3 => ?_)⟩
    · exact no (by have := nd_t c3; omega)
    have c3 := nd_f c3
    have g : ¬ (6 < k ∨ 30 < d ∨ d < pl.today) := by omega
    refine ⟨_, rfl, _, rfl, _, rfl, p, pl, k, d, rfl, hv.view, by omega, by omega, by omega, by omega, fun H1 e1 => ?_⟩
    refine ⟨_, rfl, _, _, rfl, rfl, _, rfl, if2 (fun c4 => ?_) (fun c4 => ?_)⟩
    · have c4 := of_decide_eq_true c4
      exact ans1 kk (n := -33) (congrArg (Prod.mk (some pl)) ((if_neg g).trans (if_pos c4))) (Same.keep e1) (hv.same e1)
    · have c4 := of_decide_eq_false c4
      exact ⟨_, rfl, ans1 kk (n := Km549.available pl k d) (congrArg (Prod.mk (some pl)) ((if_neg g).trans (if_neg c4))) (Same.keep e1) (hv.same e1)⟩

end
end Cs

namespace Cs
open PySem PySem.Spec PyProof.Rows L2
open Km549 (Planner Delivery Commitment)
section
variable {P : Program} {w : World} {K : PySem.W.Frag} {mg : Str → Option Value} {base : Heap} {C CD : Addr}
def sp_earliest_day (K : PySem.W.Frag) (C CD : Addr) : Sp := fun vs H Q _ => ∃ (p : Addr) (pl : Planner) (k a : Nat), vs = [.ref p, .int k, .int a] ∧ PlanAt C H p pl ∧ Good pl ∧ OpPost C H p (Km549.step (some pl) (.earliestDay k a)) Q
theorem own_earliest_day (T : Txt K mg C CD) : Own P w K mg base "earliest_day" ["plan", "k", "amount"] 6 (sp_earliest_day K C CD) := by
  have G_value_or_refusal := own_value_or_refusal (P := P) (w := w) (base := base) T
  have G_first_day_with := own_first_day_with (P := P) (w := w) (base := base) T
  refine own_of T.h_earliest_day sc_earliest_day (fun _ _ _ _ _ _ us hl => match us, hl with | [_, _, _], _ => rfl) (fun vs H Q E h => ?_) (fun cdv A outer s H vs Q E hr h => ⟨_, (pss_cons (ps_if (PW.pt (pw_or (pt_cmpR op_gt (pv 1) (pe_gint T.c_MOST_FAILURES) (nomark _)) (pw_or1 (pt_cmpR op_eq (pv 2) pe_int (nomark _))))) (pss_one (ps_ret (pe_lst (pa_cons (pe_gint T.c_OUT_OF_RANGE) pa_nil)))) pss_nil) (pss_one (ps_ret (pe_own G_value_or_refusal hr (pa_cons (pe_own G_first_day_with hr (pa_cons (pv 0) (pa_cons (pv 1) (pa_cons (pv 2) pa_nil)))) pa_nil))))), ?_⟩)
  · obtain ⟨p, pl, k, a, rfl, hv, hg, kk⟩ := h
    rfl
  · obtain ⟨p, pl, k, a, rfl, hv, hg, kk⟩ := h
    have hz := hg.2.1
    have hz2 := hg.2.2
    have no : (6 < k ∨ a = 0) → ([V.int (-22)] : List V).length ≤ sizeLine ∧ ∀ r, H r = none → Q (.ref r) (upd H r (.lst [.int (-22)])) := fun g =>
      ans1 kk (n := -22) (congrArg (Prod.mk (some pl)) (if_pos g)) (Same.keep (Same.refl H)) hv
    refine ⟨_, rfl, _, _, rfl, rfl, _, rfl, if2 (fun c => ?_) (fun c => ?_)⟩
    · have c := of_decide_eq_true c
      exact iteT (no (by omega))
    have c := of_decide_eq_false c
    refine ⟨_, rfl, rfl, _, rfl, if2 (fun c2 => ?_) (fun c2 => ?_)⟩
    · have c2 := V.int.inj (of_decide_eq_true c2)
      exact no (by omega)
    have c2 : ¬ a = 0 := fun z => of_decide_eq_false c2 (by rw [z]; rfl)
    have g : ¬ (6 < k ∨ a = 0) := by omega
    refine ⟨_, rfl, _, rfl, _, rfl, p, pl, k, a, rfl, hv.view, hg.1, by omega, by omega, fun H1 e1 => ?_⟩
    refine ⟨_, rfl, fun H2 r e2 nr hr => ?_⟩
    exact ansR kk (congrArg (Prod.mk (some pl)) (if_neg g)) (e1.trans e2) hv (e1.free nr) (by rw [hr, ← opt_res]; rfl)

def sp_tolerance (K : PySem.W.Frag) (C CD : Addr) : Sp := fun vs H Q _ => ∃ (p : Addr) (pl : Planner), vs = [.ref p] ∧ PlanAt C H p pl ∧ Good pl ∧ OpPost C H p (Km549.step (some pl) .tolerance) Q
theorem own_tolerance (T : Txt K mg C CD) : Own P w K mg base "tolerance" ["plan"] 7 (sp_tolerance K C CD) := by
  have G_value_or_refusal := own_value_or_refusal (P := P) (w := w) (base := base) T
  have G_tolerance_of := own_tolerance_of (P := P) (w := w) (base := base) T
  refine own_of T.h_tolerance sc_tolerance (fun _ _ _ _ _ _ us hl => match us, hl with | [_], _ => rfl) (fun vs H Q E h => ?_) (fun cdv A outer s H vs Q E hr h => ⟨_, (pss_one (ps_ret (pe_own G_value_or_refusal hr (pa_cons (pe_own G_tolerance_of hr (pa_cons (pv 0) pa_nil)) pa_nil)))), ?_⟩)
  · obtain ⟨p, pl, rfl, hv, hg, kk⟩ := h
    rfl
  · obtain ⟨p, pl, rfl, hv, hg, kk⟩ := h
    have hz := hg.2.1
    have hz2 := hg.2.2
    refine ⟨_, rfl, p, pl, rfl, hv.view, hg.1, by omega, by omega, fun H1 e1 => ?_⟩
    refine ⟨_, rfl, fun H2 r e2 nr hr => ?_⟩
    exact ansR kk rfl (e1.trans e2) hv (e1.free nr) (by rw [hr, ← opt_res]; rfl)

def sp_safe_commitments (K : PySem.W.Frag) (C CD : Addr) : Sp := fun vs H Q _ => ∃ (p : Addr) (pl : Planner) (k : Nat), vs = [.ref p, .int k] ∧ PlanAt C H p pl ∧ Good pl ∧ OpPost C H p (Km549.step (some pl) (.safeCommitments k)) Q
theorem safe_eq (pl : Planner) (k n : Nat) : ((List.range n).filter fun j => match pl.commitments[j]? with | none => false | some commitment => Km549.isSafe pl k commitment) = safeNs pl k n := by
  unfold safeNs
  congr 1
  funext j
  cases pl.commitments[j]? with
  | none => rfl
  | some c => exact Ma.isSafe_eq pl k c
theorem own_safe_commitments (T : Txt K mg C CD) : Own P w K mg base "safe_commitments" ["plan", "k"] 7 (sp_safe_commitments K C CD) := by
  have G_counted := own_counted (P := P) (w := w) (base := base) T
  have G_safe_numbers := own_safe_numbers (P := P) (w := w) (base := base) T
  refine own_of T.h_safe_commitments sc_safe_commitments (fun _ _ _ _ _ _ us hl => match us, hl with | [_, _], _ => rfl) (fun vs H Q E h => ?_) (fun cdv A outer s H vs Q E hr h => ⟨_, (pss_cons (ps_if (pt_cmpR op_gt (pv 1) (pe_gint T.c_MOST_FAILURES) (nomark _)) (pss_one (ps_ret (pe_lst (pa_cons (pe_gint T.c_OUT_OF_RANGE) pa_nil)))) pss_nil) (pss_one (ps_ret (pe_own G_counted hr (pa_cons (pe_own G_safe_numbers hr (pa_cons (pv 0) (pa_cons (pv 1) pa_nil))) pa_nil))))), ?_⟩)
  · obtain ⟨p, pl, k, rfl, hv, hg, kk⟩ := h
    rfl
  · obtain ⟨p, pl, k, rfl, hv, hg, kk⟩ := h
    have hz := hg.2.1
    have hz2 := hg.2.2
    refine ⟨_, rfl, _, _, rfl, rfl, _, rfl, if2 (fun c => ?_) (fun c => ?_)⟩
    · have c := of_decide_eq_true c
      exact ans1 kk (n := -22) (congrArg (Prod.mk (some pl)) (if_pos (show 6 < k by omega))) (Same.keep (Same.refl H)) hv
    have c := of_decide_eq_false c
    refine ⟨_, rfl, _, rfl, p, pl, k, rfl, hv.view, hg.1, by omega, by omega, fun H1 a e1 na ha => ?_⟩
    refine ⟨a, _, rfl, ha, by have := safeNs_length pl k pl.commitments.length; omega, fun H2 r e2 nr hr => ?_⟩
    rw [← safe_eq] at hr
    exact ansR kk (congrArg (Prod.mk (some pl)) (if_neg (show ¬ 6 < k by omega))) (e1.trans e2) hv (e1.free nr) (by rw [hr, ← ints_map]; rfl)

def sp_dependent_commitments (K : PySem.W.Frag) (C CD : Addr) : Sp := fun vs H Q _ => ∃ (p : Addr) (pl : Planner) (j : Nat), vs = [.ref p, .int j] ∧ PlanAt C H p pl ∧ Good pl ∧ OpPost C H p (Km549.step (some pl) (.dependentCommitments j)) Q
def depNs (pl : Planner) (j : Nat) : List Nat := (safeNs pl 0 pl.commitments.length).filter fun i => !decide (i ∈ safeNs (Km549.withoutDelivery pl j) 0 pl.commitments.length)
theorem dep_eq (pl : Planner) (j : Nat) : ((List.range pl.commitments.length).filter fun i => match pl.commitments[i]? with | none => false | some commitment => Km549.isSafe pl 0 commitment && !(Km549.isSafe (Km549.withoutDelivery pl j) 0 commitment)) = depNs pl j := by
  unfold depNs
  rw [show safeNs pl 0 pl.commitments.length = (List.range pl.commitments.length).filter fun i => match pl.commitments[i]? with | none => false | some c => Ma.safeBy pl 0 c.due from rfl, List.filter_filter]
  refine List.filter_congr fun i hi => ?_
  have hi := List.mem_range.mp hi
  have e : pl.commitments[i]? = some pl.commitments[i] := by simp [hi]
  have e2 : (Km549.withoutDelivery pl j).commitments[i]? = some pl.commitments[i] := e
  have em : decide (i ∈ safeNs (Km549.withoutDelivery pl j) 0 pl.commitments.length) = Ma.safeBy (Km549.withoutDelivery pl j) 0 (pl.commitments[i]).due := by
    cases q : Ma.safeBy (Km549.withoutDelivery pl j) 0 (pl.commitments[i]).due with
    | true =>
      refine decide_eq_true (List.mem_filter.mpr ⟨List.mem_range.mpr hi, ?_⟩)
      rw [e2]
      exact q
    | false =>
      refine decide_eq_false fun z => ?_
      have z := (List.mem_filter.mp z).2
      rw [e2] at z
      exact Bool.false_ne_true (q.symm.trans z)
  rw [em, e]
  show (Km549.isSafe pl 0 pl.commitments[i] && !(Km549.isSafe (Km549.withoutDelivery pl j) 0 pl.commitments[i])) = _
  rw [Ma.isSafe_eq, Ma.isSafe_eq, Bool.and_comm]
theorem own_dependent_commitments (T : Txt K mg C CD) : Own P w K mg base "dependent_commitments" ["plan", "delivery"] 7 (sp_dependent_commitments K C CD) := by
  have G_plan_like := own_plan_like (P := P) (w := w) (base := base) T
  have G_safe_numbers := own_safe_numbers (P := P) (w := w) (base := base) T
  have G_counted := own_counted (P := P) (w := w) (base := base) T
  have G_without_row := own_without_row (P := P) (w := w) (base := base) T
  refine own_of T.h_dependent_commitments sc_dependent_commitments (fun _ _ _ _ _ _ us hl => match us, hl with | [_, _], _ => rfl) (fun vs H Q E h => ?_) (fun cdv A outer s H vs Q E hr h => ⟨_, (pss_cons (ps_if (pt_cmpR op_ge (pv 1) (pe_callB call_len_seq (by rfl) T.len PySem.boot_len (pa_cons (pe_fld (pv 0) rfl) pa_nil)) (nomark _)) (pss_one (ps_ret (pe_lst (pa_cons (pe_gint T.c_NOT_THERE) pa_nil)))) pss_nil) (pss_cons (ps_set (i := 2) sc_dependent_commitments.nd rfl (Or.inl rfl) (pe_own G_plan_like hr (pa_cons (pv 0) (pa_cons (pe_own G_without_row hr (pa_cons (pe_fld (pv 0) rfl) (pa_cons (pv 1) pa_nil))) (pa_cons (pe_fld (pv 0) rfl) pa_nil))))) (pss_cons (ps_set (i := 3) sc_dependent_commitments.nd rfl (Or.inr rfl) (pe_own G_safe_numbers hr (pa_cons (pv 2) (pa_cons pe_int pa_nil)))) (pss_one (ps_ret (pe_own G_counted hr (pa_cons (pe_lc (own := [("number", 4)]) (g := (gName 4)) (tt := (tTest (tOp (rIn K true) (tVar 4) (tVar 3)))) rfl sc_dependent_commitments.nd (pi_list (pe_own G_safe_numbers hr (pa_cons (pv 0) (pa_cons pe_int pa_nil)))) (blkOk_by (own := [("number", 4)]) (N := N_dependent_commitments) (sc := defScope s_dependent_commitments) (by decide +kernel)) (fun _ _ _ _ _ => (pg_name (i := 4) sc_dependent_commitments.nd rfl (Or.inl rfl))) (fun _ _ _ _ _ => pts_one (pt_cmpR op_notIn_seq (pv 4) (pv 3) (by rfl))) (fun _ _ _ _ _ => (pv 4))) pa_nil))))))), ?_⟩)
  · obtain ⟨p, pl, j, rfl, hv, hg, kk⟩ := h
    rfl
  · obtain ⟨p, pl, j, rfl, hv, hg, kk⟩ := h
    have hz := hg.2.1
    have hz2 := hg.2.2
    have hv0 := hv
    obtain ⟨dx, ad, ac, h1, h2, h3⟩ := hv
    obtain ⟨xs, h4, hp, hl⟩ := h2.cat
    rw [dR_length] at hl
    refine ⟨_, rfl, _, rfl, p, C, dx, _, _, rfl, h1, T.cl, T.nD, pF_deliveries, ad, _, rfl, .inl (SqL.of h4), _, _, rfl, rfl, _, rfl, if2 (fun c => ?_) (fun c => ?_)⟩
    · have c := of_decide_eq_true c
      exact ans1 kk (n := -2) (congrArg (Prod.mk (some pl)) (if_pos (show pl.deliveries.length ≤ j by omega))) (Same.keep (Same.refl H)) hv0
    have c := of_decide_eq_false c
    refine ⟨_, rfl, _, rfl, p, C, dx, _, _, rfl, h1, T.cl, T.nD, pF_deliveries, _, rfl, ad, dR pl.deliveries, j, rfl, h2, by rw [dR_length]; omega, by rw [dR_length]; omega, fun H1 q e1 nq hq => ?_⟩
    rw [dR_erase] at hq
    refine ⟨_, rfl, p, C, dx, _, _, rfl, e1 _ _ h1, T.cl, T.nC, pF_commitments, p, pl, q, pl.deliveries.eraseIdx j, ac, pl.commitments, rfl, (hv0.same e1).view, hq, h3.same e1, fun H2 p2 e2 hv2 => ?_⟩
    have hv2 : View C H2 p2 (Km549.withoutDelivery pl j) := hv2
    have hle : (Km549.withoutDelivery pl j).deliveries.length ≤ 60 := by
      show (pl.deliveries.eraseIdx j).length ≤ 60
      have := List.length_eraseIdx_le pl.deliveries j
      omega
    refine ⟨_, rfl, p2, _, 0, rfl, hv2, hg.1, hle, by show pl.commitments.length ≤ 60; omega, fun H3 b e3 nb hb => ?_⟩
    have s3 := (e1.trans e2).trans e3
    refine ⟨_, rfl, p, pl, 0, rfl, (hv0.same s3).view, hg.1, by omega, by omega, fun H4 a e4 na ha => ?_⟩
    have hb4 := e4 _ _ hb
    refine ⟨a, rfl, ⟨_, SqL.of ha⟩, fun D hD => lc_keep (walk_list (xs := vI (safeNs pl 0 pl.commitments.length))) hD (fun H' e => SqL.of (e _ _ ha)) (fun i => (((safeNs pl 0 pl.commitments.length).take i).filter fun i => !decide (i ∈ safeNs (Km549.withoutDelivery pl j) 0 pl.commitments.length)).map fun n : Nat => V.int (n : Int)) rfl ?_ ?_⟩
    · rintro i v H5 H6 hi e5 hF ⟨rfl, hvi⟩
      rw [vI_length] at hi
      have hj : (safeNs pl 0 pl.commitments.length)[i]? = some (safeNs pl 0 pl.commitments.length)[i] := by simp [hi]
      generalize (safeNs pl 0 pl.commitments.length)[i] = u at hj
      have hv : v = .int (u : Nat) := by
        unfold vI at hvi
        rw [List.getElem?_map, hj] at hvi
        exact (Option.some.inj hvi).symm
      subst hv
      refine ⟨rfl, _, rfl, _, rfl, b, _, rfl, .inl (SqL.of (e5 _ _ hb4)), rfl, flat_vI _, _, rfl, if2 (fun c => ?_) (fun c => ?_)⟩
      · have c : (!inV (.int u) (vI (safeNs (Km549.withoutDelivery pl j) 0 pl.commitments.length))) = true := c
        rw [inV_vI] at c
        refine ⟨_, rfl, lc_yes hD e5 hF (Nat.lt_of_le_of_lt (flt_len _ _ _ _) (by have := safeNs_length pl 0 pl.commitments.length; omega)) ?_⟩
        exact flt_yes hj c
      · have c : (!inV (.int u) (vI (safeNs (Km549.withoutDelivery pl j) 0 pl.commitments.length))) = false := c
        rw [inV_vI] at c
        exact lc_no e5 hF (flt_no hj c)
    · intro H5 e5 hF
      rw [vI_length, List.take_length] at hF
      refine ⟨D, depNs pl j, rfl, hF, ?_, fun H6 r e6 nr hr => ?_⟩
      · have h1 := List.length_filter_le (fun i => !decide (i ∈ safeNs (Km549.withoutDelivery pl j) 0 pl.commitments.length)) (safeNs pl 0 pl.commitments.length)
        have h2 := safeNs_length pl 0 pl.commitments.length
        have h3 : (depNs pl j).length ≤ (safeNs pl 0 pl.commitments.length).length := h1
        omega
      have s6 := (s3.trans e4).trans (e5.trans e6)
      rw [← dep_eq] at hr
      exact ansR kk (congrArg (Prod.mk (some pl)) (if_neg (show ¬ pl.deliveries.length ≤ j by omega))) s6 hv0 ((s3.trans e4).free (e5.free nr)) (by rw [hr, ← ints_map]; rfl)

def sp_best_cancellation (K : PySem.W.Frag) (C CD : Addr) : Sp := fun vs H Q _ => ∃ (p : Addr) (pl : Planner) (k : Nat), vs = [.ref p, .int k] ∧ PlanAt C H p pl ∧ Good pl ∧ OpPost C H p (Km549.step (some pl) (.bestCancellation k)) Q
theorem st_bc_yes {pl : Planner} {k s : Nat} (h : ¬ 6 < k) (e : Km549.bestCancellation pl k = some s) : Km549.step (some pl) (.bestCancellation k) = (some pl, Km549.listResult (Km549.members s)) := by
  refine congrArg (Prod.mk (some pl)) ((if_neg h).trans ?_)
  rw [e]
theorem own_best_cancellation (T : Txt K mg C CD) : Own P w K mg base "best_cancellation" ["plan", "k"] 8 (sp_best_cancellation K C CD) := by
  have G_counted := own_counted (P := P) (w := w) (base := base) T
  have G_best_members := own_best_members (P := P) (w := w) (base := base) T
  refine own_of T.h_best_cancellation sc_best_cancellation (fun _ _ _ _ _ _ us hl => match us, hl with | [_, _], _ => rfl) (fun vs H Q E h => ?_) (fun cdv A outer s H vs Q E hr h => ⟨_, (pss_cons (ps_if (pt_cmpR op_gt (pv 1) (pe_gint T.c_MOST_FAILURES) (nomark _)) (pss_one (ps_ret (pe_lst (pa_cons (pe_gint T.c_OUT_OF_RANGE) pa_nil)))) pss_nil) (pss_one (ps_ret (pe_own G_counted hr (pa_cons (pe_own G_best_members hr (pa_cons (pv 0) (pa_cons (pv 1) pa_nil))) pa_nil))))), ?_⟩)
  · obtain ⟨p, pl, k, rfl, hv, hg, kk⟩ := h
    rfl
  · obtain ⟨p, pl, k, rfl, hv, hg, kk⟩ := h
    have hz := hg.2.1
    have hz2 := hg.2.2
    refine ⟨_, rfl, _, _, rfl, rfl, _, rfl, if2 (fun c => ?_) (fun c => ?_)⟩
    · have c := of_decide_eq_true c
      exact ans1 kk (n := -22) (congrArg (Prod.mk (some pl)) (if_pos (show 6 < k by omega))) (Same.keep (Same.refl H)) hv
    have c := of_decide_eq_false c
    obtain ⟨s, es, hs, em⟩ := Ma.best_some pl k
    refine ⟨_, rfl, _, rfl, p, pl, k, rfl, hv.view, hg.1, hz, hz2, fun H1 a e1 na ha => ?_⟩
    rw [← em, ← Ma.members_eq hs hz2] at ha
    refine ⟨a, _, rfl, ha, ?_, fun H2 r e2 nr hr => ?_⟩
    · rw [Ma.members_eq hs hz2]
      have := Ma.memb_le s pl.commitments.length
      omega
    exact ansR kk (st_bc_yes (by omega) es) (e1.trans e2) hv (e1.free nr) (by rw [hr, ← ints_map])

end
end Cs

namespace Cs
open PySem PySem.Spec PyProof.Rows L2
open Km549 (Planner Delivery Commitment)
section
variable {P : Program} {w : World} {K : PySem.W.Frag} {mg : Str → Option Value} {base : Heap} {C CD : Addr}
def sp_covered_with_delivery (K : PySem.W.Frag) (C CD : Addr) : Sp := fun vs H Q _ => ∃ (p : Addr) (pl : Planner) (a d k : Nat), vs = [.ref p, .int a, .int d, .int k] ∧ PlanAt C H p pl ∧ Good pl ∧ OpPost C H p (Km549.step (some pl) (.isCoveredWithDelivery a d k)) Q
theorem own_covered_with_delivery (T : Txt K mg C CD) : Own P w K mg base "covered_with_delivery" ["plan", "amount", "latest", "k"] 6 (sp_covered_with_delivery K C CD) := by
  have G_is_amount := own_is_amount (P := P) (w := w) (base := base) T
  have G_is_day_ahead := own_is_day_ahead (P := P) (w := w) (base := base) T
  have G_is_covered := own_is_covered (P := P) (w := w) (base := base) T
  have G_plan_like := own_plan_like (P := P) (w := w) (base := base) T
  refine own_of T.h_covered_with_delivery sc_covered_with_delivery (fun _ _ _ _ _ _ us hl => match us, hl with | [_, _, _, _], _ => rfl) (fun vs H Q E h => ?_) (fun cdv A outer s H vs Q E hr h => ⟨_, (pss_cons (ps_if (PW.pt (pw_or (pt_not (pt_val (pe_own G_is_amount hr (pa_cons (pv 1) pa_nil)))) (pw_or (pt_not (pt_val (pe_own G_is_day_ahead hr (pa_cons (pv 0) (pa_cons (pv 2) pa_nil))))) (pw_or1 (pt_cmpR op_gt (pv 3) (pe_gint T.c_MOST_FAILURES) (nomark _)))))) (pss_one (ps_ret (pe_lst (pa_cons (pe_gint T.c_OUT_OF_RANGE) pa_nil)))) pss_nil) (pss_cons (ps_if (pt_cmpR op_ge (pe_callB call_len_seq (by rfl) T.len PySem.boot_len (pa_cons (pe_fld (pv 0) rfl) pa_nil)) (pe_gint T.c_MOST_DELIVERIES) (nomark _)) (pss_one (ps_ret (pe_lst (pa_cons (pe_gint T.c_FULL) pa_nil)))) pss_nil) (pss_cons (ps_set (i := 4) sc_covered_with_delivery.nd rfl (Or.inl rfl) (pe_op op_cat (pe_fld (pv 0) rfl) (pe_lst (pa_cons (pe_tup (pa_cons (pv 1) (pa_cons (pv 2) (pa_cons (pv 2) pa_nil)))) pa_nil)))) (pss_one (ps_ret (pe_lst (pa_cons (pe_callTy call_int1 (by rfl) T.int (by decide +kernel) (pa_cons (pe_own G_is_covered hr (pa_cons (pe_own G_plan_like hr (pa_cons (pv 0) (pa_cons (pv 4) (pa_cons (pe_fld (pv 0) rfl) pa_nil)))) (pa_cons (pv 3) pa_nil))) pa_nil)) pa_nil))))))), ?_⟩)
  · obtain ⟨p, pl, a, d, k, rfl, hv, hg, kk⟩ := h
    rfl
  · obtain ⟨p, pl, a, d, k, rfl, hv, hg, kk⟩ := h
    have hz := hg.2.1
    have hz2 := hg.2.2
    have no : (a = 0 ∨ 99 < a ∨ d < pl.today ∨ 30 < d ∨ 6 < k) → ([V.int (-22)] : List V).length ≤ sizeLine ∧ ∀ r, H r = none → Q (.ref r) (upd H r (.lst [.int (-22)])) := fun g =>
      ans1 kk (n := -22) (congrArg (Prod.mk (some pl)) (if_pos g)) (Same.keep (Same.refl H)) hv
    refine ⟨_, rfl, a, rfl, _, rfl, if2 (fun c1 => ?_) (fun c1 => ?_)⟩
    · exact iteT (no (by have := nd_t c1; omega))
    have c1 := nd_f c1
    refine ⟨_, rfl, _, rfl, p, pl, d, rfl, hv.view, _, rfl, if2 (fun c3 => ?_) (fun c3 => ?_)⟩
    · exact iteT (no (by have := nd_t c3; omega))
    have c3 := nd_f c3
    refine ⟨_, rfl, _, _, rfl, rfl, _, rfl, if2 (fun c => ?_) (fun c => ?_)⟩
    · have c := of_decide_eq_true c
      exact no (by omega)
    have c := of_decide_eq_false c
    have g : ¬ (a = 0 ∨ 99 < a ∨ d < pl.today ∨ 30 < d ∨ 6 < k) := by omega
    have hv0 := hv
    obtain ⟨dx, ad, ac, h1, h2, h3⟩ := hv
    obtain ⟨xs, h4, hp, hl⟩ := h2.cat
    rw [dR_length] at hl
    refine ⟨_, rfl, p, C, dx, _, _, rfl, h1, T.cl, T.nD, pF_deliveries, ad, _, rfl, .inl (SqL.of h4), _, _, rfl, rfl, _, rfl, if2 (fun c4 => ?_) (fun c4 => ?_)⟩
    · have c4 := of_decide_eq_true c4
      exact ans1 kk (n := -28) (congrArg (Prod.mk (some pl)) ((if_neg g).trans (if_pos (show 6 ≤ pl.deliveries.length by omega)))) (Same.keep (Same.refl H)) hv0
    have c4 := of_decide_eq_false c4
    refine ⟨_, rfl, p, C, dx, _, _, rfl, h1, T.cl, T.nD, pF_deliveries, _, rfl, _, rfl, _, rfl, cat_row (r := [(a : Int), (d : Int), (d : Int)]) h4 hp (by rw [dR_length]; omega) (by show 3 ≤ 60; decide) fun H3 q s nq hr => ?_⟩
    have hr1 : Rows H3 q (dR (pl.deliveries ++ [⟨a, d, d⟩])) := by
      rw [dR_snoc]
      exact hr
    refine ⟨_, rfl, _, rfl, _, rfl, p, C, dx, _, _, rfl, s _ _ h1, T.cl, T.nC, pF_commitments, p, pl, q, _, ac, pl.commitments, rfl, (hv0.same s).view, hr1, h3.same s, fun H4 p2 e4 hv2 => ?_⟩
    refine ⟨_, rfl, p2, _, k, rfl, hv2, hg.1, by show (pl.deliveries ++ [(⟨a, d, d⟩ : Delivery)]).length ≤ 60; rw [List.length_append]; show pl.deliveries.length + 1 ≤ 60; omega, by show pl.commitments.length ≤ 60; omega, fun H5 e5 => .inr ⟨_, rfl, ?_⟩⟩
    have s5 := (s.trans e4).trans e5
    exact ans1 kk (n := if Km549.isCovered (Km549.withDelivery pl a d d) k then 1 else 0) (congrArg (Prod.mk (some pl)) ((if_neg g).trans (if_neg (show ¬ 6 ≤ pl.deliveries.length by omega)))) (Same.keep s5) (hv0.same s5)

def sp_tolerance_with_commitment (K : PySem.W.Frag) (C CD : Addr) : Sp := fun vs H Q _ => ∃ (p : Addr) (pl : Planner) (a d : Nat), vs = [.ref p, .int a, .int d] ∧ PlanAt C H p pl ∧ Good pl ∧ OpPost C H p (Km549.step (some pl) (.toleranceWithCommitment a d)) Q
theorem own_tolerance_with_commitment (T : Txt K mg C CD) : Own P w K mg base "tolerance_with_commitment" ["plan", "amount", "due"] 7 (sp_tolerance_with_commitment K C CD) := by
  have G_commitment_refusal := own_commitment_refusal (P := P) (w := w) (base := base) T
  have G_value_or_refusal := own_value_or_refusal (P := P) (w := w) (base := base) T
  have G_tolerance_of := own_tolerance_of (P := P) (w := w) (base := base) T
  have G_plan_like := own_plan_like (P := P) (w := w) (base := base) T
  refine own_of T.h_tolerance_with_commitment sc_tolerance_with_commitment (fun _ _ _ _ _ _ us hl => match us, hl with | [_, _, _], _ => rfl) (fun vs H Q E h => ?_) (fun cdv A outer s H vs Q E hr h => ⟨_, (pss_cons (ps_set (i := 3) sc_tolerance_with_commitment.nd rfl (Or.inl rfl) (pe_own G_commitment_refusal hr (pa_cons (pv 0) (pa_cons (pv 1) (pa_cons (pv 2) pa_nil))))) (pss_cons (ps_if (pt_cmpR op_lt (pv 3) pe_int (nomark _)) (pss_one (ps_ret (pe_lst (pa_cons (pv 3) pa_nil)))) pss_nil) (pss_cons (ps_set (i := 4) sc_tolerance_with_commitment.nd rfl (Or.inl rfl) (pe_op op_cat (pe_fld (pv 0) rfl) (pe_lst (pa_cons (pe_tup (pa_cons (pv 1) (pa_cons (pv 2) pa_nil))) pa_nil)))) (pss_one (ps_ret (pe_own G_value_or_refusal hr (pa_cons (pe_own G_tolerance_of hr (pa_cons (pe_own G_plan_like hr (pa_cons (pv 0) (pa_cons (pe_fld (pv 0) rfl) (pa_cons (pv 4) pa_nil)))) pa_nil)) pa_nil))))))), ?_⟩)
  · obtain ⟨p, pl, a, d, rfl, hv, hg, kk⟩ := h
    rfl
  · obtain ⟨p, pl, a, d, rfl, hv, hg, kk⟩ := h
    have hz := hg.2.2
    have hy := hg.2.1
    refine ⟨_, rfl, _, rfl, _, rfl, p, pl, a, d, rfl, hv.view, by omega, ?_⟩
    by_cases g : a = 0 ∨ 99 < a ∨ d < pl.today ∨ 30 < d
    · have e : refC pl a d = -22 := if_pos g
      rw [e]
      exact ⟨_, rfl, _, _, rfl, rfl, _, rfl, iteT ⟨_, rfl, ans1 kk (n := -22) (congrArg (Prod.mk (some pl)) (if_pos g)) (Same.keep (Same.refl H)) hv⟩⟩
    by_cases g2 : 7 ≤ pl.commitments.length
    · have e : refC pl a d = -28 := (if_neg g).trans (if_pos g2)
      rw [e]
      exact ⟨_, rfl, _, _, rfl, rfl, _, rfl, iteT ⟨_, rfl, ans1 kk (n := -28) (congrArg (Prod.mk (some pl)) ((if_neg g).trans (if_pos g2))) (Same.keep (Same.refl H)) hv⟩⟩
    have e : refC pl a d = 0 := (if_neg g).trans (if_neg g2)
    rw [e]
    have hv0 := hv
    obtain ⟨dx, ad, ac, h1, h2, ⟨xs, h3, hp⟩⟩ := hv
    refine ⟨_, rfl, _, _, rfl, rfl, _, rfl, iteF ?_⟩
    refine ⟨_, rfl, p, C, dx, _, _, rfl, h1, T.cl, T.nC, pF_commitments, _, rfl, _, rfl, cat_row (r := [(a : Int), (d : Int)]) h3 hp (by rw [cR_length]; omega) (by show 2 ≤ 60; decide) fun H3 q s nq hr => ?_⟩
    have hr1 : Rows H3 q (cR (pl.commitments ++ [⟨a, d⟩])) := by
      rw [cR_snoc]
      exact hr
    refine ⟨_, rfl, _, rfl, p, C, dx, _, _, rfl, s _ _ h1, T.cl, T.nD, pF_deliveries, _, rfl, p, pl, ad, pl.deliveries, q, pl.commitments ++ [⟨a, d⟩], rfl, (hv0.same s).view, h2.same s, hr1, fun H4 p2 e4 hv2 => ?_⟩
    refine ⟨p2, _, rfl, hv2, hg.1, by show pl.deliveries.length ≤ 60; omega, by show (pl.commitments ++ [(⟨a, d⟩ : Commitment)]).length ≤ 60; rw [List.length_append]; show pl.commitments.length + 1 ≤ 60; omega, fun H5 e5 => ?_⟩
    have s5 := (s.trans e4).trans e5
    refine ⟨_, rfl, fun H6 r e6 nr hr => ?_⟩
    exact ansR kk (congrArg (Prod.mk (some pl)) ((if_neg g).trans (if_neg g2))) (s5.trans e6) hv0 (s5.free nr) (by rw [hr, ← opt_res]; rfl)

def sp_first_shortage (K : PySem.W.Frag) (C CD : Addr) : Sp := fun vs H Q _ => ∃ (p : Addr) (pl : Planner) (k : Nat), vs = [.ref p, .int k] ∧ PlanAt C H p pl ∧ Good pl ∧ OpPost C H p (Km549.step (some pl) (.firstShortage k)) Q
theorem st_fs_none {pl : Planner} {k : Nat} (h : ¬ 6 < k) (e : Ma.shortDay pl k = none) : Km549.step (some pl) (.firstShortage k) = (some pl, ⟨-33, []⟩) := by
  refine congrArg (Prod.mk (some pl)) ((if_neg h).trans ?_)
  rw [Ma.firstShortage_eq, e]
  rfl
theorem st_fs_some {pl : Planner} {k d : Nat} (h : ¬ 6 < k) (e : Ma.shortDay pl k = some d) : Km549.step (some pl) (.firstShortage k) = (some pl, ⟨(d : Int), [-Km549.surplus pl k d]⟩) := by
  refine congrArg (Prod.mk (some pl)) ((if_neg h).trans ?_)
  rw [Ma.firstShortage_eq, e]
  rfl
theorem own_first_shortage (T : Txt K mg C CD) : Own P w K mg base "first_shortage" ["plan", "k"] 5 (sp_first_shortage K C CD) := by
  have G_first_short_day := own_first_short_day (P := P) (w := w) (base := base) T
  have G_surplus_on := own_surplus_on (P := P) (w := w) (base := base) T
  refine own_of T.h_first_shortage sc_first_shortage (fun _ _ _ _ _ _ us hl => match us, hl with | [_, _], _ => rfl) (fun vs H Q E h => ?_) (fun cdv A outer s H vs Q E hr h => ⟨_, (pss_cons (ps_if (pt_cmpR op_gt (pv 1) (pe_gint T.c_MOST_FAILURES) (nomark _)) (pss_one (ps_ret (pe_lst (pa_cons (pe_gint T.c_OUT_OF_RANGE) pa_nil)))) pss_nil) (pss_cons (ps_set (i := 2) sc_first_shortage.nd rfl (Or.inl rfl) (pe_own G_first_short_day hr (pa_cons (pv 0) (pa_cons (pv 1) pa_nil)))) (pss_cons (ps_if (pt_cmp (pc_isN (pv 2))) (pss_one (ps_ret (pe_lst (pa_cons (pe_gint T.c_NO_VALUE) pa_nil)))) pss_nil) (pss_one (ps_ret (pe_lst (pa_cons (pv 2) (pa_cons (pe_op op_sub pe_int (pe_own G_surplus_on hr (pa_cons (pv 0) (pa_cons (pv 1) (pa_cons (pv 2) pa_nil))))) pa_nil)))))))), ?_⟩)
  · obtain ⟨p, pl, k, rfl, hv, hg, kk⟩ := h
    rfl
  · obtain ⟨p, pl, k, rfl, hv, hg, kk⟩ := h
    have hz := hg.2.1
    have hz2 := hg.2.2
    refine ⟨_, rfl, _, _, rfl, rfl, _, rfl, if2 (fun c => ?_) (fun c => ?_)⟩
    · have c := of_decide_eq_true c
      exact ans1 kk (n := -22) (congrArg (Prod.mk (some pl)) (if_pos (show 6 < k by omega))) (Same.keep (Same.refl H)) hv
    have c := of_decide_eq_false c
    refine ⟨_, rfl, _, rfl, p, pl, k, rfl, hv.view, hg.1, by omega, by omega, fun H1 e1 => ?_⟩
    cases e : Ma.shortDay pl k with
    | none =>
      exact ⟨_, rfl, _, rfl, iteT (ans1 kk (n := -33) (st_fs_none (by omega) e) (Same.keep e1) (hv.same e1))⟩
    | some d =>
      refine ⟨_, rfl, _, rfl, iteF ?_⟩
      refine ⟨_, rfl, _, rfl, _, rfl, _, rfl, p, pl, k, d, rfl, (hv.same e1).view, by omega, by omega, fun H2 e2 => ?_⟩
      refine ⟨_, _, rfl, rfl, small_line (by show 2 ≤ 10000000; decide), ?_⟩
      refine ansN kk (st_fs_some (by omega) e) (e1.trans e2) hv ?_
      show ([V.int d, V.int (0 - Km549.surplus pl k d)] : List V) = [V.int d, V.int (-Km549.surplus pl k d)]
      rw [Int.zero_sub]

def sp_summary (K : PySem.W.Frag) (C CD : Addr) : Sp := fun vs H Q _ => ∃ (p : Addr) (pl : Planner), vs = [.ref p] ∧ PlanAt C H p pl ∧ Good pl ∧ OpPost C H p (Km549.step (some pl) .summary) Q
theorem own_summary (T : Txt K mg C CD) : Own P w K mg base "summary" ["plan"] 1 (sp_summary K C CD) := by
  refine own_of T.h_summary sc_summary (fun _ _ _ _ _ _ us hl => match us, hl with | [_], _ => rfl) (fun vs H Q E h => ?_) (fun cdv A outer s H vs Q E hr h => ⟨_, (pss_cons (ps_set (i := 1) sc_summary.nd rfl (Or.inl rfl) (pe_lst (pa_cons (pe_callB call_len_seq (by rfl) T.len PySem.boot_len (pa_cons (pe_fld (pv 0) rfl) pa_nil)) (pa_cons (pe_callB call_len_seq (by rfl) T.len PySem.boot_len (pa_cons (pe_fld (pv 0) rfl) pa_nil)) pa_nil)))) (pss_one (ps_ret (pe_op op_cat (pe_op op_cat (pe_lst (pa_cons (pe_fld (pv 0) rfl) (pa_cons (pe_fld (pv 0) rfl) pa_nil))) (pv 1)) (pe_lst (pa_cons (pe_fld (pv 0) rfl) (pa_cons (pe_fld (pv 0) rfl) (pa_cons (pe_fld (pv 0) rfl) pa_nil)))))))), ?_⟩)
  · obtain ⟨p, pl, rfl, hv, hg, kk⟩ := h
    rfl
  · obtain ⟨p, pl, rfl, hv, hg, kk⟩ := h
    have hv0 := hv
    obtain ⟨dx, ad, ac, h1, h2, h3⟩ := hv
    obtain ⟨xs, h4, hp, hl⟩ := h2.cat
    obtain ⟨ys, h5, hp5, hl5⟩ := h3.cat
    rw [dR_length] at hl
    rw [cR_length] at hl5
    refine ⟨_, rfl, p, C, dx, _, _, rfl, h1, T.cl, T.nD, pF_deliveries, ad, _, rfl, .inl (SqL.of h4), _, rfl, p, C, dx, _, _, rfl, h1, T.cl, T.nC, pF_commitments, ac, _, rfl, .inl (SqL.of h5), small_line (by show 2 ≤ 10000000; decide), fun q nq => ?_⟩
    have s1 := same_upd (o := .lst [V.int (xs.map V.ref).length, V.int (ys.map V.ref).length]) nq
    refine ⟨_, rfl, p, C, dx, _, _, rfl, s1 _ _ h1, T.cl, T.nT, pF_today, _, rfl, p, C, dx, _, _, rfl, s1 _ _ h1, T.cl, T.nS, pF_stock, small_line (by show 2 ≤ 10000000; decide), fun q2 nq2 => ?_⟩
    have s2 := same_upd (o := .lst [V.int pl.today, V.int pl.stock]) nq2
    refine ⟨_, rfl, q2, q, _, _, rfl, rfl, upd_same, s2 _ _ upd_same, small_line (by show 4 ≤ 10000000; decide), fun q3 nq3 => ?_⟩
    have s3 := same_upd (o := .lst ([V.int pl.today, V.int pl.stock] ++ [V.int (xs.map V.ref).length, V.int (ys.map V.ref).length])) nq3
    have s := (s1.trans s2).trans s3
    refine ⟨_, rfl, p, C, dx, _, _, rfl, s _ _ h1, T.cl, T.nA, pF_arrived, _, rfl, p, C, dx, _, _, rfl, s _ _ h1, T.cl, T.nF, pF_failed, _, rfl, p, C, dx, _, _, rfl, s _ _ h1, T.cl, T.nU, pF_fulfilled, small_line (by show 3 ≤ 10000000; decide), fun q4 nq4 => ?_⟩
    have s4 := same_upd (o := .lst [V.int pl.arrivedCount, V.int pl.failedCount, V.int pl.fulfilledCount]) nq4
    refine ⟨q3, q4, _, _, rfl, rfl, s4 _ _ upd_same, upd_same, small_line (by show 7 ≤ 10000000; decide), ?_⟩
    refine ansN kk rfl (s.trans s4) hv0 ?_
    rw [hl, hl5]
    rfl

end
end Cs

namespace Cs
open PySem PySem.Spec PyProof.Rows L2
open Km549 (Planner Delivery Commitment)
/-- the number of a call -/
def encN : Km549.Call → Nat
  | .create _ => 0
  | .addDelivery _ _ _ => 1
  | .addCommitment _ _ => 2
  | .addCoveredCommitment _ _ _ => 3
  | .cancelCommitment _ => 4
  | .deliveryArrived _ => 5
  | .deliveryFailed _ => 6
  | .fulfillCommitment _ => 7
  | .nextDay => 8
  | .listDeliveries => 9
  | .listCommitments => 10
  | .isCovered _ => 11
  | .surplus _ _ => 12
  | .available _ _ => 13
  | .earliestDay _ _ => 14
  | .tolerance => 15
  | .safeCommitments _ => 16
  | .dependentCommitments _ => 17
  | .bestCancellation _ => 18
  | .cancelBest _ => 19
  | .isCoveredWithDelivery _ _ _ => 20
  | .toleranceWithCommitment _ _ => 21
  | .firstShortage _ => 22
  | .summary => 23
/-- the numbers behind it -/
def encL : Km549.Call → List Nat
  | .create a => [a]
  | .addDelivery a b c => [a, b, c]
  | .addCommitment a b => [a, b]
  | .addCoveredCommitment a b c => [a, b, c]
  | .cancelCommitment a => [a]
  | .deliveryArrived a => [a]
  | .deliveryFailed a => [a]
  | .fulfillCommitment a => [a]
  | .nextDay => []
  | .listDeliveries => []
  | .listCommitments => []
  | .isCovered a => [a]
  | .surplus a b => [a, b]
  | .available a b => [a, b]
  | .earliestDay a b => [a, b]
  | .tolerance => []
  | .safeCommitments a => [a]
  | .dependentCommitments a => [a]
  | .bestCancellation a => [a]
  | .cancelBest a => [a]
  | .isCoveredWithDelivery a b c => [a, b, c]
  | .toleranceWithCommitment a b => [a, b]
  | .firstShortage a => [a]
  | .summary => []
/-- the operations keep the bounds -/
theorem step_good {pl pl' : Planner} {c : Km549.Call} (h : Good pl) (e : (Km549.step (some pl) c).1 = some pl') : Good pl' := by
  obtain ⟨h1, h2, h3⟩ := h
  have same : pl = pl' → Good pl' := fun z => z ▸ ⟨h1, h2, h3⟩
  cases c with
  | create s =>
    rw [show Km549.step (some pl) (.create s) = if 999 < s then (some pl, Km549.error (-22)) else (some ⟨0, s, [], [], 0, 0, 0⟩, Km549.number 0) from rfl] at e
    split at e
    · exact same (Option.some.inj e)
    · have e := Option.some.inj e
      subst e
      exact ⟨Nat.zero_le _, Nat.zero_le _, Nat.zero_le _⟩
  | addDelivery a b d =>
    simp only [Km549.step] at e
    split at e
    · exact same (Option.some.inj e)
    · split at e
      · exact same (Option.some.inj e)
      · rename_i q
        have q : ¬ 6 ≤ pl.deliveries.length := q
        have e := Option.some.inj e
        subst e
        refine ⟨h1, ?_, h3⟩
        show (pl.deliveries ++ [(⟨a, b, d⟩ : Delivery)]).length ≤ 6
        rw [List.length_append]
        show pl.deliveries.length + 1 ≤ 6
        omega
  | addCommitment a d =>
    simp only [Km549.step] at e
    split at e
    · exact same (Option.some.inj e)
    · split at e
      · exact same (Option.some.inj e)
      · rename_i q
        have q : ¬ 7 ≤ pl.commitments.length := q
        have e := Option.some.inj e
        subst e
        refine ⟨h1, h2, ?_⟩
        show (pl.commitments ++ [(⟨a, d⟩ : Commitment)]).length ≤ 7
        rw [List.length_append]
        show pl.commitments.length + 1 ≤ 7
        omega
  | addCoveredCommitment k a d =>
    simp only [Km549.step] at e
    split at e
    · exact same (Option.some.inj e)
    · split at e
      · exact same (Option.some.inj e)
      · rename_i q
        have q : ¬ 7 ≤ pl.commitments.length := q
        split at e
        · exact same (Option.some.inj e)
        · have e := Option.some.inj e
          subst e
          refine ⟨h1, h2, ?_⟩
          show (pl.commitments ++ [(⟨a, d⟩ : Commitment)]).length ≤ 7
          rw [List.length_append]
          show pl.commitments.length + 1 ≤ 7
          omega
  | cancelCommitment j =>
    simp only [Km549.step] at e
    split at e
    · exact same (Option.some.inj e)
    · have e := Option.some.inj e
      subst e
      refine ⟨h1, h2, ?_⟩
      show (pl.commitments.eraseIdx j).length ≤ 7
      have := List.length_eraseIdx_le pl.commitments j
      omega
  | deliveryArrived j =>
    simp only [Km549.step] at e
    split at e
    · exact same (Option.some.inj e)
    · split at e
      · exact same (Option.some.inj e)
      · have e := Option.some.inj e
        subst e
        refine ⟨h1, ?_, h3⟩
        show (pl.deliveries.eraseIdx j).length ≤ 6
        have := List.length_eraseIdx_le pl.deliveries j
        omega
  | deliveryFailed j =>
    simp only [Km549.step] at e
    split at e
    · exact same (Option.some.inj e)
    · have e := Option.some.inj e
      subst e
      refine ⟨h1, ?_, h3⟩
      show (pl.deliveries.eraseIdx j).length ≤ 6
      have := List.length_eraseIdx_le pl.deliveries j
      omega
  | fulfillCommitment j =>
    simp only [Km549.step] at e
    split at e
    · exact same (Option.some.inj e)
    · split at e
      · exact same (Option.some.inj e)
      · have e := Option.some.inj e
        subst e
        refine ⟨h1, h2, ?_⟩
        show (pl.commitments.eraseIdx j).length ≤ 7
        have := List.length_eraseIdx_le pl.commitments j
        omega
  | nextDay =>
    simp only [Km549.step] at e
    split at e
    · exact same (Option.some.inj e)
    · split at e
      · exact same (Option.some.inj e)
      · split at e
        · exact same (Option.some.inj e)
        · rename_i q
          have q : ¬ 30 ≤ pl.today := q
          have e := Option.some.inj e
          subst e
          exact ⟨by show pl.today + 1 ≤ 30; omega, h2, h3⟩
  | cancelBest k =>
    by_cases q : 6 < k
    · rw [st_cb_no q] at e
      exact same (Option.some.inj e)
    · obtain ⟨s, es, _, _⟩ := Ma.best_some pl k
      rw [st_cb_yes q es] at e
      have e := Option.some.inj e
      subst e
      refine ⟨h1, h2, ?_⟩
      have := List.length_filterMap_le (fun j => if s.testBit j then none else pl.commitments[j]?) (List.range pl.commitments.length)
      rw [List.length_range] at this
      exact Nat.le_trans this h3
  | listDeliveries => exact same (Option.some.inj e)
  | listCommitments => exact same (Option.some.inj e)
  | isCovered k => exact same (Option.some.inj e)
  | surplus k d => exact same (Option.some.inj e)
  | available k d => exact same (Option.some.inj e)
  | earliestDay k a => exact same (Option.some.inj e)
  | tolerance => exact same (Option.some.inj e)
  | safeCommitments k => exact same (Option.some.inj e)
  | dependentCommitments j => exact same (Option.some.inj e)
  | bestCancellation k => exact same (Option.some.inj e)
  | isCoveredWithDelivery a d k => exact same (Option.some.inj e)
  | toleranceWithCommitment a d => exact same (Option.some.inj e)
  | firstShortage k => exact same (Option.some.inj e)
  | summary => exact same (Option.some.inj e)
theorem flat_d (ds : List Delivery) : (dR ds).flatten = ds.flatMap fun p => [(p.amount : Int), (p.earliest : Int), (p.latest : Int)] := (List.flatMap_def ..).symm
theorem flat_c (cs : List Commitment) : (cR cs).flatten = cs.flatMap fun c => [(c.amount : Int), (c.due : Int)] := (List.flatMap_def ..).symm
theorem d3 (ds : List Delivery) : ∀ r ∈ dR ds, r.length ≤ 3 := fun r hr => by
  obtain ⟨d, _, e⟩ := List.mem_map.mp hr
  subst e
  exact Nat.le_refl 3
theorem c3 (cs : List Commitment) : ∀ r ∈ cR cs, r.length ≤ 3 := fun r hr => by
  obtain ⟨d, _, e⟩ := List.mem_map.mp hr
  subst e
  show 2 ≤ 3
  decide
/-- lists, tuples and the like are as they were -/
def KeepL (H H' : Hp) : Prop := ∀ b o, H b = some o → (∀ C dx fs, o ≠ .ins C dx fs) → H' b = some o
theorem Keep.toL {p C dx : Addr} {fs : List (Str × V)} {H H' : Hp} (h : Keep p H H') (hp : H p = some (.ins C dx fs)) : KeepL H H' := fun b o e n => h b o e (by
  intro z
  rw [z, hp] at e
  exact n _ _ _ (Option.some.inj e).symm)
theorem Same.toL {H H' : Hp} (h : Same H H') : KeepL H H' := fun b o e _ => h b o e
theorem KeepL.trans {H H1 H2 : Hp} (a : KeepL H H1) (b : KeepL H1 H2) : KeepL H H2 := fun c o e n => b c o (a c o e n) n
theorem Rows.keepL {H H' : Hp} {a : Addr} {rows : List (List Int)} (h : Rows H a rows) (e : KeepL H H') : Rows H' a rows := by
  obtain ⟨xs, h1, h2⟩ := h
  exact ⟨xs, e _ _ h1 (by intro _ _ _ z; cases z), Paired.mapP h2 fun _ _ q => e _ _ q (by intro _ _ _ z; cases z)⟩
/-- the desk: an instance, or none yet -/
def DeskAt (C CD : Addr) (H : Hp) (d : Addr) : Km549.State → Prop
  | none => ∃ dx, H d = some (.ins CD dx [("plan", .non)])
  | some pl => ∃ dx p, H d = some (.ins CD dx [("plan", .ref p)]) ∧ p ≠ d ∧ PlanAt C H p pl ∧ Good pl
theorem DeskAt.same {C CD d : Addr} {H H' : Hp} {st : Km549.State} (h : DeskAt C CD H d st) (e : Same H H') : DeskAt C CD H' d st := by
  cases st with
  | none =>
    obtain ⟨dx, h1⟩ := h
    exact ⟨dx, e _ _ h1⟩
  | some pl =>
    obtain ⟨dx, p, h1, ne, h2, h3⟩ := h
    exact ⟨dx, p, e _ _ h1, ne, h2.same e, h3⟩
theorem DeskAt.ins {C CD d : Addr} {H : Hp} {st : Km549.State} (h : DeskAt C CD H d st) : ∃ dx v, H d = some (.ins CD dx [("plan", v)]) := by
  cases st with
  | none =>
    obtain ⟨dx, h1⟩ := h
    exact ⟨dx, _, h1⟩
  | some pl =>
    obtain ⟨dx, p, h1, _⟩ := h
    exact ⟨dx, _, h1⟩
/-- the lists of the desk's plan did not stand in H -/
def Away (H H' : Hp) (d : Addr) : Prop := ∀ (CD dx p C dxp : Addr) (t u : V) (ad ac : Addr) (x y z : V), H' d = some (.ins CD dx [("plan", .ref p)]) → H' p = some (.ins C dxp (pF t u (.ref ad) (.ref ac) x y z)) → H ad = none ∧ H ac = none
/-- what a call answers and leaves -/
def CallPost (C CD : Addr) (H : Hp) (d : Addr) (st : Km549.State) (o : Km549.State × Km549.Result) (Q : VK) : Prop :=
  ∀ (H' : Hp) (r : Addr), KeepL H H' → H r = none → DeskAt C CD H' d o.1 → (st = none → Away H H' d) → H' r = some (.lst ((o.2.num :: o.2.nums).map V.int)) → Q (.ref r) H'
/-- an operation on the desk's plan -/
theorem op_call {C CD : Addr} {H : Hp} {d dx p : Addr} {pl : Planner} {c : Km549.Call} {Q : VK} (kk : CallPost C CD H d (some pl) (Km549.step (some pl) c) Q) (h1 : H d = some (.ins CD dx [("plan", .ref p)])) (ne : p ≠ d) (h2 : PlanAt C H p pl) (hg : Good pl) : OpPost C H p (Km549.step (some pl) c) Q := fun H' r pl' e hk hr hp h' => by
  obtain ⟨dxp, ad, ac, q1, _⟩ := h2
  refine kk H' r (hk.toL q1) hr ?_ (fun z => nomatch z) h'
  rw [e]
  exact ⟨dx, p, hk _ _ h1 ne.symm, ne, hp, step_good hg e⟩
/-- where there is none yet, none is away -/
theorem away_none {H H' : Hp} {d CD dx : Addr} (h : H' d = some (.ins CD dx [("plan", .non)])) : Away H H' d := fun CD' dx' p C dxp t u ad ac x y z e _ => by
  rw [h] at e
  have e := (HO.ins.inj (Option.some.inj e)).2.2
  simp at e
end Cs

namespace Cs
open PySem PySem.Spec PyProof.Rows L2
open Km549 (Planner Delivery Commitment)
section
variable {P : Program} {w : World} {K : PySem.W.Frag} {mg : Str → Option Value} {base : Heap} {C CD : Addr}
def sp_change (K : PySem.W.Frag) (C CD : Addr) : Sp := fun vs H Q _ => ∃ (p : Addr) (pl : Planner) (g : Addr) (c : Km549.Call), vs = [.ref p, .int (encN c : Nat), .ref g] ∧ PlanAt C H p pl ∧ Good pl ∧ H g = some (.lst (vI (encL c))) ∧ 1 ≤ encN c ∧ encN c ≤ 8 ∧ encN c ≠ 19 ∧ OpPost C H p (Km549.step (some pl) c) Q
theorem own_change (T : Txt K mg C CD) : Own P w K mg base "change" ["plan", "number", "given"] 7 (sp_change K C CD) := by
  have G_next_day := own_next_day (P := P) (w := w) (base := base) T
  have G_add_delivery := own_add_delivery (P := P) (w := w) (base := base) T
  have G_add_commitment := own_add_commitment (P := P) (w := w) (base := base) T
  have G_add_covered_commitment := own_add_covered_commitment (P := P) (w := w) (base := base) T
  have G_cancel_commitment := own_cancel_commitment (P := P) (w := w) (base := base) T
  have G_delivery_arrived := own_delivery_arrived (P := P) (w := w) (base := base) T
  have G_delivery_failed := own_delivery_failed (P := P) (w := w) (base := base) T
  have G_fulfill_commitment := own_fulfill_commitment (P := P) (w := w) (base := base) T
  refine own_of T.h_change sc_change (fun _ _ _ _ _ _ us hl => match us, hl with | [_, _, _], _ => rfl) (fun vs H Q E h => ?_) (fun cdv A outer s H vs Q E hr h => ⟨_, (pss_cons (ps_if (pt_cmpR op_eq (pv 1) pe_int (nomark _)) (pss_one (ps_ret (pe_own G_add_delivery hr (pa_cons (pv 0) (pa_cons (pe_ix ix_list (pv 2) pe_int (fun _ _ => rfl)) (pa_cons (pe_ix ix_list (pv 2) pe_int (fun _ _ => rfl)) (pa_cons (pe_ix ix_list (pv 2) pe_int (fun _ _ => rfl)) pa_nil))))))) pss_nil) (pss_cons (ps_if (pt_cmpR op_eq (pv 1) pe_int (nomark _)) (pss_one (ps_ret (pe_own G_add_commitment hr (pa_cons (pv 0) (pa_cons (pe_ix ix_list (pv 2) pe_int (fun _ _ => rfl)) (pa_cons (pe_ix ix_list (pv 2) pe_int (fun _ _ => rfl)) pa_nil)))))) pss_nil) (pss_cons (ps_if (pt_cmpR op_eq (pv 1) pe_int (nomark _)) (pss_one (ps_ret (pe_own G_add_covered_commitment hr (pa_cons (pv 0) (pa_cons (pe_ix ix_list (pv 2) pe_int (fun _ _ => rfl)) (pa_cons (pe_ix ix_list (pv 2) pe_int (fun _ _ => rfl)) (pa_cons (pe_ix ix_list (pv 2) pe_int (fun _ _ => rfl)) pa_nil))))))) pss_nil) (pss_cons (ps_if (pt_cmpR op_eq (pv 1) pe_int (nomark _)) (pss_one (ps_ret (pe_own G_cancel_commitment hr (pa_cons (pv 0) (pa_cons (pe_ix ix_list (pv 2) pe_int (fun _ _ => rfl)) pa_nil))))) pss_nil) (pss_cons (ps_if (pt_cmpR op_eq (pv 1) pe_int (nomark _)) (pss_one (ps_ret (pe_own G_delivery_arrived hr (pa_cons (pv 0) (pa_cons (pe_ix ix_list (pv 2) pe_int (fun _ _ => rfl)) pa_nil))))) pss_nil) (pss_cons (ps_if (pt_cmpR op_eq (pv 1) pe_int (nomark _)) (pss_one (ps_ret (pe_own G_delivery_failed hr (pa_cons (pv 0) (pa_cons (pe_ix ix_list (pv 2) pe_int (fun _ _ => rfl)) pa_nil))))) pss_nil) (pss_cons (ps_if (pt_cmpR op_eq (pv 1) pe_int (nomark _)) (pss_one (ps_ret (pe_own G_fulfill_commitment hr (pa_cons (pv 0) (pa_cons (pe_ix ix_list (pv 2) pe_int (fun _ _ => rfl)) pa_nil))))) pss_nil) (pss_one (ps_ret (pe_own G_next_day hr (pa_cons (pv 0) pa_nil))))))))))), ?_⟩)
  · obtain ⟨p, pl, g, c, rfl, hv, hg, hl, hlo, hhi, h19, kk⟩ := h
    rfl
  · obtain ⟨p, pl, g, c, rfl, hv, hg, hl, hlo, hhi, h19, kk⟩ := h
    cases c with
    | create a => exact absurd hlo (by show ¬ 1 ≤ 0; decide)
    | addDelivery a b c =>
      exact ⟨_, rfl, rfl, true, rfl, iteT ⟨_, rfl, _, rfl, g, _, _, _, rfl, rfl, SqL.of hl, atI_nat (j := 0) rfl, _, rfl, g, _, _, _, rfl, rfl, SqL.of hl, atI_nat (j := 1) rfl, _, rfl, g, _, _, _, rfl, rfl, SqL.of hl, atI_nat (j := 2) rfl, p, pl, a, b, c, rfl, hv, hg, kk⟩⟩
    | addCommitment a b =>
      exact ⟨_, rfl, rfl, false, rfl, iteF ⟨_, rfl, rfl, true, rfl, iteT ⟨_, rfl, _, rfl, g, _, _, _, rfl, rfl, SqL.of hl, atI_nat (j := 0) rfl, _, rfl, g, _, _, _, rfl, rfl, SqL.of hl, atI_nat (j := 1) rfl, p, pl, a, b, rfl, hv, hg, kk⟩⟩⟩
    | addCoveredCommitment a b c =>
      exact ⟨_, rfl, rfl, false, rfl, iteF ⟨_, rfl, rfl, false, rfl, iteF ⟨_, rfl, rfl, true, rfl, iteT ⟨_, rfl, _, rfl, g, _, _, _, rfl, rfl, SqL.of hl, atI_nat (j := 0) rfl, _, rfl, g, _, _, _, rfl, rfl, SqL.of hl, atI_nat (j := 1) rfl, _, rfl, g, _, _, _, rfl, rfl, SqL.of hl, atI_nat (j := 2) rfl, p, pl, a, b, c, rfl, hv, hg, kk⟩⟩⟩⟩
    | cancelCommitment a =>
      exact ⟨_, rfl, rfl, false, rfl, iteF ⟨_, rfl, rfl, false, rfl, iteF ⟨_, rfl, rfl, false, rfl, iteF ⟨_, rfl, rfl, true, rfl, iteT ⟨_, rfl, _, rfl, g, _, _, _, rfl, rfl, SqL.of hl, atI_nat (j := 0) rfl, p, pl, a, rfl, hv, hg, kk⟩⟩⟩⟩⟩
    | deliveryArrived a =>
      exact ⟨_, rfl, rfl, false, rfl, iteF ⟨_, rfl, rfl, false, rfl, iteF ⟨_, rfl, rfl, false, rfl, iteF ⟨_, rfl, rfl, false, rfl, iteF ⟨_, rfl, rfl, true, rfl, iteT ⟨_, rfl, _, rfl, g, _, _, _, rfl, rfl, SqL.of hl, atI_nat (j := 0) rfl, p, pl, a, rfl, hv, hg, kk⟩⟩⟩⟩⟩⟩
    | deliveryFailed a =>
      exact ⟨_, rfl, rfl, false, rfl, iteF ⟨_, rfl, rfl, false, rfl, iteF ⟨_, rfl, rfl, false, rfl, iteF ⟨_, rfl, rfl, false, rfl, iteF ⟨_, rfl, rfl, false, rfl, iteF ⟨_, rfl, rfl, true, rfl, iteT ⟨_, rfl, _, rfl, g, _, _, _, rfl, rfl, SqL.of hl, atI_nat (j := 0) rfl, p, pl, a, rfl, hv, hg, kk⟩⟩⟩⟩⟩⟩⟩
    | fulfillCommitment a =>
      exact ⟨_, rfl, rfl, false, rfl, iteF ⟨_, rfl, rfl, false, rfl, iteF ⟨_, rfl, rfl, false, rfl, iteF ⟨_, rfl, rfl, false, rfl, iteF ⟨_, rfl, rfl, false, rfl, iteF ⟨_, rfl, rfl, false, rfl, iteF ⟨_, rfl, rfl, true, rfl, iteT ⟨_, rfl, _, rfl, g, _, _, _, rfl, rfl, SqL.of hl, atI_nat (j := 0) rfl, p, pl, a, rfl, hv, hg, kk⟩⟩⟩⟩⟩⟩⟩⟩
    | nextDay =>
      exact ⟨_, rfl, rfl, false, rfl, iteF ⟨_, rfl, rfl, false, rfl, iteF ⟨_, rfl, rfl, false, rfl, iteF ⟨_, rfl, rfl, false, rfl, iteF ⟨_, rfl, rfl, false, rfl, iteF ⟨_, rfl, rfl, false, rfl, iteF ⟨_, rfl, rfl, false, rfl, iteF ⟨_, rfl, p, pl, rfl, hv, hg, kk⟩⟩⟩⟩⟩⟩⟩⟩
    | listDeliveries => exact absurd hhi (by show ¬ 9 ≤ 8; decide)
    | listCommitments => exact absurd hhi (by show ¬ 10 ≤ 8; decide)
    | isCovered a => exact absurd hhi (by show ¬ 11 ≤ 8; decide)
    | surplus a b => exact absurd hhi (by show ¬ 12 ≤ 8; decide)
    | available a b => exact absurd hhi (by show ¬ 13 ≤ 8; decide)
    | earliestDay a b => exact absurd hhi (by show ¬ 14 ≤ 8; decide)
    | tolerance => exact absurd hhi (by show ¬ 15 ≤ 8; decide)
    | safeCommitments a => exact absurd hhi (by show ¬ 16 ≤ 8; decide)
    | dependentCommitments a => exact absurd hhi (by show ¬ 17 ≤ 8; decide)
    | bestCancellation a => exact absurd hhi (by show ¬ 18 ≤ 8; decide)
    | cancelBest a => exact absurd hhi (by show ¬ 19 ≤ 8; decide)
    | isCoveredWithDelivery a b c => exact absurd hhi (by show ¬ 20 ≤ 8; decide)
    | toleranceWithCommitment a b => exact absurd hhi (by show ¬ 21 ≤ 8; decide)
    | firstShortage a => exact absurd hhi (by show ¬ 22 ≤ 8; decide)
    | summary => exact absurd hhi (by show ¬ 23 ≤ 8; decide)

def sp_ask (K : PySem.W.Frag) (C CD : Addr) : Sp := fun vs H Q _ => ∃ (p : Addr) (pl : Planner) (g : Addr) (c : Km549.Call), vs = [.ref p, .int (encN c : Nat), .ref g] ∧ PlanAt C H p pl ∧ Good pl ∧ H g = some (.lst (vI (encL c))) ∧ 9 ≤ encN c ∧ encN c ≤ 16 ∧ encN c ≠ 19 ∧ OpPost C H p (Km549.step (some pl) c) Q
theorem own_ask (T : Txt K mg C CD) : Own P w K mg base "ask" ["plan", "number", "given"] 8 (sp_ask K C CD) := by
  have G_safe_commitments := own_safe_commitments (P := P) (w := w) (base := base) T
  have G_list_rows := own_list_rows (P := P) (w := w) (base := base) T
  have G_covered := own_covered (P := P) (w := w) (base := base) T
  have G_surplus := own_surplus (P := P) (w := w) (base := base) T
  have G_available := own_available (P := P) (w := w) (base := base) T
  have G_earliest_day := own_earliest_day (P := P) (w := w) (base := base) T
  have G_tolerance := own_tolerance (P := P) (w := w) (base := base) T
  refine own_of T.h_ask sc_ask (fun _ _ _ _ _ _ us hl => match us, hl with | [_, _, _], _ => rfl) (fun vs H Q E h => ?_) (fun cdv A outer s H vs Q E hr h => ⟨_, (pss_cons (ps_if (pt_cmpR op_eq (pv 1) pe_int (nomark _)) (pss_one (ps_ret (pe_own G_list_rows hr (pa_cons (pe_fld (pv 0) rfl) pa_nil)))) pss_nil) (pss_cons (ps_if (pt_cmpR op_eq (pv 1) pe_int (nomark _)) (pss_one (ps_ret (pe_own G_list_rows hr (pa_cons (pe_fld (pv 0) rfl) pa_nil)))) pss_nil) (pss_cons (ps_if (pt_cmpR op_eq (pv 1) pe_int (nomark _)) (pss_one (ps_ret (pe_own G_covered hr (pa_cons (pv 0) (pa_cons (pe_ix ix_list (pv 2) pe_int (fun _ _ => rfl)) pa_nil))))) pss_nil) (pss_cons (ps_if (pt_cmpR op_eq (pv 1) pe_int (nomark _)) (pss_one (ps_ret (pe_own G_surplus hr (pa_cons (pv 0) (pa_cons (pe_ix ix_list (pv 2) pe_int (fun _ _ => rfl)) (pa_cons (pe_ix ix_list (pv 2) pe_int (fun _ _ => rfl)) pa_nil)))))) pss_nil) (pss_cons (ps_if (pt_cmpR op_eq (pv 1) pe_int (nomark _)) (pss_one (ps_ret (pe_own G_available hr (pa_cons (pv 0) (pa_cons (pe_ix ix_list (pv 2) pe_int (fun _ _ => rfl)) (pa_cons (pe_ix ix_list (pv 2) pe_int (fun _ _ => rfl)) pa_nil)))))) pss_nil) (pss_cons (ps_if (pt_cmpR op_eq (pv 1) pe_int (nomark _)) (pss_one (ps_ret (pe_own G_earliest_day hr (pa_cons (pv 0) (pa_cons (pe_ix ix_list (pv 2) pe_int (fun _ _ => rfl)) (pa_cons (pe_ix ix_list (pv 2) pe_int (fun _ _ => rfl)) pa_nil)))))) pss_nil) (pss_cons (ps_if (pt_cmpR op_eq (pv 1) pe_int (nomark _)) (pss_one (ps_ret (pe_own G_tolerance hr (pa_cons (pv 0) pa_nil)))) pss_nil) (pss_one (ps_ret (pe_own G_safe_commitments hr (pa_cons (pv 0) (pa_cons (pe_ix ix_list (pv 2) pe_int (fun _ _ => rfl)) pa_nil)))))))))))), ?_⟩)
  · obtain ⟨p, pl, g, c, rfl, hv, hg, hl, hlo, hhi, h19, kk⟩ := h
    rfl
  · obtain ⟨p, pl, g, c, rfl, hv, hg, hl, hlo, hhi, h19, kk⟩ := h
    cases c with
    | create a => exact absurd hlo (by show ¬ 9 ≤ 0; decide)
    | addDelivery a b c => exact absurd hlo (by show ¬ 9 ≤ 1; decide)
    | addCommitment a b => exact absurd hlo (by show ¬ 9 ≤ 2; decide)
    | addCoveredCommitment a b c => exact absurd hlo (by show ¬ 9 ≤ 3; decide)
    | cancelCommitment a => exact absurd hlo (by show ¬ 9 ≤ 4; decide)
    | deliveryArrived a => exact absurd hlo (by show ¬ 9 ≤ 5; decide)
    | deliveryFailed a => exact absurd hlo (by show ¬ 9 ≤ 6; decide)
    | fulfillCommitment a => exact absurd hlo (by show ¬ 9 ≤ 7; decide)
    | nextDay => exact absurd hlo (by show ¬ 9 ≤ 8; decide)
    | listDeliveries =>
      have hv0 := hv
      have hx := hg.2.1
      obtain ⟨dx, ad, ac, h1, h2, h3⟩ := hv
      exact ⟨_, rfl, rfl, true, rfl, iteT ⟨_, rfl, p, C, dx, _, _, rfl, h1, T.cl, T.nD, pF_deliveries, ad, dR pl.deliveries, rfl, h2, by rw [dR_length]; omega, d3 _, fun H1 r e nr hr => ansR (n := (pl.deliveries.length : Int)) kk rfl e hv0 nr (by rw [hr, dR_length, flat_d])⟩⟩
    | listCommitments =>
      have hv0 := hv
      have hx := hg.2.2
      obtain ⟨dx, ad, ac, h1, h2, h3⟩ := hv
      exact ⟨_, rfl, rfl, false, rfl, iteF ⟨_, rfl, rfl, true, rfl, iteT ⟨_, rfl, p, C, dx, _, _, rfl, h1, T.cl, T.nC, pF_commitments, ac, cR pl.commitments, rfl, h3, by rw [cR_length]; omega, c3 _, fun H1 r e nr hr => ansR (n := (pl.commitments.length : Int)) kk rfl e hv0 nr (by rw [hr, cR_length, flat_c])⟩⟩⟩
    | isCovered a =>
      exact ⟨_, rfl, rfl, false, rfl, iteF ⟨_, rfl, rfl, false, rfl, iteF ⟨_, rfl, rfl, true, rfl, iteT ⟨_, rfl, _, rfl, g, _, _, _, rfl, rfl, SqL.of hl, atI_nat (j := 0) rfl, p, pl, a, rfl, hv, hg, kk⟩⟩⟩⟩
    | surplus a b =>
      exact ⟨_, rfl, rfl, false, rfl, iteF ⟨_, rfl, rfl, false, rfl, iteF ⟨_, rfl, rfl, false, rfl, iteF ⟨_, rfl, rfl, true, rfl, iteT ⟨_, rfl, _, rfl, g, _, _, _, rfl, rfl, SqL.of hl, atI_nat (j := 0) rfl, _, rfl, g, _, _, _, rfl, rfl, SqL.of hl, atI_nat (j := 1) rfl, p, pl, a, b, rfl, hv, hg, kk⟩⟩⟩⟩⟩
    | available a b =>
      exact ⟨_, rfl, rfl, false, rfl, iteF ⟨_, rfl, rfl, false, rfl, iteF ⟨_, rfl, rfl, false, rfl, iteF ⟨_, rfl, rfl, false, rfl, iteF ⟨_, rfl, rfl, true, rfl, iteT ⟨_, rfl, _, rfl, g, _, _, _, rfl, rfl, SqL.of hl, atI_nat (j := 0) rfl, _, rfl, g, _, _, _, rfl, rfl, SqL.of hl, atI_nat (j := 1) rfl, p, pl, a, b, rfl, hv, hg, kk⟩⟩⟩⟩⟩⟩
    | earliestDay a b =>
      exact ⟨_, rfl, rfl, false, rfl, iteF ⟨_, rfl, rfl, false, rfl, iteF ⟨_, rfl, rfl, false, rfl, iteF ⟨_, rfl, rfl, false, rfl, iteF ⟨_, rfl, rfl, false, rfl, iteF ⟨_, rfl, rfl, true, rfl, iteT ⟨_, rfl, _, rfl, g, _, _, _, rfl, rfl, SqL.of hl, atI_nat (j := 0) rfl, _, rfl, g, _, _, _, rfl, rfl, SqL.of hl, atI_nat (j := 1) rfl, p, pl, a, b, rfl, hv, hg, kk⟩⟩⟩⟩⟩⟩⟩
    | tolerance =>
      exact ⟨_, rfl, rfl, false, rfl, iteF ⟨_, rfl, rfl, false, rfl, iteF ⟨_, rfl, rfl, false, rfl, iteF ⟨_, rfl, rfl, false, rfl, iteF ⟨_, rfl, rfl, false, rfl, iteF ⟨_, rfl, rfl, false, rfl, iteF ⟨_, rfl, rfl, true, rfl, iteT ⟨_, rfl, p, pl, rfl, hv, hg, kk⟩⟩⟩⟩⟩⟩⟩⟩
    | safeCommitments a =>
      exact ⟨_, rfl, rfl, false, rfl, iteF ⟨_, rfl, rfl, false, rfl, iteF ⟨_, rfl, rfl, false, rfl, iteF ⟨_, rfl, rfl, false, rfl, iteF ⟨_, rfl, rfl, false, rfl, iteF ⟨_, rfl, rfl, false, rfl, iteF ⟨_, rfl, rfl, false, rfl, iteF ⟨_, rfl, _, rfl, g, _, _, _, rfl, rfl, SqL.of hl, atI_nat (j := 0) rfl, p, pl, a, rfl, hv, hg, kk⟩⟩⟩⟩⟩⟩⟩⟩
    | dependentCommitments a => exact absurd hhi (by show ¬ 17 ≤ 16; decide)
    | bestCancellation a => exact absurd hhi (by show ¬ 18 ≤ 16; decide)
    | cancelBest a => exact absurd hhi (by show ¬ 19 ≤ 16; decide)
    | isCoveredWithDelivery a b c => exact absurd hhi (by show ¬ 20 ≤ 16; decide)
    | toleranceWithCommitment a b => exact absurd hhi (by show ¬ 21 ≤ 16; decide)
    | firstShortage a => exact absurd hhi (by show ¬ 22 ≤ 16; decide)
    | summary => exact absurd hhi (by show ¬ 23 ≤ 16; decide)

def sp_ask_further (K : PySem.W.Frag) (C CD : Addr) : Sp := fun vs H Q _ => ∃ (p : Addr) (pl : Planner) (g : Addr) (c : Km549.Call), vs = [.ref p, .int (encN c : Nat), .ref g] ∧ PlanAt C H p pl ∧ Good pl ∧ H g = some (.lst (vI (encL c))) ∧ 17 ≤ encN c ∧ encN c ≤ 23 ∧ encN c ≠ 19 ∧ OpPost C H p (Km549.step (some pl) c) Q
theorem own_ask_further (T : Txt K mg C CD) : Own P w K mg base "ask_further" ["plan", "number", "given"] 9 (sp_ask_further K C CD) := by
  have G_summary := own_summary (P := P) (w := w) (base := base) T
  have G_dependent_commitments := own_dependent_commitments (P := P) (w := w) (base := base) T
  have G_best_cancellation := own_best_cancellation (P := P) (w := w) (base := base) T
  have G_covered_with_delivery := own_covered_with_delivery (P := P) (w := w) (base := base) T
  have G_tolerance_with_commitment := own_tolerance_with_commitment (P := P) (w := w) (base := base) T
  have G_first_shortage := own_first_shortage (P := P) (w := w) (base := base) T
  refine own_of T.h_ask_further sc_ask_further (fun _ _ _ _ _ _ us hl => match us, hl with | [_, _, _], _ => rfl) (fun vs H Q E h => ?_) (fun cdv A outer s H vs Q E hr h => ⟨_, (pss_cons (ps_if (pt_cmpR op_eq (pv 1) pe_int (nomark _)) (pss_one (ps_ret (pe_own G_dependent_commitments hr (pa_cons (pv 0) (pa_cons (pe_ix ix_list (pv 2) pe_int (fun _ _ => rfl)) pa_nil))))) pss_nil) (pss_cons (ps_if (pt_cmpR op_eq (pv 1) pe_int (nomark _)) (pss_one (ps_ret (pe_own G_best_cancellation hr (pa_cons (pv 0) (pa_cons (pe_ix ix_list (pv 2) pe_int (fun _ _ => rfl)) pa_nil))))) pss_nil) (pss_cons (ps_if (pt_cmpR op_eq (pv 1) pe_int (nomark _)) (pss_one (ps_ret (pe_own G_covered_with_delivery hr (pa_cons (pv 0) (pa_cons (pe_ix ix_list (pv 2) pe_int (fun _ _ => rfl)) (pa_cons (pe_ix ix_list (pv 2) pe_int (fun _ _ => rfl)) (pa_cons (pe_ix ix_list (pv 2) pe_int (fun _ _ => rfl)) pa_nil))))))) pss_nil) (pss_cons (ps_if (pt_cmpR op_eq (pv 1) pe_int (nomark _)) (pss_one (ps_ret (pe_own G_tolerance_with_commitment hr (pa_cons (pv 0) (pa_cons (pe_ix ix_list (pv 2) pe_int (fun _ _ => rfl)) (pa_cons (pe_ix ix_list (pv 2) pe_int (fun _ _ => rfl)) pa_nil)))))) pss_nil) (pss_cons (ps_if (pt_cmpR op_eq (pv 1) pe_int (nomark _)) (pss_one (ps_ret (pe_own G_first_shortage hr (pa_cons (pv 0) (pa_cons (pe_ix ix_list (pv 2) pe_int (fun _ _ => rfl)) pa_nil))))) pss_nil) (pss_one (ps_ret (pe_own G_summary hr (pa_cons (pv 0) pa_nil))))))))), ?_⟩)
  · obtain ⟨p, pl, g, c, rfl, hv, hg, hl, hlo, hhi, h19, kk⟩ := h
    rfl
  · obtain ⟨p, pl, g, c, rfl, hv, hg, hl, hlo, hhi, h19, kk⟩ := h
    cases c with
    | create a => exact absurd hlo (by show ¬ 17 ≤ 0; decide)
    | addDelivery a b c => exact absurd hlo (by show ¬ 17 ≤ 1; decide)
    | addCommitment a b => exact absurd hlo (by show ¬ 17 ≤ 2; decide)
    | addCoveredCommitment a b c => exact absurd hlo (by show ¬ 17 ≤ 3; decide)
    | cancelCommitment a => exact absurd hlo (by show ¬ 17 ≤ 4; decide)
    | deliveryArrived a => exact absurd hlo (by show ¬ 17 ≤ 5; decide)
    | deliveryFailed a => exact absurd hlo (by show ¬ 17 ≤ 6; decide)
    | fulfillCommitment a => exact absurd hlo (by show ¬ 17 ≤ 7; decide)
    | nextDay => exact absurd hlo (by show ¬ 17 ≤ 8; decide)
    | listDeliveries => exact absurd hlo (by show ¬ 17 ≤ 9; decide)
    | listCommitments => exact absurd hlo (by show ¬ 17 ≤ 10; decide)
    | isCovered a => exact absurd hlo (by show ¬ 17 ≤ 11; decide)
    | surplus a b => exact absurd hlo (by show ¬ 17 ≤ 12; decide)
    | available a b => exact absurd hlo (by show ¬ 17 ≤ 13; decide)
    | earliestDay a b => exact absurd hlo (by show ¬ 17 ≤ 14; decide)
    | tolerance => exact absurd hlo (by show ¬ 17 ≤ 15; decide)
    | safeCommitments a => exact absurd hlo (by show ¬ 17 ≤ 16; decide)
    | dependentCommitments a =>
      exact ⟨_, rfl, rfl, true, rfl, iteT ⟨_, rfl, _, rfl, g, _, _, _, rfl, rfl, SqL.of hl, atI_nat (j := 0) rfl, p, pl, a, rfl, hv, hg, kk⟩⟩
    | bestCancellation a =>
      exact ⟨_, rfl, rfl, false, rfl, iteF ⟨_, rfl, rfl, true, rfl, iteT ⟨_, rfl, _, rfl, g, _, _, _, rfl, rfl, SqL.of hl, atI_nat (j := 0) rfl, p, pl, a, rfl, hv, hg, kk⟩⟩⟩
    | cancelBest a => exact absurd rfl h19
    | isCoveredWithDelivery a b c =>
      exact ⟨_, rfl, rfl, false, rfl, iteF ⟨_, rfl, rfl, false, rfl, iteF ⟨_, rfl, rfl, true, rfl, iteT ⟨_, rfl, _, rfl, g, _, _, _, rfl, rfl, SqL.of hl, atI_nat (j := 0) rfl, _, rfl, g, _, _, _, rfl, rfl, SqL.of hl, atI_nat (j := 1) rfl, _, rfl, g, _, _, _, rfl, rfl, SqL.of hl, atI_nat (j := 2) rfl, p, pl, a, b, c, rfl, hv, hg, kk⟩⟩⟩⟩
    | toleranceWithCommitment a b =>
      exact ⟨_, rfl, rfl, false, rfl, iteF ⟨_, rfl, rfl, false, rfl, iteF ⟨_, rfl, rfl, false, rfl, iteF ⟨_, rfl, rfl, true, rfl, iteT ⟨_, rfl, _, rfl, g, _, _, _, rfl, rfl, SqL.of hl, atI_nat (j := 0) rfl, _, rfl, g, _, _, _, rfl, rfl, SqL.of hl, atI_nat (j := 1) rfl, p, pl, a, b, rfl, hv, hg, kk⟩⟩⟩⟩⟩
    | firstShortage a =>
      exact ⟨_, rfl, rfl, false, rfl, iteF ⟨_, rfl, rfl, false, rfl, iteF ⟨_, rfl, rfl, false, rfl, iteF ⟨_, rfl, rfl, false, rfl, iteF ⟨_, rfl, rfl, true, rfl, iteT ⟨_, rfl, _, rfl, g, _, _, _, rfl, rfl, SqL.of hl, atI_nat (j := 0) rfl, p, pl, a, rfl, hv, hg, kk⟩⟩⟩⟩⟩⟩
    | summary =>
      exact ⟨_, rfl, rfl, false, rfl, iteF ⟨_, rfl, rfl, false, rfl, iteF ⟨_, rfl, rfl, false, rfl, iteF ⟨_, rfl, rfl, false, rfl, iteF ⟨_, rfl, rfl, false, rfl, iteF ⟨_, rfl, p, pl, rfl, hv, hg, kk⟩⟩⟩⟩⟩⟩

end
end Cs

namespace Cs
open PySem PySem.Spec PyProof.Rows L2
open Km549 (Planner Delivery Commitment)
section
variable {P : Program} {w : World} {K : PySem.W.Frag} {mg : Str → Option Value} {base : Heap} {C CD : Addr}
def sp_Desk_init (K : PySem.W.Frag) (C CD : Addr) : Sp := fun vs H Q _ => ∃ (d dx : Addr), vs = [.ref d] ∧ H d = some (.ins CD dx []) ∧
    ∀ (H' : Hp), DeskAt C CD H' d none → Keep d H H' → Q .non H'
theorem own_Desk_init (T : Txt K mg C CD) : OwnM P w K mg base (Mk K CD) ["self"] 1 (sp_Desk_init K C CD) := by
  refine own_ofM T.h_Desk_init sc_Desk_init (fun _ _ _ _ _ _ us hl => match us, hl with | [_], _ => rfl) (fun vs H Q E h => ?_) (fun cdv A outer s H vs Q E hr h => ⟨_, (pss_one (ps_fld (pv 0) pe_non rfl)), ?_⟩)
  · obtain ⟨d, dx, rfl, h0, kk⟩ := h
    rfl
  · obtain ⟨d, dx, rfl, h0, kk⟩ := h
    refine ⟨_, rfl, d, CD, dx, [], rfl, h0, T.clD, T.nP, (by show 0 < 1000; decide), ?_⟩
    exact kk _ ⟨dx, upd_same⟩ keep_upd

def sp_Desk_create (K : PySem.W.Frag) (C CD : Addr) : Sp := fun vs H Q _ => ∃ (d : Addr) (st : Km549.State) (s : Nat), vs = [.ref d, .int s] ∧ DeskAt C CD H d st ∧ CallPost C CD H d st (Km549.step st (.create s)) Q
theorem own_Desk_create (T : Txt K mg C CD) : OwnM P w K mg base (Meth K CD "create") ["self", "stock"] 3 (sp_Desk_create K C CD) := by
  obtain ⟨G_Plan_f, G_Plan_fd, G_Plan_m, G_Plan_b, G_Plan_F⟩ := (own_Plan_init (P := P) (w := w) (base := base) T).ex
  refine own_ofM T.h_Desk_create sc_Desk_create (fun _ _ _ _ _ _ us hl => match us, hl with | [_, _], _ => rfl) (fun vs H Q E h => ?_) (fun cdv A outer s H vs Q E hr h => ⟨_, (pss_cons (ps_if (pt_cmpR op_gt (pv 1) (pe_gint T.c_MOST_STOCK) (nomark _)) (pss_one (ps_ret (pe_lst (pa_cons (pe_gint T.c_OUT_OF_RANGE) pa_nil)))) pss_nil) (pss_cons (ps_fld (pv 0) (pe_make G_Plan_m G_Plan_F (hr.mono (by decide)) rfl T.gP G_Plan_b .nil pass0 (pa_cons (pv 1) pa_nil)) rfl) (pss_one (ps_ret (pe_lst (pa_cons pe_int pa_nil)))))), ?_⟩)
  · obtain ⟨d, st, s, rfl, hd, kk⟩ := h
    rfl
  · obtain ⟨d, st, s, rfl, hd, kk⟩ := h
    refine ⟨_, rfl, _, _, rfl, rfl, _, rfl, if2 (fun c => ?_) (fun c => ?_)⟩
    · have c := of_decide_eq_true c
      refine ⟨small_line (by show 1 ≤ 10000000; decide), fun r nr => ?_⟩
      rw [show Km549.step st (.create s) = (st, Km549.error (-22)) from if_pos (by omega)] at kk
      refine kk _ r (Same.toL (same_upd nr)) nr (hd.same (same_upd nr)) (fun z => ?_) upd_same
      subst z
      obtain ⟨dx, h1⟩ := hd
      exact away_none ((same_upd nr) _ _ h1)
    have c := of_decide_eq_false c
    obtain ⟨dx, v, h1⟩ := hd.ins
    refine ⟨_, rfl, ?_⟩
    intro x px nx npx ne
    refine ⟨x, px, s, rfl, upd_same, fun H1 hp e1 hfr => ⟨rfl, ?_⟩⟩
    have s1 : Same H H1 := Same.made nx npx e1
    have hxd : x ≠ d := by
      intro z
      rw [z, h1] at nx
      cases nx
    refine ⟨_, rfl, d, CD, dx, _, rfl, s1 _ _ h1, T.clD, T.nP, (by show 1 < 1000; decide), ?_⟩
    rw [show putF "plan" (V.ref x) [(("plan" : Str), v)] = [(("plan" : Str), V.ref x)] from put_here]
    refine ⟨small_line (by show 1 ≤ 10000000; decide), fun r nr => ?_⟩
    rw [show Km549.step st (.create s) = (some ⟨0, s, [], [], 0, 0, 0⟩, Km549.number 0) from if_neg (by omega)] at kk
    have hk : Keep d H (upd H1 d (.ins CD dx [("plan", .ref x)])) := Same.keep2 s1 keep_upd
    have hk2 := Keep.same hk (same_upd (o := .lst [V.int 0]) nr)
    obtain ⟨dxp, ad, ac, q1, q2, q3⟩ := hp
    have hkd : Keep d H1 (upd H1 d (.ins CD dx [("plan", .ref x)])) := keep_upd
    have hpl : PlanAt C (upd H1 d (.ins CD dx [("plan", .ref x)])) x ⟨0, s, [], [], 0, 0, 0⟩ := ⟨dxp, ad, ac, (upd_ne hxd).trans q1, q2.keep (s1 _ _ h1) hkd, q3.keep (s1 _ _ h1) hkd⟩
    refine kk _ r (hk2.toL h1) (keep_free hk upd_same nr) ?_ (fun _ => ?_) upd_same
    · exact ⟨dx, x, (same_upd nr) _ _ upd_same, hxd, hpl.same (same_upd nr), ⟨Nat.zero_le _, Nat.zero_le _, Nat.zero_le _⟩⟩
    intro CD' dx' p' C' dxp' t u ad' ac' x' y' z' e e2
    rw [(same_upd (o := .lst [V.int 0]) nr) _ _ upd_same] at e
    have e := (HO.ins.inj (Option.some.inj e)).2.2
    have ep : x = p' := by simpa using e
    subst ep
    rw [(same_upd (o := .lst [V.int 0]) nr) _ _ ((upd_ne hxd).trans q1), ← q1] at e2
    have hz := hfr C' dxp' t u ad' ac' x' y' z' e2
    have fr : ∀ b, (upd (upd H px (.own x)) x (.ins C px [])) b = none → H b = none := fun b h => by
      cases q : H b with
      | none => rfl
      | some o =>
        rw [upd_ne (ne_of_none q nx), upd_ne (ne_of_none q npx), q] at h
        cases h
    exact ⟨fr _ hz.1, fr _ hz.2⟩

def sp_Desk_answer (K : PySem.W.Frag) (C CD : Addr) : Sp := fun vs H Q _ => ∃ (d : Addr) (st : Km549.State) (g : Addr) (c : Km549.Call), vs = [.ref d, .int (encN c : Nat), .ref g] ∧ DeskAt C CD H d st ∧ H g = some (.lst (vI (encL c))) ∧ CallPost C CD H d st (Km549.step st c) Q
theorem enc_zero {c : Km549.Call} (h : encN c = 0) : ∃ s, c = .create s := by
  cases c <;> first | exact ⟨_, rfl⟩ | exact absurd h (by simp [encN])
theorem enc_cb {c : Km549.Call} (h : encN c = 19) : ∃ k, c = .cancelBest k := by
  cases c <;> first | exact ⟨_, rfl⟩ | exact absurd h (by simp [encN])
theorem step_none {c : Km549.Call} (h : encN c ≠ 0) : Km549.step none c = (none, Km549.error (-11)) := by
  cases c <;> first | rfl | exact absurd rfl h
theorem enc_le (c : Km549.Call) : encN c ≤ 23 := by
  cases c <;> simp [encN]
theorem lkP {v : V} : List.lookup ("plan" : Str) [(("plan" : Str), v)] = some v := lk_here
theorem lkC {v : V} : List.lookup ("create" : Str) [(("plan" : Str), v)] = none := (lk_past (by decide +kernel)).trans rfl
theorem own_Desk_answer (T : Txt K mg C CD) : OwnM P w K mg base (Meth K CD "answer") ["self", "number", "given"] 10 (sp_Desk_answer K C CD) := by
  have G_ask_further := own_ask_further (P := P) (w := w) (base := base) T
  have G_change := own_change (P := P) (w := w) (base := base) T
  have G_cancel_best := own_cancel_best (P := P) (w := w) (base := base) T
  have G_ask := own_ask (P := P) (w := w) (base := base) T
  obtain ⟨G_create_f, G_create_fd, G_create_m, G_create_b, G_create_F⟩ := (own_Desk_create (P := P) (w := w) (base := base) T).ex
  refine own_ofM T.h_Desk_answer sc_Desk_answer (fun _ _ _ _ _ _ us hl => match us, hl with | [_, _, _], _ => rfl) (fun vs H Q E h => ?_) (fun cdv A outer s H vs Q E hr h => ⟨_, (pss_cons (ps_if (pt_cmpR op_eq (pv 1) (pe_gint T.c_CREATE) (nomark _)) (pss_one (ps_ret (pe_meth (pv 0) T.clD G_create_m G_create_F (hr.mono (by decide)) G_create_b .nil pass0 (pa_cons (pe_ix ix_list (pv 2) pe_int (fun _ _ => rfl)) pa_nil)))) pss_nil) (pss_cons (ps_if (pt_cmp (pc_isN (pe_fld (pv 0) rfl))) (pss_one (ps_ret (pe_lst (pa_cons (pe_gint T.c_NO_INSTANCE) pa_nil)))) pss_nil) (pss_cons (ps_if (pt_cmpR op_le (pv 1) (pe_gint T.c_LAST_CHANGE) (nomark _)) (pss_one (ps_ret (pe_own G_change hr (pa_cons (pe_fld (pv 0) rfl) (pa_cons (pv 1) (pa_cons (pv 2) pa_nil)))))) pss_nil) (pss_cons (ps_if (pt_cmpR op_eq (pv 1) (pe_gint T.c_CANCEL_BEST) (nomark _)) (pss_one (ps_ret (pe_own G_cancel_best hr (pa_cons (pe_fld (pv 0) rfl) (pa_cons (pe_ix ix_list (pv 2) pe_int (fun _ _ => rfl)) pa_nil))))) pss_nil) (pss_cons (ps_if (pt_cmpR op_lt (pv 1) pe_int (nomark _)) (pss_one (ps_ret (pe_own G_ask hr (pa_cons (pe_fld (pv 0) rfl) (pa_cons (pv 1) (pa_cons (pv 2) pa_nil)))))) pss_nil) (pss_one (ps_ret (pe_own G_ask_further hr (pa_cons (pe_fld (pv 0) rfl) (pa_cons (pv 1) (pa_cons (pv 2) pa_nil))))))))))), ?_⟩)
  · obtain ⟨d, st, g, c, rfl, hd, hl, kk⟩ := h
    rfl
  · obtain ⟨d, st, g, c, rfl, hd, hl, kk⟩ := h
    obtain ⟨dx, v, h1⟩ := hd.ins
    refine ⟨_, rfl, rfl, _, rfl, if2 (fun c0 => ?_) (fun c0 => ?_)⟩
    · have c0 : encN c = 0 := by have := V.int.inj (of_decide_eq_true c0); omega
      obtain ⟨s, rfl⟩ := enc_zero c0
      exact ⟨_, rfl, d, dx, _, rfl, h1, lkC, _, rfl, g, _, _, _, rfl, rfl, SqL.of hl, atI_nat (j := 0) rfl, d, st, s, rfl, hd, kk⟩
    have c0 : encN c ≠ 0 := by
      intro z
      exact of_decide_eq_false c0 (by rw [z]; rfl)
    cases st with
    | none =>
      obtain ⟨dx, h1⟩ := hd
      refine ⟨_, rfl, d, CD, dx, _, _, rfl, h1, T.clD, T.nP, lkP, _, rfl, iteT ⟨small_line (by show 1 ≤ 10000000; decide), fun r nr => ?_⟩⟩
      rw [step_none c0] at kk
      exact kk _ r (Same.toL (same_upd nr)) nr ⟨dx, (same_upd nr) _ _ h1⟩ (fun _ => away_none ((same_upd nr) _ _ h1)) upd_same
    | some pl =>
      obtain ⟨dx, p, h1, ne, h2, hg⟩ := hd
      have ko := op_call kk h1 ne h2 hg
      refine ⟨_, rfl, d, CD, dx, _, _, rfl, h1, T.clD, T.nP, lkP, _, rfl, iteF ?_⟩
      refine ⟨_, rfl, _, _, rfl, rfl, _, rfl, if2 (fun c1 => ?_) (fun c1 => ?_)⟩
      · have c1 := of_decide_eq_true c1
        exact ⟨_, rfl, d, CD, dx, _, _, rfl, h1, T.clD, T.nP, lkP, _, rfl, _, rfl, p, pl, g, c, rfl, h2, hg, hl, by omega, by omega, by omega, ko⟩
      have c1 := of_decide_eq_false c1
      refine ⟨_, rfl, rfl, _, rfl, if2 (fun c2 => ?_) (fun c2 => ?_)⟩
      · have c2 : encN c = 19 := by have := V.int.inj (of_decide_eq_true c2); omega
        obtain ⟨k, rfl⟩ := enc_cb c2
        exact ⟨_, rfl, d, CD, dx, _, _, rfl, h1, T.clD, T.nP, lkP, _, rfl, g, _, _, _, rfl, rfl, SqL.of hl, atI_nat (j := 0) rfl, p, pl, k, rfl, h2, hg, ko⟩
      have c2 : encN c ≠ 19 := by
        intro z
        exact of_decide_eq_false c2 (by rw [z]; rfl)
      refine ⟨_, rfl, _, _, rfl, rfl, _, rfl, if2 (fun c3 => ?_) (fun c3 => ?_)⟩
      · have c3 := of_decide_eq_true c3
        exact ⟨_, rfl, d, CD, dx, _, _, rfl, h1, T.clD, T.nP, lkP, _, rfl, _, rfl, p, pl, g, c, rfl, h2, hg, hl, by omega, by omega, c2, ko⟩
      · have c3 := of_decide_eq_false c3
        exact ⟨_, rfl, d, CD, dx, _, _, rfl, h1, T.clD, T.nP, lkP, _, rfl, _, rfl, p, pl, g, c, rfl, h2, hg, hl, by omega, enc_le c, c2, ko⟩

end
end Cs

namespace Cs
open PySem PySem.Spec PyProof.Rows L2
open Km549 (Planner Delivery Commitment)
section
variable {P : Program} {w : World} {K : PySem.W.Frag} {mg : Str → Option Value} {base : Heap} {C CD : Addr}
def sp_answers (K : PySem.W.Frag) (C CD : Addr) : Sp := fun vs H Q _ => ∃ (a : Addr) (ns : List Int), vs = [.ref a] ∧ SqL K H a (ns.map V.int) ∧ PyKm549.answers_asked ns = true ∧
    ∀ (H' : Hp) (p : Addr), H' p = some (.lst ((PyKm549.answers ns).map V.int)) → Q (.ref p) H'
def gone (ns : List Int) : L2.St → Hp → Nat := fun (σ : List (Option V)) _ => match (σ[3]? : Option (Option V)) with
    | some (some (V.int z)) => ns.length - z.toNat
    | _ => 0
theorem encC_eq (c : Km549.Call) : Ma.encC c = (encN c : Int) :: Ma.nInts (encL c) := by
  cases c <;> rfl
theorem sizes_at (c : Km549.Call) : sizesV[encN c]? = some (.int ((encL c).length : Nat)) := by
  cases c <;> rfl
theorem ints_vI (l : List Nat) : (Ma.nInts l).map V.int = vI l := (vI_ints l).symm
theorem cut_call (pre tail : List Int) (n : Int) (l : List Nat) : cutV ((pre ++ (n :: (Ma.nInts l ++ tail))).map V.int) (some ((pre.length : Int) + 1)) (some ((pre.length : Int) + 1 + (l.length : Int))) = vI l := by
  unfold cutV
  rw [show (pre.length : Int) + 1 = ((pre.length + 1 : Nat) : Int) by omega, show ((pre.length + 1 : Nat) : Int) + (l.length : Int) = ((pre.length + 1 + l.length : Nat) : Int) by omega, HT.sIx_nat, HT.sIx_nat]
  have hl : ((pre ++ (n :: (Ma.nInts l ++ tail))).map V.int).length = pre.length + 1 + l.length + tail.length := by
    rw [List.length_map, List.length_append, List.length_cons, List.length_append, Ma.ints_length]
    omega
  rw [hl, Nat.min_eq_left (by omega), Nat.min_eq_left (by omega), show pre.length + 1 + l.length - (pre.length + 1) = l.length by omega, ← List.map_drop, ← List.map_take]
  have e : (pre ++ (n :: (Ma.nInts l ++ tail))).drop (pre.length + 1) = Ma.nInts l ++ tail := by
    rw [show pre ++ (n :: (Ma.nInts l ++ tail)) = (pre ++ [n]) ++ (Ma.nInts l ++ tail) by simp]
    exact List.drop_left' (by simp)
  rw [e, List.take_left' (Ma.ints_length l), ints_vI]
/-- the list of calls, apart from f -/
def ArgAt (K : PySem.W.Frag) (H : Hp) (a f : Addr) (xs : List V) : Prop :=
    (Rd H a (.lst xs) ∧ a ≠ f) ∨ ∃ (o : Obj) (its : Array Value) (n : Nat), K.lookup a = some o ∧ o.cls = .type "list" ∧ o.dict = none ∧ o.data = .seq its n ∧ its.size ≤ sizeLine ∧ Vals xs its.toList
theorem ArgAt.sq {K : PySem.W.Frag} {H : Hp} {a f : Addr} {xs : List V} (h : ArgAt K H a f xs) : SqL K H a xs := by
  rcases h with h | h
  · exact .inl h.1
  · exact .inr h
theorem ArgAt.keepL {K : PySem.W.Frag} {H H' : Hp} {a f : Addr} {xs : List V} (h : ArgAt K H a f xs) (e : KeepL H H') : ArgAt K H' a f xs := by
  rcases h with ⟨h | ⟨o, h⟩, n⟩ | h
  · exact .inl ⟨.inl (e _ _ h (by intro _ _ _ z; cases z)), n⟩
  · exact .inl ⟨.inr ⟨o, e _ _ h (by intro _ _ _ z; cases z)⟩, n⟩
  · exact .inr h
theorem ArgAt.upd {K : PySem.W.Frag} {H : Hp} {a f : Addr} {xs : List V} {o : HO} (h : ArgAt K H a f xs) : ArgAt K (upd H f o) a f xs := by
  rcases h with ⟨h | ⟨u, h⟩, n⟩ | h
  · exact .inl ⟨.inl ((upd_ne n).trans h), n⟩
  · exact .inl ⟨.inr ⟨u, (upd_ne n).trans h⟩, n⟩
  · exact .inr h
theorem ArgAt.of {K : PySem.W.Frag} {H : Hp} {a f : Addr} {xs : List V} (h : SqL K H a xs) (n : H f = none) : ArgAt K H a f xs := by
  rcases h with h | h
  · refine .inl ⟨h, ?_⟩
    intro z
    subst z
    rcases h with h | ⟨o, h⟩ <;> (rw [n] at h; cases h)
  · exact .inr h
theorem rows_off {H : Hp} {a f : Addr} {rows : List (List Int)} {F : List Int} (h : Rows H a rows) (hf : H f = some (.lst (F.map V.int))) (n : F ≠ []) : a ≠ f := by
  intro z
  subst z
  obtain ⟨xs, h1, _⟩ := h
  rw [h1] at hf
  have e := HO.lst.inj (Option.some.inj hf)
  cases F with
  | nil => exact n rfl
  | cons x r =>
    cases xs with
    | nil => cases e
    | cons y s => cases e
theorem Rows.updF {H : Hp} {a f : Addr} {rows : List (List Int)} {l l' : List V} (h : Rows H a rows) (hf : H f = some (.lst l)) (n : a ≠ f) : Rows (upd H f (.lst l')) a rows := by
  obtain ⟨xs, h1, h2⟩ := h
  exact ⟨xs, (upd_ne n).trans h1, Paired.mapP h2 fun x r q => (upd_ne (ne_of q hf (by intro z; cases z))).trans q⟩
theorem desk_upd {C CD : Addr} {H1 H2 : Hp} {d f : Addr} {st : Km549.State} {F : List Int} {l : List V} (hd : DeskAt C CD H2 d st) (hf : H2 f = some (.lst (F.map V.int))) (h : F ≠ [] ∨ (Away H1 H2 d ∧ H1 f ≠ none)) : DeskAt C CD (upd H2 f (.lst l)) d st := by
  cases st with
  | none =>
    obtain ⟨dx, h1⟩ := hd
    exact ⟨dx, (upd_ne (ne_of h1 hf (by intro z; cases z))).trans h1⟩
  | some pl =>
    obtain ⟨dx, p, h1, ne, ⟨dxp, ad, ac, q1, q2, q3⟩, hg⟩ := hd
    have n : ad ≠ f ∧ ac ≠ f := by
      rcases h with h | ⟨h, h'⟩
      · exact ⟨rows_off q2 hf h, rows_off q3 hf h⟩
      · obtain ⟨z1, z2⟩ := h _ _ _ _ _ _ _ _ _ _ _ _ h1 q1
        exact ⟨fun z => h' (z ▸ z1), fun z => h' (z ▸ z2)⟩
    exact ⟨dx, p, (upd_ne (ne_of h1 hf (by intro z; cases z))).trans h1, ne, ⟨dxp, ad, ac, (upd_ne (ne_of q1 hf (by intro z; cases z))).trans q1, q2.updF hf n.1, q3.updF hf n.2⟩, hg⟩
theorem lkA {v : V} : List.lookup ("answer" : Str) [(("plan" : Str), v)] = none := (lk_past (by decide +kernel)).trans rfl
theorem fn_answers {f : Addr} {fd : FuncData} (F : Fun K "answers" "answers" s_answers f fd) (T : Txt K mg C CD) : FnOk P w K mg base CX0 11 f fd ["calls"] (sp_answers K C CD) := by
  obtain ⟨G_Desk_f, G_Desk_fd, G_Desk_m, G_Desk_b, G_Desk_F⟩ := (own_Desk_init (P := P) (w := w) (base := base) T).ex
  obtain ⟨G_answer_f, G_answer_fd, G_answer_m, G_answer_b, G_answer_F⟩ := (own_Desk_answer (P := P) (w := w) (base := base) T).ex
  obtain ⟨aS, gS, hSz⟩ := T.gS
  refine F.ok sc_answers (fun vs H Q E h => ?_) (fun cdv A outer s H vs Q E hr h => ⟨_, (pss_cons (ps_set (i := 1) sc_answers.nd rfl (Or.inl rfl) (pe_make0 G_Desk_m G_Desk_F (hr.mono (by decide)) rfl T.gD G_Desk_b .nil pass0)) (pss_cons (ps_set (i := 2) sc_answers.nd rfl (Or.inl rfl) (pe_lst pa_nil)) (pss_cons (ps_set (i := 3) sc_answers.nd rfl (Or.inl rfl) pe_int) (pss_cons (ps_while PassesOwn.never (pt_cmpR op_lt (pv 3) (pe_callB call_len_seq (by rfl) T.len PySem.boot_len (pa_cons (pv 0) pa_nil)) (nomark _)) (pss_cons (ps_set (i := 4) sc_answers.nd rfl (Or.inl rfl) (pe_ix ix_list (pv 0) (pv 3) (fun _ _ => rfl))) (pss_cons (ps_set (i := 5) sc_answers.nd rfl (Or.inl rfl) (pe_op op_add (pe_op op_add (pv 3) pe_int) (pe_ix ix_tup (pe_glob (v := V.ref aS) rfl gS rfl) (pv 4) (fun _ _ => rfl)))) (pss_cons (ps_set (i := 6) sc_answers.nd rfl (Or.inl rfl) (pe_meth (pv 1) T.clD G_answer_m G_answer_F (hr.mono (by decide)) G_answer_b .nil pass0 (pa_cons (pv 4) (pa_cons (pe_slice sl_list (pv 0) (po_some (pe_op op_add (pv 3) pe_int)) (po_some (pv 5))) pa_nil)))) (pss_cons (ps_expr (pe_bm PySem.F.plainAttrs_list PySem.F.slot_list_append PySem.F.type_list_append mt_append (pv 2) (pa_cons (pe_callB call_len_seq (by rfl) T.len PySem.boot_len (pa_cons (pv 6) pa_nil)) pa_nil))) (pss_cons (ps_expr (pe_bm PySem.F.plainAttrs_list PySem.F.slot_list_extend PySem.F.type_list_extend mt_extend (pv 2) (pa_cons (pv 6) pa_nil))) (pss_one (ps_set (i := 3) sc_answers.nd rfl (Or.inl rfl) (pv 5))))))))) (pss_one (ps_ret (pv 2))))))), ?_⟩)
  · obtain ⟨a, ns, rfl, hA, hask, kk⟩ := h
    rfl
  · obtain ⟨a, ns, rfl, hA, hask, kk⟩ := h
    obtain ⟨cs, ens, eans, hlen⟩ := Ma.decode hask
    rw [eans] at hlen
    intro d dd nd ndd ne
    refine ⟨d, dd, rfl, upd_same, fun H1 hd e1 => ⟨rfl, ?_⟩⟩
    have s1 : Same H H1 := Same.made nd ndd e1
    refine ⟨Nat.zero_le _, fun f nf => ?_⟩
    have s2 := same_upd (o := .lst []) nf
    refine while_by (fun σ H' => ∃ (pre : List Int) (post : List Km549.Call) (st : Km549.State) (F : List Int) (v4 v5 v6 : Option V), σ = [some (.ref a), some (.ref d), some (.ref f), some (.int (pre.length : Nat)), v4, v5, v6] ∧ ns = pre ++ post.flatMap Ma.encC ∧ Ma.ansOf none cs = F ++ Ma.ansOf st post ∧ ArgAt K H' a f (ns.map V.int) ∧ DeskAt C CD H' d st ∧ H' f = some (.lst (F.map V.int)) ∧ (F = [] → st = none)) (gone ns) ⟨[], cs, none, [], none, none, none, rfl, ens, rfl, (ArgAt.of (s1.seq hA) nf).keepL (Same.toL s2), hd.same s2, upd_same, fun _ => rfl⟩ ?_ ?_
    · rintro σ H3 ⟨pre, post, st, F, v4, v5, v6, rfl, e1, e2, hA3, hd3, hf3, hst⟩
      refine ⟨_, rfl, _, rfl, a, _, rfl, .inl hA3.sq, _, _, rfl, rfl, _, rfl, if2 (fun c => ?_) (fun c => ?_)⟩
      · have c := of_decide_eq_true c
        rw [List.length_map] at c
        cases post with
        | nil =>
          rw [e1] at c
          simp at c
        | cons cl rest =>
          rw [List.flatMap_cons, encC_eq, List.cons_append] at e1
          have eN : (ns.map V.int)[pre.length]? = some (.int (encN cl : Nat)) := by
            rw [List.getElem?_map, e1, List.getElem?_append_right (Nat.le_refl _), Nat.sub_self]
            rfl
          obtain ⟨dx, v, hdi⟩ := hd3.ins
          refine ⟨_, rfl, _, rfl, a, _, _, _, rfl, rfl, hA3.sq, atI_nat eN, ?_⟩
          refine ⟨_, rfl, _, _, rfl, rfl, _, rfl, aS, _, _, _, rfl, rfl, hSz _, atI_nat (sizes_at cl), _, _, rfl, rfl, ?_⟩
          refine ⟨_, rfl, d, dx, _, rfl, hdi, lkA, _, rfl, _, rfl, _, rfl, _, _, rfl, rfl, _, rfl, _, rfl, _, rfl, a, _, rfl, hA3.sq, fun g ng => ?_⟩
          have s4 := same_upd (o := .lst (cutV (ns.map V.int) (some ((pre.length : Int) + 1)) (some ((pre.length : Int) + 1 + ((encL cl).length : Int))))) ng
          have hg : upd H3 g (.lst (cutV (ns.map V.int) (some ((pre.length : Int) + 1)) (some ((pre.length : Int) + 1 + ((encL cl).length : Int))))) g = some (.lst (vI (encL cl))) := by
            rw [upd_same, e1, cut_call]
          refine ⟨d, st, g, cl, rfl, hd3.same s4, hg, fun H5 r hk nr hd5 haw hr => ?_⟩
          have hf4 := s4 _ _ hf3
          have hf5 := hk _ _ hf4 (by intro _ _ _ z; cases z)
          have hrf : r ≠ f := by
            intro z
            rw [z, hf4] at nr
            cases nr
          have hl2 := hlen
          rw [e2, List.length_append, Ma.ansOf_len] at hl2
          refine ⟨_, rfl, .inl ⟨rfl, _, SqL.of hf5⟩, _, rfl, r, _, rfl, .inl (SqL.of hr), f, _, _, rfl, rfl, hf5, small_lt (by rw [List.length_map]; omega), ?_⟩
          refine ⟨_, rfl, .inl ⟨rfl, _, SqL.of upd_same⟩, _, rfl, f, r, _, _, rfl, rfl, upd_same, (upd_ne hrf).trans hr, small_line ?_, ?_⟩
          · rw [List.length_append, List.length_map, List.length_map]
            show F.length + 1 + ((Km549.step st cl).2.nums.length + 1) ≤ 10000000
            omega
          rw [upd_upd]
          refine ⟨_, rfl, ⟨pre ++ Ma.encC cl, rest, (Km549.step st cl).1, F ++ ((((Km549.step st cl).2.nums.length + 1 : Nat) : Int) :: (Km549.step st cl).2.num :: (Km549.step st cl).2.nums), some (.int (encN cl : Nat)), some (.int ((pre.length : Int) + 1 + ((encL cl).length : Int))), some (.ref r), ?_, ?_, ?_, ?_, ?_, ?_, ?_⟩, ?_⟩
          · have el : ((pre ++ Ma.encC cl).length : Int) = (pre.length : Int) + 1 + ((encL cl).length : Int) := by
              rw [List.length_append, encC_eq, List.length_cons, Ma.ints_length]
              omega
            rw [el]
            rfl
          · rw [e1, encC_eq]
            simp
          · rw [e2]
            show F ++ ((((Km549.step st cl).2.nums.length + 1 : Nat) : Int) :: (Km549.step st cl).2.num :: (Km549.step st cl).2.nums ++ Ma.ansOf (Km549.step st cl).1 rest) = _
            simp
          · exact (((hA3.keepL (Same.toL s4)).keepL hk)).upd
          · refine desk_upd (H1 := upd H3 g (.lst (cutV (ns.map V.int) (some ((pre.length : Int) + 1)) (some ((pre.length : Int) + 1 + ((encL cl).length : Int)))))) hd5 hf5 ?_
            by_cases q : F = []
            · exact .inr ⟨haw (hst q), fun z => by rw [hf4] at z; cases z⟩
            · exact .inl q
          · rw [upd_same]
            congr 2
            rw [List.map_append, List.append_assoc]
            congr 1
            show _ = V.int _ :: _
            rw [List.length_map]
            rfl
          · intro z
            simp at z
          · show ns.length - ((pre.length : Int) + 1 + ((encL cl).length : Int)).toNat < ns.length - ((pre.length : Nat) : Int).toNat
            omega
      · have c := of_decide_eq_false c
        rw [List.length_map] at c
        cases post with
        | nil =>
          refine ⟨_, rfl, kk H3 f ?_⟩
          rw [hf3, eans, e2]
          show _ = some (HO.lst ((F ++ []).map V.int))
          rw [List.append_nil]
        | cons cl rest =>
          exfalso
          rw [List.flatMap_cons, encC_eq, List.cons_append] at e1
          rw [e1] at c
          simp at c
          omega
    · rintro σ H3 Q1 Q2 hq ⟨v, h1, v2, h2, p2, ys, h3, h4, i, j, h5, h6, k, h7, h8⟩
      exact ⟨v, h1, v2, h2, p2, ys, h3, h4, i, j, h5, h6, k, h7, hq _ _ h8⟩

end
end Cs

namespace Cs
open PySem PySem.Spec PyProof.Rows L2
open PySem.W (Codec)
section
variable {K : PySem.W.Frag} {h : Heap} {mg : Str → Option Value}
theorem have_mk {x : Str} {st : Stmt} {f : Addr} {oc : Value} {od an : Option Addr} {osl : Array (Option Value)} {kV doc pm cdv ct : Value} (X : K.In h) (G : h.Ns mainGlobals mg) (a : PySem.W.nsIn K mainGlobals x = some (some (.ref f)))
    (l : K.lookup f = some ⟨oc, od, .func (PySem.W.fnOf x x (defArgs st) (defBody st) (defScope st) .none kV doc pm an cdv ct), osl⟩) (c : PySem.W.codeIn K cdv x = true) (k : PySem.W.keepIn K (.ref f) = true) : Have K mg x st :=
  ⟨f, _, PySem.W.mg_of X G a, fun_mk l c k⟩
theorem haveM_mk {C : Addr} {x qual : Str} {st : Stmt} {f : Addr} {oc : Value} {od an : Option Addr} {osl : Array (Option Value)} {kV doc pm cdv ct : Value} (a : PySem.W.findIn K (.ref C) x = some (some (.ref f))) (i : PySem.W.isFn K (.ref f) = true)
    (l : K.lookup f = some ⟨oc, od, .func (PySem.W.fnOf x qual (defArgs st) (defBody st) (defScope st) .none kV doc pm an cdv ct), osl⟩) (c : PySem.W.codeIn K cdv qual = true) (k : PySem.W.keepIn K (.ref f) = true) : HaveM K (Meth K C x) x qual st :=
  ⟨f, _, ⟨a, i, k⟩, fun_mk l c k⟩
theorem haveI_mk {C : Addr} {qual : Str} {st : Stmt} {f : Addr} {oc : Value} {od an : Option Addr} {osl : Array (Option Value)} {kV doc pm cdv ct : Value} (mk : PySem.W.makesIn K C = true) (kc : PySem.W.keepIn K (.ref C) = true) (a : PySem.W.findIn K (.ref C) "__init__" = some (some (.ref f))) (i : PySem.W.isFn K (.ref f) = true)
    (l : K.lookup f = some ⟨oc, od, .func (PySem.W.fnOf "__init__" qual (defArgs st) (defBody st) (defScope st) .none kV doc pm an cdv ct), osl⟩) (c : PySem.W.codeIn K cdv qual = true) (k : PySem.W.keepIn K (.ref f) = true) : HaveM K (Mk K C) "__init__" qual st :=
  ⟨f, _, ⟨mk, a, i, kc⟩, fun_mk l c k⟩
theorem const_mk {x : Str} {i : Int} {t : Tok} (X : K.In h) (G : h.Ns mainGlobals mg) (a : PySem.W.nsIn K mainGlobals x = some (some (.int i t))) : ∃ t, mg x = some (.int i t) := ⟨t, PySem.W.mg_of X G a⟩
theorem sizes_mk {p : Addr} {o : Obj} {its : Array Value} {n : Nat} (X : K.In h) (G : h.Ns mainGlobals mg) (a : PySem.W.nsIn K mainGlobals "SIZES" = some (some (.ref p))) (l : K.lookup p = some o) (hc : o.cls = .type "tuple") (hd : o.data = .seq its n) (hz : its.size ≤ sizeLine) (hv : Vals sizesV its.toList) :
    ∃ a, mg "SIZES" = some (.ref a) ∧ ∀ H : Hp, SqT K H a sizesV := ⟨p, PySem.W.mg_of X G a, fun _ => .inr ⟨o, its, n, l, hc, hd, hz, hv⟩⟩
theorem fin {P : Program} {w : World} {fa C CD : Addr} (hfa : mg "answers" = some (.ref fa)) (T : Txt K mg C CD) :
    ∃ fd : FuncData, (∀ (s : Shared) (us : List Value), us.length = (["calls"] : List Str).length → BindsTo s fd ⟨us, []⟩ ((["calls"] : List Str).zip us)) ∧ ∀ base : Heap, K.In base → base.Ns mainGlobals mg → FnOk P w K mg base CX0 11 fa fd ["calls"] (sp_answers K 0 0) := by
  obtain ⟨f, fd, hm, F⟩ := T.h_answers.ex
  have e := hfa.symm.trans hm
  cases e
  obtain ⟨oc, od, kV, doc, pm, an, cdv, ct, osl, rfl, lk, hcd⟩ := id F.ex
  exact ⟨_, fun s us hu => match us, hu with | [_], _ => .of_eq rfl, fun base _ _ => by
    have q := fn_answers (P := P) (w := w) (base := base) F T
    exact q⟩
end
end Cs

open PySem PySem.W PyProof.Rows
set_option maxRecDepth 100000 in
set_option maxHeartbeats 0 in
theorem PySem.Challenge.cw_coveredstock_s01_answers_holds : PySem.Challenge.rw_coveredstock_s01_answers.Holds := by
  w_on; k_headS; (case hw => exact ⟨[.list [.int 23]], by decide +kernel, by decide +kernel⟩)
  k_fillS
  refine L2.walk_specK (r := PySem.Challenge.rw_coveredstock_s01_answers) (k := 11) (CX := L2.CX0) (ps := ["calls"]) (sp := fun K => Cs.sp_answers K 0 0) (by decide +kernel) rfl rfl ⟨rfl, by decide, by decide⟩ (fun w h Y => PySem.W.kIn_of Y) ?F ?S (fun _ _ _ _ z => z)
  case F =>
    intro w mg fa h Y KX G hmg
    refine' Cs.fin hmg (Cs.Txt.mk ⟨?pgP, ?hdP, ?poP, ?saP⟩ ⟨?pgD, ?hdD, ?poD, ?saD⟩ (PySem.W.mg_of KX G ?aP) (PySem.W.mg_of KX G ?aD) ?gS ?nT ?nS ?nD ?nC ?nA ?nF ?nU ?nP (PySem.W.mg_none_of KX G ?z_abs) (PySem.W.mg_none_of KX G ?z_enumerate) (PySem.W.mg_none_of KX G ?z_int) (PySem.W.mg_none_of KX G ?z_len) (PySem.W.mg_none_of KX G ?z_list) (PySem.W.mg_none_of KX G ?z_max) (PySem.W.mg_none_of KX G ?z_min) (PySem.W.mg_none_of KX G ?z_range) (PySem.W.mg_none_of KX G ?z_sorted) (PySem.W.mg_none_of KX G ?z_sum) (Cs.const_mk KX G ?c_LAST_DAY) (Cs.const_mk KX G ?c_MOST_STOCK) (Cs.const_mk KX G ?c_MOST_AMOUNT) (Cs.const_mk KX G ?c_MOST_FAILURES) (Cs.const_mk KX G ?c_MOST_DELIVERIES) (Cs.const_mk KX G ?c_MOST_COMMITMENTS) (Cs.const_mk KX G ?c_NO_INSTANCE) (Cs.const_mk KX G ?c_NOT_THERE) (Cs.const_mk KX G ?c_OUT_OF_RANGE) (Cs.const_mk KX G ?c_FULL) (Cs.const_mk KX G ?c_NOT_COVERED) (Cs.const_mk KX G ?c_NO_VALUE) (Cs.const_mk KX G ?c_NOT_ENOUGH) (Cs.const_mk KX G ?c_LAST_DAY_REACHED) (Cs.const_mk KX G ?c_CREATE) (Cs.const_mk KX G ?c_LAST_CHANGE) (Cs.const_mk KX G ?c_CANCEL_BEST) ?h_amounts_by ?h_least_amounts ?h_supply_by ?h_due_by ?h_surplus_on ?h_first_short_day ?h_is_covered ?h_is_safe ?h_safe_numbers ?h_available_on ?h_first_day_with ?h_tolerance_of ?h_Plan_init ?h_plan_like ?h_without_row ?h_is_amount ?h_is_day_ahead ?h_members_of ?h_rows_without ?h_total_of ?h_is_better ?h_is_enough ?h_best_members ?h_add_delivery ?h_commitment_refusal ?h_add_commitment ?h_add_covered_commitment ?h_cancel_commitment ?h_delivery_arrived ?h_delivery_failed ?h_fulfill_commitment ?h_next_day ?h_cancel_best ?h_counted ?h_value_or_refusal ?h_list_rows ?h_covered ?h_surplus ?h_available ?h_earliest_day ?h_tolerance ?h_safe_commitments ?h_dependent_commitments ?h_best_cancellation ?h_covered_with_delivery ?h_tolerance_with_commitment ?h_first_shortage ?h_summary ?h_change ?h_ask ?h_ask_further ?h_Desk_init ?h_Desk_create ?h_Desk_answer ?h_answers)
    (case aP => k_is); (case aD => k_is)
    (case pgP => k_is); (case hdP => k_is); (case poP => k_is); (case saP => k_is)
    (case pgD => k_is); (case hdD => k_is); (case poD => k_is); (case saD => k_is)
    (case nT => (unfold L2.NoAttr; k_is))
    (case nS => (unfold L2.NoAttr; k_is))
    (case nD => (unfold L2.NoAttr; k_is))
    (case nC => (unfold L2.NoAttr; k_is))
    (case nA => (unfold L2.NoAttr; k_is))
    (case nF => (unfold L2.NoAttr; k_is))
    (case nU => (unfold L2.NoAttr; k_is))
    (case nP => (unfold L2.NoAttr; k_is))
    (case z_abs => k_is)
    (case z_enumerate => k_is)
    (case z_int => k_is)
    (case z_len => k_is)
    (case z_list => k_is)
    (case z_max => k_is)
    (case z_min => k_is)
    (case z_range => k_is)
    (case z_sorted => k_is)
    (case z_sum => k_is)
    (case c_LAST_DAY => k_is)
    (case c_MOST_STOCK => k_is)
    (case c_MOST_AMOUNT => k_is)
    (case c_MOST_FAILURES => k_is)
    (case c_MOST_DELIVERIES => k_is)
    (case c_MOST_COMMITMENTS => k_is)
    (case c_NO_INSTANCE => k_is)
    (case c_NOT_THERE => k_is)
    (case c_OUT_OF_RANGE => k_is)
    (case c_FULL => k_is)
    (case c_NOT_COVERED => k_is)
    (case c_NO_VALUE => k_is)
    (case c_NOT_ENOUGH => k_is)
    (case c_LAST_DAY_REACHED => k_is)
    (case c_CREATE => k_is)
    (case c_LAST_CHANGE => k_is)
    (case c_CANCEL_BEST => k_is)
    (case gS => refine' Cs.sizes_mk KX G ?a ?l ?yc ?yd ?yz ?yv; (case a => k_is); (case l => k_is); (case yc => rfl); (case yd => rfl); (case yz => decide +kernel); (case yv => repeat (first | exact .nil | refine .cons ⟨_, rfl⟩ ?_)))
    (case h_amounts_by => refine' Cs.have_mk KX G ?a ?l ?c ?k; (case a => k_is); (case l => k_is); (case c => k_is); (case k => k_is))
    (case h_least_amounts => refine' Cs.have_mk KX G ?a ?l ?c ?k; (case a => k_is); (case l => k_is); (case c => k_is); (case k => k_is))
    (case h_supply_by => refine' Cs.have_mk KX G ?a ?l ?c ?k; (case a => k_is); (case l => k_is); (case c => k_is); (case k => k_is))
    (case h_due_by => refine' Cs.have_mk KX G ?a ?l ?c ?k; (case a => k_is); (case l => k_is); (case c => k_is); (case k => k_is))
    (case h_surplus_on => refine' Cs.have_mk KX G ?a ?l ?c ?k; (case a => k_is); (case l => k_is); (case c => k_is); (case k => k_is))
    (case h_first_short_day => refine' Cs.have_mk KX G ?a ?l ?c ?k; (case a => k_is); (case l => k_is); (case c => k_is); (case k => k_is))
    (case h_is_covered => refine' Cs.have_mk KX G ?a ?l ?c ?k; (case a => k_is); (case l => k_is); (case c => k_is); (case k => k_is))
    (case h_is_safe => refine' Cs.have_mk KX G ?a ?l ?c ?k; (case a => k_is); (case l => k_is); (case c => k_is); (case k => k_is))
    (case h_safe_numbers => refine' Cs.have_mk KX G ?a ?l ?c ?k; (case a => k_is); (case l => k_is); (case c => k_is); (case k => k_is))
    (case h_available_on => refine' Cs.have_mk KX G ?a ?l ?c ?k; (case a => k_is); (case l => k_is); (case c => k_is); (case k => k_is))
    (case h_first_day_with => refine' Cs.have_mk KX G ?a ?l ?c ?k; (case a => k_is); (case l => k_is); (case c => k_is); (case k => k_is))
    (case h_tolerance_of => refine' Cs.have_mk KX G ?a ?l ?c ?k; (case a => k_is); (case l => k_is); (case c => k_is); (case k => k_is))
    (case h_Plan_init => refine' Cs.haveI_mk ?mk ?kc ?a ?i ?l ?c ?k; (case mk => k_is); (case kc => k_is); (case a => k_is); (case i => k_is); (case l => k_is); (case c => k_is); (case k => k_is))
    (case h_plan_like => refine' Cs.have_mk KX G ?a ?l ?c ?k; (case a => k_is); (case l => k_is); (case c => k_is); (case k => k_is))
    (case h_without_row => refine' Cs.have_mk KX G ?a ?l ?c ?k; (case a => k_is); (case l => k_is); (case c => k_is); (case k => k_is))
    (case h_is_amount => refine' Cs.have_mk KX G ?a ?l ?c ?k; (case a => k_is); (case l => k_is); (case c => k_is); (case k => k_is))
    (case h_is_day_ahead => refine' Cs.have_mk KX G ?a ?l ?c ?k; (case a => k_is); (case l => k_is); (case c => k_is); (case k => k_is))
    (case h_members_of => refine' Cs.have_mk KX G ?a ?l ?c ?k; (case a => k_is); (case l => k_is); (case c => k_is); (case k => k_is))
    (case h_rows_without => refine' Cs.have_mk KX G ?a ?l ?c ?k; (case a => k_is); (case l => k_is); (case c => k_is); (case k => k_is))
    (case h_total_of => refine' Cs.have_mk KX G ?a ?l ?c ?k; (case a => k_is); (case l => k_is); (case c => k_is); (case k => k_is))
    (case h_is_better => refine' Cs.have_mk KX G ?a ?l ?c ?k; (case a => k_is); (case l => k_is); (case c => k_is); (case k => k_is))
    (case h_is_enough => refine' Cs.have_mk KX G ?a ?l ?c ?k; (case a => k_is); (case l => k_is); (case c => k_is); (case k => k_is))
    (case h_best_members => refine' Cs.have_mk KX G ?a ?l ?c ?k; (case a => k_is); (case l => k_is); (case c => k_is); (case k => k_is))
    (case h_add_delivery => refine' Cs.have_mk KX G ?a ?l ?c ?k; (case a => k_is); (case l => k_is); (case c => k_is); (case k => k_is))
    (case h_commitment_refusal => refine' Cs.have_mk KX G ?a ?l ?c ?k; (case a => k_is); (case l => k_is); (case c => k_is); (case k => k_is))
    (case h_add_commitment => refine' Cs.have_mk KX G ?a ?l ?c ?k; (case a => k_is); (case l => k_is); (case c => k_is); (case k => k_is))
    (case h_add_covered_commitment => refine' Cs.have_mk KX G ?a ?l ?c ?k; (case a => k_is); (case l => k_is); (case c => k_is); (case k => k_is))
    (case h_cancel_commitment => refine' Cs.have_mk KX G ?a ?l ?c ?k; (case a => k_is); (case l => k_is); (case c => k_is); (case k => k_is))
    (case h_delivery_arrived => refine' Cs.have_mk KX G ?a ?l ?c ?k; (case a => k_is); (case l => k_is); (case c => k_is); (case k => k_is))
    (case h_delivery_failed => refine' Cs.have_mk KX G ?a ?l ?c ?k; (case a => k_is); (case l => k_is); (case c => k_is); (case k => k_is))
    (case h_fulfill_commitment => refine' Cs.have_mk KX G ?a ?l ?c ?k; (case a => k_is); (case l => k_is); (case c => k_is); (case k => k_is))
    (case h_next_day => refine' Cs.have_mk KX G ?a ?l ?c ?k; (case a => k_is); (case l => k_is); (case c => k_is); (case k => k_is))
    (case h_cancel_best => refine' Cs.have_mk KX G ?a ?l ?c ?k; (case a => k_is); (case l => k_is); (case c => k_is); (case k => k_is))
    (case h_counted => refine' Cs.have_mk KX G ?a ?l ?c ?k; (case a => k_is); (case l => k_is); (case c => k_is); (case k => k_is))
    (case h_value_or_refusal => refine' Cs.have_mk KX G ?a ?l ?c ?k; (case a => k_is); (case l => k_is); (case c => k_is); (case k => k_is))
    (case h_list_rows => refine' Cs.have_mk KX G ?a ?l ?c ?k; (case a => k_is); (case l => k_is); (case c => k_is); (case k => k_is))
    (case h_covered => refine' Cs.have_mk KX G ?a ?l ?c ?k; (case a => k_is); (case l => k_is); (case c => k_is); (case k => k_is))
    (case h_surplus => refine' Cs.have_mk KX G ?a ?l ?c ?k; (case a => k_is); (case l => k_is); (case c => k_is); (case k => k_is))
    (case h_available => refine' Cs.have_mk KX G ?a ?l ?c ?k; (case a => k_is); (case l => k_is); (case c => k_is); (case k => k_is))
    (case h_earliest_day => refine' Cs.have_mk KX G ?a ?l ?c ?k; (case a => k_is); (case l => k_is); (case c => k_is); (case k => k_is))
    (case h_tolerance => refine' Cs.have_mk KX G ?a ?l ?c ?k; (case a => k_is); (case l => k_is); (case c => k_is); (case k => k_is))
    (case h_safe_commitments => refine' Cs.have_mk KX G ?a ?l ?c ?k; (case a => k_is); (case l => k_is); (case c => k_is); (case k => k_is))
    (case h_dependent_commitments => refine' Cs.have_mk KX G ?a ?l ?c ?k; (case a => k_is); (case l => k_is); (case c => k_is); (case k => k_is))
    (case h_best_cancellation => refine' Cs.have_mk KX G ?a ?l ?c ?k; (case a => k_is); (case l => k_is); (case c => k_is); (case k => k_is))
    (case h_covered_with_delivery => refine' Cs.have_mk KX G ?a ?l ?c ?k; (case a => k_is); (case l => k_is); (case c => k_is); (case k => k_is))
    (case h_tolerance_with_commitment => refine' Cs.have_mk KX G ?a ?l ?c ?k; (case a => k_is); (case l => k_is); (case c => k_is); (case k => k_is))
    (case h_first_shortage => refine' Cs.have_mk KX G ?a ?l ?c ?k; (case a => k_is); (case l => k_is); (case c => k_is); (case k => k_is))
    (case h_summary => refine' Cs.have_mk KX G ?a ?l ?c ?k; (case a => k_is); (case l => k_is); (case c => k_is); (case k => k_is))
    (case h_change => refine' Cs.have_mk KX G ?a ?l ?c ?k; (case a => k_is); (case l => k_is); (case c => k_is); (case k => k_is))
    (case h_ask => refine' Cs.have_mk KX G ?a ?l ?c ?k; (case a => k_is); (case l => k_is); (case c => k_is); (case k => k_is))
    (case h_ask_further => refine' Cs.have_mk KX G ?a ?l ?c ?k; (case a => k_is); (case l => k_is); (case c => k_is); (case k => k_is))
    (case h_Desk_init => refine' Cs.haveI_mk ?mk ?kc ?a ?i ?l ?c ?k; (case mk => k_is); (case kc => k_is); (case a => k_is); (case i => k_is); (case l => k_is); (case c => k_is); (case k => k_is))
    (case h_Desk_create => refine' Cs.haveM_mk ?a ?i ?l ?c ?k; (case a => k_is); (case i => k_is); (case l => k_is); (case c => k_is); (case k => k_is))
    (case h_Desk_answer => refine' Cs.haveM_mk ?a ?i ?l ?c ?k; (case a => k_is); (case i => k_is); (case l => k_is); (case c => k_is); (case k => k_is))
    (case h_answers => refine' Cs.have_mk KX G ?a ?l ?c ?k; (case a => k_is); (case l => k_is); (case c => k_is); (case k => k_is))
  case S =>
    intro K H xs a hO hwi hask hx
    cases hx with
    | cons h1 h2 =>
      cases h2
      cases h1 with
      | lst hs ha =>
        have e := L2.ints_dw a.1 _ ha
        subst e
        exact ⟨_, a.1, rfl, hs, hask, fun H' p hp => .lst (L2.SqL.of hp) (L2.dw_ints _)⟩
#print axioms PySem.Challenge.cw_coveredstock_s01_answers_holds
