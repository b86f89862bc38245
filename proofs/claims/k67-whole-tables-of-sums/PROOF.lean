import PyProof.Rows.All
import Wide.All
import OpenK.AllK
import Wide.FinOn
import PySem.Challenge.RW_roomtold_k67_whole_tables_of_sums
import HandS.ForMost
import HandS.IsInst
import HandS.Walk
import HandS.More
import HandS.DictComp
import HandS.Style
import PyProof.ReprRoads
import PyProof.ReprLen
set_option Elab.async false
set_option linter.all false
set_option maxRecDepth 100000
set_option maxHeartbeats 4000000
/-! The plain law: the table's last entry is the least sum by all ascending rows of bounds that end with the greatest size. Core Lean alone. -/
namespace K67
/-! ### small things about lists -/
theorem perm_sum {a b : List Int} (h : a.Perm b) : a.sum = b.sum := by
  induction h with
  | nil => rfl
  | cons x _ ih => rw [List.sum_cons, List.sum_cons, ih]
  | swap x y l => rw [List.sum_cons, List.sum_cons, List.sum_cons, List.sum_cons]; omega
  | trans _ _ h1 h2 => rw [h1, h2]
theorem sum_app (a b : List Int) : (a ++ b).sum = a.sum + b.sum := List.sum_append
theorem sum_nonneg : ∀ l : List Int, (∀ x ∈ l, 0 ≤ x) → 0 ≤ l.sum
  | [], _ => by rw [List.sum_nil]; exact Int.le_refl _
  | x :: l, h => by
    have h1 := h x List.mem_cons_self
    have h2 := sum_nonneg l fun y hy => h y (List.mem_cons_of_mem _ hy)
    rw [List.sum_cons]; omega
theorem sum_le_mul (c : Int) : ∀ l : List Int, (∀ x ∈ l, x ≤ c) → l.sum ≤ (l.length : Int) * c
  | [], _ => by rw [List.sum_nil]; simp
  | x :: l, h => by
    have h1 := h x List.mem_cons_self
    have h2 := sum_le_mul c l fun y hy => h y (List.mem_cons_of_mem _ hy)
    rw [List.sum_cons, List.length_cons]
    have e : ((l.length + 1 : Nat) : Int) * c = (l.length : Int) * c + c := by
      rw [Int.natCast_add, Int.add_mul]; simp
    rw [e]; omega
theorem pw_sub {R : Int → Int → Prop} {a b : List Int} (s : List.Sublist a b) (h : b.Pairwise R) : a.Pairwise R := h.sublist s

/-! ### the sorted row -/
def srt (l : List Int) : List Int := l.mergeSort fun a b => decide (a ≤ b)
theorem srt_perm (l : List Int) : (srt l).Perm l := List.mergeSort_perm l _
theorem srt_le (l : List Int) : (srt l).Pairwise fun a b => a ≤ b := by
  have h := List.pairwise_mergeSort (le := fun a b : Int => decide (a ≤ b)) (fun a b c h1 h2 => by simp only [decide_eq_true_eq] at *; omega) (fun a b => by simp only [Bool.or_eq_true, decide_eq_true_eq]; omega) l
  exact h.imp fun h => of_decide_eq_true h
theorem srt_unique {l ys : List Int} (p : ys.Perm l) (o : ys.Pairwise fun a b => a ≤ b) : ys = srt l :=
  List.Perm.eq_of_pairwise (le := fun a b : Int => a ≤ b) (fun a b _ _ h1 h2 => Int.le_antisymm h1 h2) o (srt_le l) (p.trans (srt_perm l).symm)
theorem srt_length (l : List Int) : (srt l).length = l.length := (srt_perm l).length_eq
theorem srt_lt {l : List Int} (nd : l.Nodup) : (srt l).Pairwise fun a b => a < b := by
  have n2 : (srt l).Nodup := (srt_perm l).nodup_iff.mpr nd
  have h := (srt_le l).and n2
  exact h.imp fun ⟨h1, h2⟩ => by omega

/-! ### runs and the table -/
/-- the sum of losses of the sizes number h to i - 1 (from 0) by the greatest of them -/
def runW (row : List Int) (wt : Int → Int) (h i : Nat) : Int := (((row.drop h).take (i - h)).map fun s => wt s * (row.getD (i - 1) 0 - s)).sum
def opts (row : List Int) (wt : Int → Int) (c : Nat → Option Int) (i : Nat) : List Int := (List.range i).filterMap fun h => (c h).map fun z => z + runW row wt h i
def colW (row : List Int) (wt : Int → Int) : Nat → Nat → Option Int
  | 0, 0 => some 0
  | 0, _ + 1 => none
  | _ + 1, 0 => some 0
  | k + 1, i + 1 => (opts row wt (colW row wt k) (i + 1)).min?
theorem colW_zero (row : List Int) (wt : Int → Int) : ∀ k, colW row wt k 0 = some 0
  | 0 => rfl
  | _ + 1 => rfl
theorem min_int {l : List Int} {m : Int} : l.min? = some m ↔ m ∈ l ∧ ∀ b ∈ l, m ≤ b := List.min?_eq_some_iff
theorem min_of {l : List Int} {m : Int} (h1 : m ∈ l) (h2 : ∀ b ∈ l, m ≤ b) : l.min? = some m := min_int.mpr ⟨h1, h2⟩
theorem mem_opts {row : List Int} {wt : Int → Int} {c : Nat → Option Int} {i : Nat} {x : Int} : x ∈ opts row wt c i ↔ ∃ h z, h < i ∧ c h = some z ∧ x = z + runW row wt h i := by
  unfold opts
  rw [List.mem_filterMap]
  constructor
  · rintro ⟨h, h1, h2⟩
    obtain ⟨z, h3, h4⟩ := Option.map_eq_some_iff.mp h2
    exact ⟨h, z, List.mem_range.mp h1, h3, h4.symm⟩
  · rintro ⟨h, z, h1, h2, h3⟩
    exact ⟨h, List.mem_range.mpr h1, by rw [h2, h3]; rfl⟩
/-- from the first row and the first column on every entry is there -/
theorem colW_some (row : List Int) (wt : Int → Int) (k i : Nat) : ∃ m, colW row wt (k + 1) i = some m := by
  cases i with
  | zero => exact ⟨0, colW_zero row wt _⟩
  | succ i =>
    have hm : 0 + runW row wt 0 (i + 1) ∈ opts row wt (colW row wt k) (i + 1) := mem_opts.mpr ⟨0, 0, Nat.succ_pos i, colW_zero row wt k, rfl⟩
    show ∃ m, (opts row wt (colW row wt k) (i + 1)).min? = some m
    cases e : opts row wt (colW row wt k) (i + 1) with
    | nil => rw [e] at hm; cases hm
    | cons x l => exact ⟨_, rfl⟩

/-! ### the bounds of the entries -/
structure Good (row : List Int) (wt : Int → Int) : Prop where
  lt : row.Pairwise fun a b => a < b
  lo : ∀ s ∈ row, 1 ≤ s
  hi : ∀ s ∈ row, s ≤ 1000
  w0 : ∀ s, 0 ≤ wt s
  w1 : ∀ s, wt s ≤ 1000
theorem runW_le {row : List Int} {wt : Int → Int} (g : Good row wt) {h i : Nat} (hi : i ≤ row.length) : 0 ≤ runW row wt h i ∧ runW row wt h i ≤ (i : Int) * 1000000 := by
  have all : ∀ x ∈ ((row.drop h).take (i - h)).map (fun s => wt s * (row.getD (i - 1) 0 - s)), 0 ≤ x ∧ x ≤ 1000000 := by
    intro x hx
    obtain ⟨s, hs, rfl⟩ := List.mem_map.mp hx
    obtain ⟨j, hj, e⟩ := List.mem_iff_getElem.mp hs
    rw [List.getElem_take, List.getElem_drop] at e
    rw [List.length_take, List.length_drop] at hj
    have hr : h + j < row.length := by omega
    have hi1 : i - 1 < row.length := by omega
    have eb : row.getD (i - 1) 0 = row[i - 1] := by rw [List.getD_eq_getElem?_getD, List.getElem?_eq_getElem hi1]; rfl
    have m1 : s ∈ row := e ▸ List.getElem_mem hr
    have m2 : row[i - 1] ∈ row := List.getElem_mem hi1
    have le : s ≤ row[i - 1] := by
      rw [← e]
      rcases Nat.lt_or_eq_of_le (show h + j ≤ i - 1 by omega) with q | q
      · exact Int.le_of_lt (List.pairwise_iff_getElem.mp g.lt _ _ hr hi1 q)
      · have : row[h + j] = row[i - 1] := by congr 1
        omega
    rw [eb]
    have a1 := g.w0 s
    have a2 := g.w1 s
    have a3 := g.lo s m1
    have a4 := g.hi _ m2
    have b1 : 0 ≤ row[i - 1] - s := by omega
    have b2 : row[i - 1] - s ≤ 1000 := by omega
    refine ⟨Int.mul_nonneg a1 b1, ?_⟩
    have c1 : wt s * (row[i - 1] - s) ≤ 1000 * (row[i - 1] - s) := Int.mul_le_mul_of_nonneg_right a2 b1
    omega
  refine ⟨sum_nonneg _ fun x hx => (all x hx).1, ?_⟩
  have q := sum_le_mul 1000000 _ fun x hx => (all x hx).2
  rw [List.length_map] at q
  refine Int.le_trans q (Int.mul_le_mul_of_nonneg_right ?_ (by decide))
  rw [List.length_take, List.length_drop]
  omega
theorem colW_nonneg {row : List Int} {wt : Int → Int} (g : Good row wt) : ∀ (k i : Nat) (m : Int), i ≤ row.length → colW row wt k i = some m → 0 ≤ m
  | 0, 0, m, _, h => by cases h; exact Int.le_refl _
  | 0, _ + 1, m, _, h => by cases h
  | k + 1, 0, m, _, h => by cases h; exact Int.le_refl _
  | k + 1, i + 1, m, hi, h => by
    have h2 : (opts row wt (colW row wt k) (i + 1)).min? = some m := h
    obtain ⟨h', z, h3, h4, h5⟩ := mem_opts.mp (min_int.mp h2).1
    have a := colW_nonneg g k h' z (by omega) h4
    have b := (runW_le g (h := h') hi).1
    omega
theorem colW_most {row : List Int} {wt : Int → Int} (g : Good row wt) (k i : Nat) (m : Int) (hi : i ≤ row.length) (h : colW row wt k i = some m) : m ≤ (i : Int) * 1000000 := by
  cases k with
  | zero =>
    cases i with
    | zero => cases h; simp
    | succ i => cases h
  | succ k =>
    cases i with
    | zero => cases h; simp
    | succ i =>
      have h2 : (opts row wt (colW row wt k) (i + 1)).min? = some m := h
      have q := (min_int.mp h2).2 _ (mem_opts.mpr ⟨0, 0, Nat.succ_pos i, colW_zero row wt k, rfl⟩)
      have b := (runW_le g (h := 0) hi).2
      omega

/-! ### the sums by bounds, gone through -/
/-- the loss of a size: the first bound that is not less -/
def lossW (bs : List Int) (s : Int) : Option Int := (bs.find? fun b => decide (s ≤ b)).map fun b => b - s
def lossD (bs : List Int) (s : Int) : Int := (lossW bs s).getD 0
def costW (wt : Int → Int) (bs ss : List Int) : Int := (ss.map fun s => lossD bs s * wt s).sum
def setStep (n : Int) (g : List (List Int)) (x : Int) : List (List Int) := g ++ (g.filter fun b => decide ((b.length : Int) < n)).map fun b => b ++ [x]
def setsW (l : List Int) (n : Int) : List (List Int) := l.foldl (setStep n) [[]]
theorem setsW_snoc (l : List Int) (x : Int) (n : Int) : setsW (l ++ [x]) n = setStep n (setsW l n) x := by
  unfold setsW
  rw [List.foldl_append]; rfl
theorem mem_setsW_rev (n : Nat) : ∀ (l : List Int) (b : List Int), b ∈ setsW l.reverse n ↔ b.Sublist l.reverse ∧ b.length ≤ n
  | [], b => by
    constructor
    · intro h
      have e : b = [] := List.mem_singleton.mp h
      subst e
      exact ⟨List.Sublist.refl _, Nat.zero_le _⟩
    · rintro ⟨h, _⟩
      have e : b = [] := List.sublist_nil.mp h
      subst e
      exact List.mem_singleton.mpr rfl
  | x :: l, b => by
    have ih := mem_setsW_rev n l
    rw [List.reverse_cons, setsW_snoc]
    unfold setStep
    rw [List.mem_append, List.mem_map]
    constructor
    · rintro (h | ⟨c, h1, rfl⟩)
      · obtain ⟨h2, h3⟩ := (ih b).mp h
        exact ⟨h2.trans (List.sublist_append_left _ _), h3⟩
      · obtain ⟨h2, h3⟩ := List.mem_filter.mp h1
        obtain ⟨h4, h5⟩ := (ih c).mp h2
        have h6 := of_decide_eq_true h3
        refine ⟨h4.append (List.Sublist.refl _), ?_⟩
        rw [List.length_append, List.length_singleton]
        omega
    · rintro ⟨h, hl⟩
      obtain ⟨b1, b2, rfl, h1, h2⟩ := List.sublist_append_iff.mp h
      rw [List.length_append] at hl
      cases b2 with
      | nil =>
        left
        rw [List.append_nil]
        exact (ih b1).mpr ⟨h1, by omega⟩
      | cons y r =>
        right
        have e : y :: r = [x] := by
          cases h2 with
          | cons _ h3 => exact absurd (List.sublist_nil.mp h3) (by simp)
          | cons_cons _ h3 => rw [List.sublist_nil.mp h3]
        rw [e] at hl ⊢
        rw [List.length_singleton] at hl
        exact ⟨b1, List.mem_filter.mpr ⟨(ih b1).mpr ⟨h1, by omega⟩, decide_eq_true (by omega)⟩, rfl⟩
theorem mem_setsW {n : Nat} {l b : List Int} : b ∈ setsW l n ↔ b.Sublist l ∧ b.length ≤ n := by
  have q := mem_setsW_rev n l.reverse b
  rwa [List.reverse_reverse] at q
theorem setsW_short {n : Nat} {l b : List Int} (h : b ∈ setsW l n) : b.length ≤ l.length := (mem_setsW.mp h).1.length_le
theorem setsW_count (n : Int) : ∀ l : List Int, (setsW l.reverse n).length ≤ 2 ^ l.length
  | [] => Nat.le_refl _
  | x :: l => by
    have ih := setsW_count n l
    rw [List.reverse_cons, setsW_snoc]
    unfold setStep
    rw [List.length_append, List.length_map, List.length_cons, Nat.pow_succ]
    have q := List.length_filter_le (fun b : List Int => decide ((b.length : Int) < n)) (setsW l.reverse n)
    omega

/-! ### the two meet -/
theorem find_none {bs : List Int} {s : Int} (h : ∀ b ∈ bs, b < s) : bs.find? (fun b => decide (s ≤ b)) = none := by
  rw [List.find?_eq_none]
  intro b hb
  have := h b hb
  simp only [decide_eq_true_eq]
  omega
theorem loss_last {bs : List Int} {x s : Int} (h : ∀ b ∈ bs, b < s) (hx : s ≤ x) : lossD (bs ++ [x]) s = x - s := by
  unfold lossD lossW
  rw [List.find?_append, find_none h, Option.none_or]
  rw [List.find?_cons_of_pos (p := fun b : Int => decide (s ≤ b)) (decide_eq_true hx)]
  rfl
theorem loss_more {bs : List Int} {y x s : Int} (hy : y ∈ bs) (h : s ≤ y) : lossD (bs ++ [x]) s = lossD bs s := by
  unfold lossD lossW
  rw [List.find?_append]
  cases e : bs.find? (fun b => decide (s ≤ b)) with
  | none =>
    rw [List.find?_eq_none] at e
    exact absurd (decide_eq_true h) (e y hy)
  | some b => rfl
theorem cost_app (wt : Int → Int) (bs a b : List Int) : costW wt bs (a ++ b) = costW wt bs a + costW wt bs b := by
  unfold costW
  rw [List.map_append, sum_app]
theorem cost_congr {wt : Int → Int} {bs cs ss : List Int} (h : ∀ s ∈ ss, lossD bs s = lossD cs s) : costW wt bs ss = costW wt cs ss := by
  unfold costW
  rw [List.map_congr_left fun s hs => by rw [h s hs]]
section
variable {row : List Int} {wt : Int → Int}
theorem row_lt (lt : row.Pairwise fun a b => a < b) {i j : Nat} (hj : j < row.length) (h : i < j) : row[i]'(by omega) < row[j] := List.pairwise_iff_getElem.mp lt i j (by omega) hj h
theorem row_le (lt : row.Pairwise fun a b => a < b) {i j : Nat} (hj : j < row.length) (h : i ≤ j) : row[i]'(by omega) ≤ row[j] := by
  rcases Nat.lt_or_eq_of_le h with q | q
  · exact Int.le_of_lt (row_lt lt hj q)
  · have : row[i]'(by omega) = row[j] := by congr 1
    omega
theorem mem_take_lt (lt : row.Pairwise fun a b => a < b) {i h : Nat} (hi : i < row.length) (hh : h ≤ i) {s : Int} (hs : s ∈ row.take h) : s < row[i] := by
  obtain ⟨j, hj, e⟩ := List.mem_iff_getElem.mp hs
  rw [List.getElem_take] at e
  rw [List.length_take] at hj
  rw [← e]
  exact row_lt lt hi (by omega)
/-- the sizes number h to i by the bounds b ++ [row[i]], all of b below them: the run -/
theorem cost_run (lt : row.Pairwise fun a b => a < b) {h i : Nat} (hi : i < row.length) {bs : List Int} (hb : ∀ b ∈ bs, ∀ s ∈ (row.drop h).take (i + 1 - h), b < s) : costW wt (bs ++ [row[i]]) ((row.drop h).take (i + 1 - h)) = runW row wt h (i + 1) := by
  unfold costW runW
  have eb : row.getD (i + 1 - 1) 0 = row[i] := by
    rw [Nat.add_sub_cancel, List.getD_eq_getElem?_getD, List.getElem?_eq_getElem hi]; rfl
  rw [eb]
  rw [List.map_congr_left fun s hs => ?_]
  have le : s ≤ row[i] := by
    obtain ⟨j, hj, e⟩ := List.mem_iff_getElem.mp hs
    rw [List.getElem_take, List.getElem_drop] at e
    rw [List.length_take, List.length_drop] at hj
    rw [← e]
    exact row_le lt hi (by omega)
  rw [loss_last (fun b hb' => hb b hb' s hs) le, Int.mul_comm]
theorem take_split (h i : Nat) (hh : h ≤ i) : row.take i = row.take h ++ (row.drop h).take (i - h) := by
  have e : i = h + (i - h) := by omega
  rw [e, List.take_add]
  congr 2
  omega
/-- the bounds c ++ [row[h]], and then row[i] -/
theorem cost_step (lt : row.Pairwise fun a b => a < b) {h i : Nat} (hi : i < row.length) (hh : h < i) {c : List Int} (hc : c.Sublist (row.take h)) :
    costW wt (c ++ [row[h]] ++ [row[i]]) (row.take (i + 1)) = costW wt (c ++ [row[h]]) (row.take (h + 1)) + runW row wt (h + 1) (i + 1) := by
  rw [take_split (row := row) (h + 1) (i + 1) (by omega), cost_app]
  congr 1
  · refine cost_congr fun s hs => loss_more (y := row[h]) (List.mem_append_right _ (List.mem_singleton.mpr rfl)) ?_
    obtain ⟨j, hj, e⟩ := List.mem_iff_getElem.mp hs
    rw [List.getElem_take] at e
    rw [List.length_take] at hj
    rw [← e]
    exact row_le lt (by omega) (by omega)
  · refine cost_run lt hi fun b hb s hs => ?_
    obtain ⟨j, hj, e⟩ := List.mem_iff_getElem.mp hs
    rw [List.getElem_take, List.getElem_drop] at e
    rw [List.length_take, List.length_drop] at hj
    have up : row[h] < s := by rw [← e]; exact row_lt lt (by omega) (by omega)
    rcases List.mem_append.mp hb with q | q
    · have := mem_take_lt lt (i := h) (by omega) (Nat.le_refl _) (hc.mem q)
      omega
    · rw [List.mem_singleton.mp q]; exact up
theorem snoc_sublist {c : List Int} {y : Int} {l : List Int} (h : (c ++ [y]).Sublist l) : ∃ (j : Nat) (hj : j < l.length), l[j] = y ∧ c.Sublist (l.take j) := by
  obtain ⟨r1, r2, rfl, h1, h2⟩ := List.append_sublist_iff.mp h
  obtain ⟨s, t, rfl⟩ := List.append_of_mem (List.singleton_sublist.mp h2)
  refine ⟨r1.length + s.length, by simp, ?_, ?_⟩
  · rw [List.getElem_append_right (by omega)]
    simp
  · rw [List.take_append, List.take_of_length_le (by omega)]
    exact h1.trans (List.sublist_append_left _ _)
/-- an entry is the least sum over the ascending bounds that end with the last size -/
theorem entry_least (lt : row.Pairwise fun a b => a < b) : ∀ (k i : Nat) (hi : i < row.length), ∃ m, colW row wt (k + 1) (i + 1) = some m ∧
    (∃ c : List Int, c.Sublist (row.take i) ∧ c.length ≤ k ∧ costW wt (c ++ [row[i]]) (row.take (i + 1)) = m) ∧
    ∀ c : List Int, c.Sublist (row.take i) → c.length ≤ k → m ≤ costW wt (c ++ [row[i]]) (row.take (i + 1)) := by
  intro k
  induction k with
  | zero =>
    intro i hi
    obtain ⟨m, hm⟩ := colW_some row wt 0 (i + 1)
    have one : ∀ c : List Int, c.length ≤ 0 → costW wt (c ++ [row[i]]) (row.take (i + 1)) = runW row wt 0 (i + 1) := fun c hc => by
      have e : c = [] := List.eq_nil_of_length_eq_zero (by omega)
      subst e
      have q := cost_run (wt := wt) (row := row) lt (h := 0) hi (bs := []) (fun b hb => nomatch hb)
      rwa [List.drop_zero, Nat.sub_zero] at q
    have hm2 : (opts row wt (colW row wt 0) (i + 1)).min? = some m := hm
    obtain ⟨q1, q2⟩ := min_int.mp hm2
    have em : m = runW row wt 0 (i + 1) := by
      obtain ⟨h, z, h1, h2, h3⟩ := mem_opts.mp q1
      cases h with
      | zero =>
        have : z = 0 := by
          have q : some (0 : Int) = some z := h2
          exact (Option.some.inj q).symm
        rw [h3, this, Int.zero_add]
      | succ h => cases h2
    refine ⟨m, hm, ⟨[], List.nil_sublist _, Nat.le_refl _, by rw [one [] (Nat.le_refl _), em]⟩, fun c _ hc => by rw [one c hc, em]; exact Int.le_refl _⟩
  | succ k ih =>
    intro i hi
    obtain ⟨m, hm⟩ := colW_some row wt (k + 1) (i + 1)
    have hm2 : (opts row wt (colW row wt (k + 1)) (i + 1)).min? = some m := hm
    obtain ⟨q1, q2⟩ := min_int.mp hm2
    have none_ : costW wt ([] ++ [row[i]]) (row.take (i + 1)) = runW row wt 0 (i + 1) := by
      have q := cost_run (wt := wt) (row := row) lt (h := 0) hi (bs := []) (fun b hb => nomatch hb)
      rwa [List.drop_zero, Nat.sub_zero] at q
    refine ⟨m, hm, ?_, ?_⟩
    · obtain ⟨h, z, h1, h2, h3⟩ := mem_opts.mp q1
      cases h with
      | zero =>
        have e : z = 0 := by
          rw [colW_zero] at h2
          exact (Option.some.inj h2).symm
        refine ⟨[], List.nil_sublist _, Nat.zero_le _, ?_⟩
        rw [none_, h3, e, Int.zero_add]
      | succ h =>
        have hh : h < row.length := by omega
        obtain ⟨m', e', ⟨c, c1, c2, c3⟩, _⟩ := ih h hh
        rw [h2] at e'
        have ez : z = m' := Option.some.inj e'
        refine ⟨c ++ [row[h]], ?_, ?_, ?_⟩
        · rw [take_split (row := row) h i (by omega)]
          refine c1.append (List.singleton_sublist.mpr ?_)
          rw [List.mem_iff_getElem]
          exact ⟨0, by rw [List.length_take, List.length_drop]; omega, by rw [List.getElem_take, List.getElem_drop]; rfl⟩
        · rw [List.length_append, List.length_singleton]; omega
        · rw [cost_step lt hi (by omega) c1, c3, h3, ez]
    · intro c c1 c2
      by_cases hc : c = []
      · subst hc
        rw [none_]
        have q := q2 _ (mem_opts.mpr ⟨0, 0, Nat.succ_pos i, colW_zero row wt (k + 1), rfl⟩)
        omega
      · have ec := (List.dropLast_concat_getLast hc).symm
        generalize c.dropLast = d at ec
        generalize c.getLast hc = y at ec
        subst ec
        obtain ⟨j, hj, e, hs⟩ := snoc_sublist c1
        rw [List.length_take] at hj
        rw [List.getElem_take] at e
        rw [List.take_take, Nat.min_eq_left (by omega)] at hs
        rw [← e, cost_step lt hi (by omega) hs]
        rw [List.length_append, List.length_singleton] at c2
        obtain ⟨m', e', _, least⟩ := ih j (by omega)
        have l1 := least d hs (by omega)
        have q := q2 _ (mem_opts.mpr ⟨j + 1, m', by omega, e', rfl⟩)
        omega
end
/-- THE LAW: the table's last entry is the least one of the sums by all bounds that end with the greatest size -/
theorem least_all {row : List Int} {wt : Int → Int} (lt : row.Pairwise fun a b => a < b) {x : Int} {pre : List Int} (e : row = pre ++ [x]) (n : Nat) :
    ∃ m, colW row wt (n + 1) row.length = some m ∧ m ∈ (setsW pre n).map (fun b => costW wt (b ++ [x]) row) ∧ ∀ y ∈ (setsW pre n).map (fun b => costW wt (b ++ [x]) row), m ≤ y := by
  have hl : row.length = pre.length + 1 := by rw [e, List.length_append, List.length_singleton]
  have hi : pre.length < row.length := by omega
  have ex : row[pre.length] = x := by
    have : ∀ (r : List Int) (h : pre.length < r.length), r = pre ++ [x] → r[pre.length] = x := by
      intro r h er
      subst er
      simp
    exact this row hi e
  have ep : row.take pre.length = pre := by rw [e]; simp
  have ea : row.take (pre.length + 1) = row := List.take_of_length_le (by omega)
  obtain ⟨m, h1, ⟨c, c1, c2, c3⟩, h3⟩ := entry_least (wt := wt) lt n pre.length hi
  rw [ea, ex, ep] at *
  refine ⟨m, by rw [hl]; exact h1, ?_, ?_⟩
  · exact List.mem_map.mpr ⟨c, mem_setsW.mpr ⟨c1, c2⟩, c3⟩
  · intro y hy
    obtain ⟨b, hb, rfl⟩ := List.mem_map.mp hy
    obtain ⟨b1, b2⟩ := mem_setsW.mp hb
    exact h3 b b1 b2
theorem cost_perm {wt : Int → Int} {bs a b : List Int} (h : a.Perm b) : costW wt bs a = costW wt bs b := perm_sum (h.map _)
end K67

/-! Words for this law: what a def of the text is worth (Def), comprehensions that leave what was tracked (lcS ..). -/
namespace K67
open PySem PySem.Spec PyProof.Rows L2
def topS (i : Nat) : Stmt := PySem.Challenge.pw_roomtold_k67_whole_tables_of_sums.main.body.getD i (.Pass ⟨0, 0, 0, 0⟩)
/-! ### the built-in names -/
theorem bIsinstance : bootBuiltins "isinstance" = some (.builtin "isinstance") := by decide +kernel
theorem bLen : bootBuiltins "len" = some (.builtin "len") := by decide +kernel
theorem bAll : bootBuiltins "all" = some (.builtin "all") := by decide +kernel
theorem bSorted : bootBuiltins "sorted" = some (.builtin "sorted") := by decide +kernel
theorem bSum : bootBuiltins "sum" = some (.builtin "sum") := by decide +kernel
theorem bMin : bootBuiltins "min" = some (.builtin "min") := by decide +kernel
theorem bMax : bootBuiltins "max" = some (.builtin "max") := by decide +kernel
theorem bRepr : bootBuiltins "repr" = some (.builtin "repr") := by decide +kernel
theorem bRange : bootBuiltins "range" = some (.type "range") := by decide +kernel
theorem bInt : bootBuiltins "int" = some (.type "int") := by decide +kernel
theorem bBool : bootBuiltins "bool" = some (.type "bool") := by decide +kernel
theorem bList : bootBuiltins "list" = some (.type "list") := by decide +kernel
theorem bTuple : bootBuiltins "tuple" = some (.type "tuple") := by decide +kernel
theorem bDict : bootBuiltins "dict" = some (.type "dict") := by decide +kernel
/-! ### a def of the text -/
def Has (K : PySem.W.Frag) (mg : Str → Option Value) (x : Str) (st : Stmt) : Prop := ∃ (f : Addr) (fd : FuncData), Fun K x x st f fd ∧ mg x = some (.ref f)
/-- the def called x keeps the promise sp -/
structure Def (P : Program) (w : World) (K : PySem.W.Frag) (mg : Str → Option Value) (base : Heap) (k : Nat) (x : Str) (ps : List Str) (sp : Sp) : Prop where
  ex : ∃ (f : Addr) (fd : FuncData), mg x = some (.ref f) ∧ PySem.W.keepIn K (.ref f) = true ∧ Binds K fd ps [] ∧ FnOk P w K mg base CX0 k f fd ps sp
theorem def_mk {P : Program} {w : World} {K : PySem.W.Frag} {mg : Str → Option Value} {base : Heap} {k : Nat} {x : Str} {st : Stmt} {N ps : List Str} {sp : Sp} (T : Has K mg x st) (S : FnScope N ps (defScope st))
    (hb : ∀ (kV doc pm : Value) (an : Option Addr) (cdv ct : Value) (us : List Value), us.length = ps.length → bindArgs (PySem.W.fnOf x x (defArgs st) (defBody st) (defScope st) .none kV doc pm an cdv ct) ⟨us, []⟩ = pure (ps.zip us))
    (len : ∀ vs H Q E, sp vs H Q E → vs.length = ps.length)
    (body : ∀ (f : Addr) (cdv : Value) (A : Around) (outer : List Env) (s : Shared) (H : Hp) (vs : List V) (Q : VK) (E : XK), Room k (A.deeper (envOfC x (defScope st) s.heap.objs.size f cdv)) → sp vs H Q E →
      ∃ t, PSs (cxOf CX0 P w K mg base N x (defScope st) f cdv A outer s H E).nox (defBody st) t ∧ t { nx := fun _ H' => Q .non H', rt := Q } (start N vs) H) : Def P w K mg base (k + 1) x ps sp := by
  obtain ⟨f, fd, F, m⟩ := T
  exact ⟨f, fd, m, F.kp, F.binds hb, F.ok S len fun cdv A outer s H vs Q E hr h => body f cdv A outer s H vs Q E hr h⟩
theorem Def.mono {P : Program} {w : World} {K : PySem.W.Frag} {mg : Str → Option Value} {base : Heap} {j k : Nat} {x : Str} {ps : List Str} {sp : Sp} (G : Def P w K mg base j x ps sp) (h : j ≤ k) : Def P w K mg base k x ps sp := by
  obtain ⟨f, fd, a, b, c, d⟩ := G.ex
  exact ⟨f, fd, a, b, c, d.mono h⟩
section
variable {X : Cx} {x : Str} {ps : List Str} {sp : Sp} {j k : Nat} {e : Expr} {es : List Expr} {t : TA} {p pos : Pos}
/-- x(e, ..) -/
theorem pe_def (G : Def X.prog X.w X.K X.mg X.base j x ps sp) (hr : Room k X.A) (hj : j ≤ k) (ha : PA X (e :: es) t) (hg : Gl X x := by rfl) (hdb : (x == ("__debug__" : Str)) = false := by decide)
    (he : starEach (e :: es) X.env = (false, eval e X.env) :: starEach es X.env := by rfl) (hpl : (backTo pos (starEach es X.env)).any (·.1) = false := by rfl) : PE X (.Call (.Name x p) (e :: es) [] pos) (tCall sp [] E0 t) := by
  obtain ⟨f, fd, m, kp, b, F⟩ := G.ex
  exact pe_call F (hr.mono hj) hg m kp b .nil pass0 ha hdb he hpl
/-- a constant of the module -/
theorem pe_con1 {i : Int} (hm : ∃ u, X.mg x = some (.int i u)) (hg : Gl X x := by rfl) (hd : (x == ("__debug__" : Str)) = false := by decide) : PE X (.Name x pos) (tC (.int i)) := by
  obtain ⟨u, hm⟩ := hm
  exact pe_glob hg hm ⟨u, rfl⟩ hd
end
/-! ### the names of the top -/
structure Txt (K : PySem.W.Frag) (mg : Str → Option Value) : Prop where
  tIsinstance : mg "isinstance" = none
  tLen : mg "len" = none
  tAll : mg "all" = none
  tSorted : mg "sorted" = none
  tSum : mg "sum" = none
  tMin : mg "min" = none
  tMax : mg "max" = none
  tRepr : mg "repr" = none
  tRange : mg "range" = none
  tInt : mg "int" = none
  tBool : mg "bool" = none
  tList : mg "list" = none
  tTuple : mg "tuple" = none
  tDict : mg "dict" = none
  mRoom : ∃ u, mg "MOST_ROOM" = some (.int 1000 u)
  mBounds : ∃ u, mg "MOST_BOUNDS" = some (.int 8 u)
  mSizes : ∃ u, mg "MOST_SIZES" = some (.int 30 u)
  mWeight : ∃ u, mg "MOST_WEIGHT" = some (.int 1000 u)
  mSum : ∃ u, mg "MOST_SUM" = some (.int 30000000 u)
  f7 : Has K mg "is_count" (topS 7)
  f11 : Has K mg "are_sizes" (topS 11)
  f12 : Has K mg "are_weights" (topS 12)
  f13 : Has K mg "check_weights" (topS 13)
  f14 : Has K mg "check_many" (topS 14)
  f15 : Has K mg "in_order" (topS 15)
  f18 : Has K mg "run_sums" (topS 18)
  f19 : Has K mg "least_entry" (topS 19)
  f20 : Has K mg "table_of" (topS 20)
  f21 : Has K mg "sum_table" (topS 21)
  f22 : Has K mg "least_sum" (topS 22)
  f23 : Has K mg "is_entry" (topS 23)
  f24 : Has K mg "shows_table" (topS 24)
  f26 : Has K mg "_law_numbers" (topS 26)
  f27 : Has K mg "_law_opened" (topS 27)
  f28 : Has K mg "_law_draw" (topS 28)
  f29 : Has K mg "_law_pick" (topS 29)
  f30 : Has K mg "_law_sizes" (topS 30)
  f31 : Has K mg "_law_weights" (topS 31)
  f32 : Has K mg "_law_loss" (topS 32)
  f33 : Has K mg "_law_sum" (topS 33)
  f34 : Has K mg "_law_sets" (topS 34)
  f35 : Has K mg "_law_serving" (topS 35)
  f36 : Has K mg "_law_row_of" (topS 36)
  f37 : Has K mg "_law_run" (topS 37)
  f38 : Has K mg "_law_entry" (topS 38)
  f39 : Has K mg "_law_table" (topS 39)
  f40 : Has K mg "law" (topS 40)
/-! ### answers that are known -/
theorem bl_true {Q : VK} {c : Prop} [Decidable c] {H : Hp} (e : c) (h : Q (.bl true) H) : Q (.bl (decide c)) H := by
  rw [decide_eq_true e]
  exact h
theorem bl_false {Q : VK} {c : Prop} [Decidable c] {H : Hp} (e : ¬ c) (h : Q (.bl false) H) : Q (.bl (decide c)) H := by
  rw [decide_eq_false e]
  exact h
/-! ### heaps -/
theorem same_upd {H : Hp} {p : Addr} {o : HO} (h : H p = none) : Same H (upd H p o) := fun b x e => by
  rw [upd_ne (ne_of_none e h)]
  exact e
theorem _root_.L2.Same.put {H H' : Hp} {p : Addr} {o : HO} (s : Same H H') (h : H p = none) : Same H (upd H' p o) := fun b x e => by
  rw [upd_ne (ne_of_none e h)]
  exact s b x e
/-- a lock is taken off -/
theorem _root_.L2.Same.unlock {H H' : Hp} {d : Addr} {o u : HO} (h : H d = some u) (s : Same (upd H d o) H') : Same H (upd H' d u) := fun b x e => by
  by_cases hb : b = d
  · subst hb
    rw [upd_same, ← e, h]
  · rw [upd_ne hb]
    exact s b x (by rw [upd_ne hb]; exact e)
/-! ### weights as pairs -/
def kvs (ps : List (Int × Int)) : List (Key × V) := ps.map fun p => (Sum.inl p.1, V.int p.2)
def wtOf (ps : List (Int × Int)) (s : Int) : Int := ((ps.find? fun p => decide (p.1 = s)).map (·.2)).getD 0
theorem kvs_keys (ps : List (Int × Int)) : (kvs ps).map (·.1) = (ps.map (·.1)).map Sum.inl := by
  unfold kvs
  rw [List.map_map, List.map_map]
  rfl
theorem kvs_length (ps : List (Int × Int)) : (kvs ps).length = ps.length := List.length_map _
theorem val_kvs : ∀ {ps : List (Int × Int)} {s : Int}, s ∈ ps.map (·.1) → valV (kvs ps) (Sum.inl s) = some (.int (wtOf ps s))
  | [], s, h => nomatch h
  | p :: r, s, h => by
    by_cases e : p.1 = s
    · have e1 : (kvs (p :: r)).find? (fun kv => decide (kv.1 = Sum.inl s)) = some (Sum.inl p.1, V.int p.2) := List.find?_cons_of_pos (p := fun kv : Key × V => decide (kv.1 = Sum.inl s)) (decide_eq_true (congrArg Sum.inl e))
      have e2 : (p :: r).find? (fun q => decide (q.1 = s)) = some p := List.find?_cons_of_pos (p := fun q : Int × Int => decide (q.1 = s)) (decide_eq_true e)
      unfold valV wtOf
      rw [e1, e2]
      rfl
    · have ne : ¬ (Sum.inl p.1 : Key) = Sum.inl s := fun q => e (Sum.inl.inj q)
      have e1 : (kvs (p :: r)).find? (fun kv => decide (kv.1 = Sum.inl s)) = (kvs r).find? (fun kv => decide (kv.1 = Sum.inl s)) := List.find?_cons_of_neg (p := fun kv : Key × V => decide (kv.1 = Sum.inl s)) (by simpa using ne)
      have e2 : (p :: r).find? (fun q => decide (q.1 = s)) = r.find? (fun q => decide (q.1 = s)) := List.find?_cons_of_neg (p := fun q : Int × Int => decide (q.1 = s)) (by simpa using e)
      have hr : s ∈ r.map (·.1) := by
        rcases List.mem_cons.mp h with q | q
        · exact absurd q.symm e
        · exact q
      have ih := val_kvs hr
      unfold valV wtOf at ih ⊢
      rw [e1, e2]
      exact ih
/-- what weights are -/
structure OkPs (ps : List (Int × Int)) : Prop where
  nd : (ps.map (·.1)).Nodup
  n1 : 1 ≤ ps.length
  n2 : ps.length ≤ 30
  lo : ∀ p ∈ ps, 1 ≤ p.1
  hi : ∀ p ∈ ps, p.1 ≤ 1000
  w0 : ∀ p ∈ ps, 0 ≤ p.2
  w1 : ∀ p ∈ ps, p.2 ≤ 1000
theorem wt_bounds {ps : List (Int × Int)} (h : OkPs ps) (s : Int) : 0 ≤ wtOf ps s ∧ wtOf ps s ≤ 1000 := by
  unfold wtOf
  cases e : ps.find? (fun p => decide (p.1 = s)) with
  | none => exact ⟨Int.le_refl _, by decide⟩
  | some p =>
    have m := List.mem_of_find?_eq_some e
    exact ⟨h.w0 p m, h.w1 p m⟩
theorem small_line {n : Nat} (h : n ≤ 100000) : n < sizeLine := Nat.lt_of_le_of_lt h (by decide)
/-! ### comprehensions whose elements leave what was tracked as it was -/
section
variable {J : It} {n : Nat} {G : Hp → Prop} {Y : Nat → Hp → V → Hp → Prop} {g : TG} {tt : TT} {te : TE} {vs : List Nat} {σ : L2.St} {H1 : Hp} {D : Addr} {Qd : Hp → Prop}
theorem keep_step (b : Nat → Bool) (f : Nat → V) (i : Nat) : ((List.range (i + 1)).filter b).map f = ((List.range i).filter b).map f ++ (if b i = true then [f i] else []) := by
  rw [List.range_succ, List.filter_append, List.map_append]
  congr 1
  cases h : b i <;> simp [h]
theorem lcS (w : Walk J n G Y) (hD : H1 D = none) (b : Nat → Bool) (f : Nat → V) (hn : n < sizeLine) (hG : ∀ H, Same H1 H → G H) (hY : ∀ i H x H', Y i H x H' → H' = H)
    (hs : ∀ i x H, i < n → Same H1 H → Y i H x H → ∀ (K1 : VK) (K0 : Hp → Prop), (b i = true → ∀ H4, Same H H4 → K1 (f i) H4) → (b i = false → ∀ H4, Same H H4 → K0 H4) →
      g x (wipe σ vs) H fun σ2 H2 => wipe σ2 vs = wipe σ vs ∧ tt σ2 H2 fun c H3 => if c = true then te σ2 H3 K1 else K0 H3)
    (hd : ∀ H, Same H1 H → H D = some (.lst (((List.range n).filter b).map f)) → Qd H) :
    ∃ W : Nat → Nat → Hp → Prop, (∃ m, W 0 m (upd H1 D (.lst []))) ∧ ∀ i m H, W i m H →
      (J.stop i H ∧ Qd H) ∨ (J.go i H ∧ ∃ Nx : Hp → Prop, (∀ H', Nx H' → ∃ m', m' < m ∧ W (i + 1) m' H') ∧ ∀ x H', J.yld i H x H' → g x (wipe σ vs) H' fun σ2 H2 => wipe σ2 vs = wipe σ vs ∧ tt σ2 H2 fun b H3 =>
        if b = true then te σ2 H3 fun y H4 => ∃ acc, H4 D = some (.lst acc) ∧ acc.length < sizeLine ∧ Nx (upd H4 D (.lst (acc ++ [y]))) else Nx H3) := by
  refine lc_it w (fun i H => Same H1 H ∧ H D = some (.lst (((List.range i).filter b).map f))) ⟨same_upd hD, upd_same⟩ (fun i H _ h => hG H h.1) ?_ fun H h => hd H h.1 h.2
  rintro i x H H' hi ⟨s1, e1⟩ y
  obtain rfl : H' = H := hY _ _ _ _ y
  refine hs i x H' hi s1 y _ _ (fun hb H4 s4 => ⟨_, s4 _ _ e1, ?_, (s1.trans s4).put hD, ?_⟩) fun hb H4 s4 => ⟨s1.trans s4, ?_⟩
  · rw [List.length_map]
    have h1 := List.length_filter_le b (List.range i)
    rw [List.length_range] at h1
    omega
  · rw [upd_same, keep_step, if_pos hb]
  · rw [s4 _ _ e1, keep_step, if_neg (by rw [hb]; exact Bool.false_ne_true), List.append_nil]
theorem map_range {α : Type} (l : List α) (d : α) (F : α → V) : (List.range l.length).map (fun i => F (l.getD i d)) = l.map F := by
  apply List.ext_getElem
  · simp
  · intro i h1 h2
    have h3 : i < l.length := by simpa using h1
    simp [List.getD_eq_getElem?_getD, List.getElem?_eq_getElem h3]
theorem keep_all (n : Nat) : (List.range n).filter (fun _ => true) = List.range n := List.filter_eq_self.mpr fun _ _ => rfl
end
section
variable {K : PySem.W.Frag} {a d : Addr} {o : Obj} {g : TG} {te : TE} {vs : List Nat} {σ : L2.St} {H1 : Hp} {D : Addr} {Qd : Hp → Prop}
/-- [F(x) for x in l], l any list -/
theorem lcL {xs : List V} (hD : H1 D = none) (F : V → V) (hn : xs.length < sizeLine) (hl : SqL K H1 a xs)
    (hs : ∀ (i : Nat) (x : V) (H : Hp), xs[i]? = some x → Same H1 H → ∀ (K1 : VK), (∀ H4, Same H H4 → K1 (F x) H4) → g x (wipe σ vs) H fun σ2 H2 => wipe σ2 vs = wipe σ vs ∧ te σ2 H2 K1)
    (hd : ∀ H, Same H1 H → H D = some (.lst (xs.map F)) → Qd H) :
    ∃ W : Nat → Nat → Hp → Prop, (∃ m, W 0 m (upd H1 D (.lst []))) ∧ ∀ i m H, W i m H →
      ((Itl K a).stop i H ∧ Qd H) ∨ ((Itl K a).go i H ∧ ∃ Nx : Hp → Prop, (∀ H', Nx H' → ∃ m', m' < m ∧ W (i + 1) m' H') ∧ ∀ x H', (Itl K a).yld i H x H' → g x (wipe σ vs) H' fun σ2 H2 => wipe σ2 vs = wipe σ vs ∧ tYes σ2 H2 fun b H3 =>
        if b = true then te σ2 H3 fun y H4 => ∃ acc, H4 D = some (.lst acc) ∧ acc.length < sizeLine ∧ Nx (upd H4 D (.lst (acc ++ [y]))) else Nx H3) := by
  refine lc_it walk_list (fun i H => Same H1 H ∧ H D = some (.lst ((xs.take i).map F))) ⟨same_upd hD, upd_same⟩ (fun i H _ h => h.1.seq hl) ?_ fun H h => hd H h.1 (by rw [h.2, List.take_length])
  rintro i x H H' hi ⟨s1, e1⟩ ⟨rfl, hx⟩
  have q := hs i x H' hx s1 (fun y H4 => ∃ acc, H4 D = some (.lst acc) ∧ acc.length < sizeLine ∧ Same H1 (upd H4 D (.lst (acc ++ [y]))) ∧ (upd H4 D (.lst (acc ++ [y]))) D = some (.lst ((xs.take (i + 1)).map F))) fun H4 s4 => ⟨_, s4 _ _ e1, ?_, (s1.trans s4).put hD, ?_⟩
  · exact q
  · rw [List.length_map, List.length_take]
    omega
  · rw [upd_same, List.take_add_one, hx, List.map_append]
    rfl
/-- [F(s) for s in l], l a list of ints -/
theorem lcI {ns : List Int} (hD : H1 D = none) (F : Int → V) (hn : ns.length < sizeLine) (hl : SqL K H1 a (ns.map V.int))
    (hs : ∀ (i : Nat) (s : Int) (H : Hp), ns[i]? = some s → Same H1 H → ∀ (K1 : VK), (∀ H4, Same H H4 → K1 (F s) H4) → g (.int s) (wipe σ vs) H fun σ2 H2 => wipe σ2 vs = wipe σ vs ∧ te σ2 H2 K1)
    (hd : ∀ H, Same H1 H → H D = some (.lst (ns.map F)) → Qd H) :
    ∃ W : Nat → Nat → Hp → Prop, (∃ m, W 0 m (upd H1 D (.lst []))) ∧ ∀ i m H, W i m H →
      ((Itl K a).stop i H ∧ Qd H) ∨ ((Itl K a).go i H ∧ ∃ Nx : Hp → Prop, (∀ H', Nx H' → ∃ m', m' < m ∧ W (i + 1) m' H') ∧ ∀ x H', (Itl K a).yld i H x H' → g x (wipe σ vs) H' fun σ2 H2 => wipe σ2 vs = wipe σ vs ∧ tYes σ2 H2 fun b H3 =>
        if b = true then te σ2 H3 fun y H4 => ∃ acc, H4 D = some (.lst acc) ∧ acc.length < sizeLine ∧ Nx (upd H4 D (.lst (acc ++ [y]))) else Nx H3) := by
  refine lcL (xs := ns.map V.int) hD (fun v => match v with | .int s => F s | _ => .non) (by rw [List.length_map]; exact hn) hl (fun i x H hx s1 K1 k1 => ?_) fun H s1 e => hd H s1 ?_
  · rw [List.getElem?_map] at hx
    obtain ⟨s, h1, h2⟩ := Option.map_eq_some_iff.mp hx
    subst h2
    exact hs i s H h1 s1 K1 k1
  · rw [e, List.map_map]
    rfl
/-- [F(k) for k in d], d a dict with int keys under a lock -/
theorem lcK {kv : List (Key × V)} {ks : List Int} (hD : H1 D = none) (F : Int → V) (hn : kv.length < sizeLine) (hl : H1 d = some (.frz o (.dK kv))) (hk : kv.map (·.1) = ks.map Sum.inl)
    (hs : ∀ (i : Nat) (s : Int) (H : Hp), ks[i]? = some s → Same H1 H → ∀ (K1 : VK), (∀ H4, Same H H4 → K1 (F s) H4) → g (.int s) (wipe σ vs) H fun σ2 H2 => wipe σ2 vs = wipe σ vs ∧ te σ2 H2 K1)
    (hd : ∀ H, Same H1 H → H D = some (.lst (ks.map F)) → Qd H) :
    ∃ W : Nat → Nat → Hp → Prop, (∃ m, W 0 m (upd H1 D (.lst []))) ∧ ∀ i m H, W i m H →
      ((Itk d o kv).stop i H ∧ Qd H) ∨ ((Itk d o kv).go i H ∧ ∃ Nx : Hp → Prop, (∀ H', Nx H' → ∃ m', m' < m ∧ W (i + 1) m' H') ∧ ∀ x H', (Itk d o kv).yld i H x H' → g x (wipe σ vs) H' fun σ2 H2 => wipe σ2 vs = wipe σ vs ∧ tYes σ2 H2 fun b H3 =>
        if b = true then te σ2 H3 fun y H4 => ∃ acc, H4 D = some (.lst acc) ∧ acc.length < sizeLine ∧ Nx (upd H4 D (.lst (acc ++ [y]))) else Nx H3) := by
  have hlen : kv.length = ks.length := by
    have := congrArg List.length hk
    rwa [List.length_map, List.length_map] at this
  refine lc_it walk_keys (fun i H => Same H1 H ∧ H D = some (.lst ((ks.take i).map F))) ⟨same_upd hD, upd_same⟩ (fun i H _ h => h.1 _ _ hl) ?_ fun H h => hd H h.1 (by rw [h.2, hlen, List.take_length])
  rintro i x H H' hi ⟨s1, e1⟩ ⟨rfl, k, v, hx, rfl⟩
  have hki : (ks.map Sum.inl)[i]? = some k := by rw [← hk, List.getElem?_map, hx]; rfl
  rw [List.getElem?_map] at hki
  obtain ⟨s, h1, rfl⟩ := Option.map_eq_some_iff.mp hki
  have q := hs i s H' h1 s1 (fun y H4 => ∃ acc, H4 D = some (.lst acc) ∧ acc.length < sizeLine ∧ Same H1 (upd H4 D (.lst (acc ++ [y]))) ∧ (upd H4 D (.lst (acc ++ [y]))) D = some (.lst ((ks.take (i + 1)).map F))) fun H4 s4 => ⟨_, s4 _ _ e1, ?_, (s1.trans s4).put hD, ?_⟩
  · exact q
  · rw [List.length_map, List.length_take]
    omega
  · rw [upd_same, List.take_add_one, h1, List.map_append]
    rfl
/-- [f(i) for i in range(lo, lo + n) if b(i)] -/
theorem lcR {lo : Int} {n : Nat} {tt : TT} (hD : H1 D = none) (b : Nat → Bool) (f : Nat → V) (hn : n < sizeLine)
    (hs : ∀ (i : Nat) (H : Hp), i < n → Same H1 H → ∀ (K1 : VK) (K0 : Hp → Prop), (b i = true → ∀ H4, Same H H4 → K1 (f i) H4) → (b i = false → ∀ H4, Same H H4 → K0 H4) →
      g (.int (lo + i)) (wipe σ vs) H fun σ2 H2 => wipe σ2 vs = wipe σ vs ∧ tt σ2 H2 fun c H3 => if c = true then te σ2 H3 K1 else K0 H3)
    (hd : ∀ H, Same H1 H → H D = some (.lst (((List.range n).filter b).map f)) → Qd H) :
    ∃ W : Nat → Nat → Hp → Prop, (∃ m, W 0 m (upd H1 D (.lst []))) ∧ ∀ i m H, W i m H →
      ((Itr lo n).stop i H ∧ Qd H) ∨ ((Itr lo n).go i H ∧ ∃ Nx : Hp → Prop, (∀ H', Nx H' → ∃ m', m' < m ∧ W (i + 1) m' H') ∧ ∀ x H', (Itr lo n).yld i H x H' → g x (wipe σ vs) H' fun σ2 H2 => wipe σ2 vs = wipe σ vs ∧ tt σ2 H2 fun b H3 =>
        if b = true then te σ2 H3 fun y H4 => ∃ acc, H4 D = some (.lst acc) ∧ acc.length < sizeLine ∧ Nx (upd H4 D (.lst (acc ++ [y]))) else Nx H3) := by
  refine lcS walk_range hD b f hn (fun _ _ => trivial) (fun _ _ _ _ y => y.1) (fun i x H hi s1 y K1 K0 k1 k0 => ?_) hd
  obtain ⟨_, rfl⟩ := y
  exact hs i H hi s1 K1 K0 k1 k0
end
/-! ### loops over ranges, slices -/
/-- for i in range(lo, lo + n), the number of turns m told as n -/
theorem forR {lo : Int} {m n : Nat} {g : TG} {tb : TS} {D : Ends} {σ : L2.St} {H : Hp} (e : m = n) (Pv : Nat → L2.St → Hp → Prop) (h0 : Pv 0 σ H)
    (hs : ∀ (i : Nat) (σ : L2.St) (H : Hp), i < n → Pv i σ H → g (.int (lo + i)) σ H fun σ2 H2 => tb { D with nx := Pv (i + 1), ct := Pv (i + 1), bk := D.nx } σ2 H2) (hd : ∀ σ H, Pv n σ H → D.nx σ H) :
    ∃ W : Nat → Nat → L2.St → Hp → Prop, (∃ m, W 0 m σ H) ∧ ∀ i k σ H, W i k σ H →
      ((Itr lo m).stop i H ∧ D.nx σ H) ∨ ((Itr lo m).go i H ∧ ∃ N : L2.St → Hp → Prop, (∀ σ' H', N σ' H' → ∃ m', m' < k ∧ W (i + 1) m' σ' H') ∧ ∀ x H', (Itr lo m).yld i H x H' → g x σ H' fun σ2 H2 => tb { D with nx := N, ct := N, bk := D.nx } σ2 H2) := by
  subst e
  exact for_range Pv h0 hs hd
theorem cut_mid (xs : List V) {h i : Nat} (h1 : h ≤ i) (h2 : i ≤ xs.length) : cutV xs (some (h : Int)) (some (i : Int)) = (xs.drop h).take (i - h) := by
  unfold cutV
  rw [HT.sIx_nat, HT.sIx_nat, Nat.min_eq_left h2, Nat.min_eq_left (Nat.le_trans h1 h2)]
theorem cut_ints (row : List Int) {h i : Nat} (h1 : h ≤ i) (h2 : i ≤ row.length) : cutV (row.map V.int) (some (h : Int)) (some (i : Int)) = ((row.drop h).take (i - h)).map V.int := by
  rw [cut_mid _ h1 (by rw [List.length_map]; exact h2), List.map_take, List.map_drop]
theorem at_ints {row : List Int} {i : Nat} (h : i < row.length) {z : Int} (e : z = (i : Int)) : atI (row.map V.int) z = some (.int (row.getD i 0)) := by
  refine at_of e ?_
  rw [List.getElem?_map, List.getD_eq_getElem?_getD, List.getElem?_eq_getElem h]
  rfl
/-! ### words for a comprehension's block: the written part by its own name -/
section
variable {X : Cx} {a b e : Expr} {ta tb : TE} {pos p : Pos}
theorem pe_at (K : PySem.W.Frag) (ha : PE X a ta) (hb : PE X b tb) (hK : X.K = K := by rfl) (hs : PlainIx b := by exact fun _ _ => rfl) : PE X (.Subscript a b pos) (tOp (rIxL K) ta tb) := by
  subst hK
  exact pe_ix ix_list ha hb hs
def rLenL (K : PySem.W.Frag) : List V → Hp → VK → Prop := fun xs H Q => ∃ (p : Addr) (ys : List V), xs = [.ref p] ∧ SqL K H p ys ∧ Q (.int ys.length) H
theorem pe_len (K : PySem.W.Frag) (ha : PE X e ta) (hm : X.mg "len" = none) (hg : Gl X "len" := by rfl) (hK : X.K = K := by rfl) (he : starEach (e :: []) X.env = (false, eval e X.env) :: starEach [] X.env := by rfl) (hpl : (backTo pos (starEach [] X.env)).any (·.1) = false := by rfl) :
    PE X (.Call (.Name "len" p) [e] [] pos) (tCB (rLenL K) (tCons ta tNil)) := by
  subst hK
  have hc : CallR X (.builtin "len") (rLenL X.K) := fun pins s σ H xs us Q I r h => by
    obtain ⟨q, ys, e1, e2, e3⟩ := h
    exact call_len_seq pins s σ H xs us Q I r ⟨q, ys, e1, .inl e2, e3⟩
  exact pe_callB hc hg hm bLen (pa_cons ha pa_nil he) (by decide) (by decide) he hpl
end
end K67

/-! Tables in the heap, and as data. -/
namespace K67
open PySem PySem.Spec PyProof.Rows L2
def oV : Option Int → V
  | some i => .int i
  | none => .non
def oD : Option Int → PyData
  | some i => .int i
  | none => .none
abbrev Row := List (Option Int)
def dInts (ns : List Int) : PyData := .list (ns.map PyData.int)
def dRow (r : Row) : PyData := .list (r.map oD)
def dTab (T : List Row) : PyData := .list (T.map dRow)
/-! ### what == asks of such data -/
theorem lay_ints : ∀ ns : List Int, PyData.canLayAll0 (ns.map PyData.int) = true
  | [] => rfl
  | n :: r => by
    have ih := lay_ints r
    show (PyData.canLay0 (.int n) && PyData.canLayAll0 (r.map PyData.int)) = true
    rw [ih]
    rfl
theorem lay_cells : ∀ r : Row, PyData.canLayAll0 (r.map oD) = true
  | [] => rfl
  | o :: r => by
    have ih := lay_cells r
    show (PyData.canLay0 (oD o) && PyData.canLayAll0 (r.map oD)) = true
    rw [ih]
    cases o <;> rfl
theorem lay_rows : ∀ T : List Row, PyData.canLayAll0 (T.map dRow) = true
  | [] => rfl
  | r :: T => by
    have ih := lay_rows T
    show (PyData.canLay0 (dRow r) && PyData.canLayAll0 (T.map dRow)) = true
    rw [ih]
    show (PyData.canLayAll0 (r.map oD) && true) = true
    rw [lay_cells]
    rfl
theorem deep_ints : ∀ ns : List Int, PyData.depthAll (ns.map PyData.int) = 0
  | [] => rfl
  | n :: r => by
    have ih := deep_ints r
    show max (PyData.depth (.int n)) (PyData.depthAll (r.map PyData.int)) = 0
    rw [ih]
    rfl
theorem deep_cells : ∀ r : Row, PyData.depthAll (r.map oD) = 0
  | [] => rfl
  | o :: r => by
    have ih := deep_cells r
    show max (PyData.depth (oD o)) (PyData.depthAll (r.map oD)) = 0
    rw [ih]
    cases o <;> rfl
theorem deep_rows : ∀ T : List Row, PyData.depthAll (T.map dRow) ≤ 1
  | [] => Nat.zero_le _
  | r :: T => by
    have ih := deep_rows T
    have e : PyData.depth (dRow r) = PyData.depthAll (r.map oD) + 1 := rfl
    show max (PyData.depth (dRow r)) (PyData.depthAll (T.map dRow)) ≤ 1
    rw [e, deep_cells]
    omega
theorem shaped_of {d : PyData} (h1 : d.canLay0 = true) (h2 : d.depth ≤ 64) : SeqAt.shaped d = true := by
  unfold SeqAt.shaped
  rw [h1, decide_eq_true h2]
  rfl
theorem shaped_ints (ns : List Int) : SeqAt.shaped (dInts ns) = true := shaped_of (lay_ints ns) (by
  show PyData.depthAll (ns.map PyData.int) + 1 ≤ 64
  rw [deep_ints]
  decide)
theorem shaped_cell (o : Option Int) : SeqAt.shaped (oD o) = true := by cases o <;> rfl
theorem shaped_row (r : Row) : SeqAt.shaped (dRow r) = true := shaped_of (lay_cells r) (by
  show PyData.depthAll (r.map oD) + 1 ≤ 64
  rw [deep_cells]
  decide)
theorem tab_depth (T : List Row) : PyData.depth (dTab T) ≤ 2 := by
  have h := deep_rows T
  show PyData.depthAll (T.map dRow) + 1 ≤ 2
  omega
theorem shaped_tab (T : List Row) : SeqAt.shaped (dTab T) = true := shaped_of (lay_rows T) (by
  have h := tab_depth T
  omega)
theorem eqv_self {d : PyData} (h : SeqAt.shaped d = true) : PyData.eqv d d = true := SeqAt.eqv_refl d (SeqAt.canLay_of_shaped h)
theorem eqv_nil (ns : List Int) : PyData.eqv (dInts ns) (dInts []) = ns.isEmpty := by
  cases ns <;> rfl
/-! ### read from the heap -/
section
variable {K : PySem.W.Frag} {H : Hp}
theorem dp_all_ints : ∀ ns : List Int, DpAll K H (ns.map V.int) (ns.map PyData.int)
  | [] => .nil
  | n :: r => .cons (.int n) (dp_all_ints r)
theorem dp_cell (o : Option Int) : Dp K H (oV o) (oD o) := by
  cases o with
  | none => exact .non
  | some i => exact .int i
theorem dp_all_cells : ∀ r : Row, DpAll K H (r.map oV) (r.map oD)
  | [] => .nil
  | o :: r => .cons (dp_cell o) (dp_all_cells r)
theorem dp_ints {a : Addr} {ns : List Int} (h : H a = some (.lst (ns.map V.int))) : Dp K H (.ref a) (dInts ns) := .lst (.inl (.inl h)) (dp_all_ints ns)
theorem dp_row {a : Addr} {r : Row} (h : H a = some (.lst (r.map oV))) : Dp K H (.ref a) (dRow r) := .lst (.inl (.inl h)) (dp_all_cells r)
/-- the rows' own lists -/
abbrev RowsAt (H : Hp) : List Addr → List Row → Prop := Paired fun q r => H q = some (.lst (r.map oV))
/-- a table -/
def TabAt (H : Hp) (t : Addr) (T : List Row) : Prop := ∃ qs : List Addr, H t = some (.lst (qs.map V.ref)) ∧ RowsAt H qs T
/-- a new table: nothing of it stood in H -/
def NewTab (H H' : Hp) (t : Addr) (T : List Row) : Prop := H t = none ∧ ∃ qs : List Addr, H' t = some (.lst (qs.map V.ref)) ∧ RowsAt H' qs T ∧ ∀ q ∈ qs, H q = none
theorem NewTab.tab {H H' : Hp} {t : Addr} {T : List Row} (h : NewTab H H' t T) : TabAt H' t T := let ⟨_, qs, a, b, _⟩ := h; ⟨qs, a, b⟩
theorem RowsAt.same {H H' : Hp} (s : Same H H') {qs : List Addr} {T : List Row} (h : RowsAt H qs T) : RowsAt H' qs T := Paired.mapP h fun q r e => s _ _ e
theorem TabAt.same {H H' : Hp} (s : Same H H') {t : Addr} {T : List Row} (h : TabAt H t T) : TabAt H' t T := let ⟨qs, a, b⟩ := h; ⟨qs, s _ _ a, b.same s⟩
theorem paired_get {α β : Type} {F : α → β → Prop} : ∀ {xs : List α} {ys : List β} {i : Nat} {y : β}, Paired F xs ys → ys[i]? = some y → ∃ x, xs[i]? = some x ∧ F x y
  | _, _, _, _, .nil, e => by simp at e
  | _, _, 0, _, .cons r _, e => by
    simp at e
    subst e
    exact ⟨_, rfl, r⟩
  | _, _, i + 1, y, .cons _ t, e => by
    obtain ⟨x, h1, h2⟩ := paired_get (i := i) (y := y) t (by simpa using e)
    exact ⟨x, by simpa using h1, h2⟩
theorem paired_snoc {α β : Type} {F : α → β → Prop} {x : α} {y : β} (r : F x y) : ∀ {xs : List α} {ys : List β}, Paired F xs ys → Paired F (xs ++ [x]) (ys ++ [y])
  | _, _, .nil => .cons r .nil
  | _, _, .cons q t => .cons q (paired_snoc r t)
theorem RowsAt.row {qs : List Addr} {T : List Row} {i : Nat} {r : Row} (h : RowsAt H qs T) (e : T[i]? = some r) : ∃ q, (qs.map V.ref)[i]? = some (.ref q) ∧ H q = some (.lst (r.map oV)) := by
  obtain ⟨q, h1, h2⟩ := paired_get h e
  exact ⟨q, by rw [List.getElem?_map, h1]; rfl, h2⟩
theorem RowsAt.len {qs : List Addr} {T : List Row} (h : RowsAt H qs T) : qs.length = T.length := Paired.length h
theorem dp_all_rows : ∀ {qs : List Addr} {T : List Row}, RowsAt H qs T → DpAll K H (qs.map V.ref) (T.map dRow)
  | _, _, .nil => .nil
  | _, _, .cons h t => .cons (dp_row h) (dp_all_rows t)
theorem dp_tab {t : Addr} {T : List Row} (h : TabAt H t T) : Dp K H (.ref t) (dTab T) := by
  obtain ⟨qs, h1, h2⟩ := h
  exact .lst (.inl (.inl h1)) (dp_all_rows h2)
theorem cell_at {r : Row} {k : Nat} {o : Option Int} (h : r[k]? = some o) : (r.map oV)[k]? = some (oV o) := by
  rw [List.getElem?_map, h]
  rfl
end
/-! ### the table of the law -/
def tabRow (row : List Int) (wt : Int → Int) (n i : Nat) : Row := (List.range (n + 1)).map fun k => colW row wt k i
/-- the first m rows -/
def tabW (row : List Int) (wt : Int → Int) (n m : Nat) : List Row := (List.range m).map (tabRow row wt n)
theorem tabW_get {row : List Int} {wt : Int → Int} {n m i : Nat} (h : i < m) : (tabW row wt n m)[i]? = some (tabRow row wt n i) := by
  unfold tabW
  rw [List.getElem?_map, List.getElem?_range h]
  rfl
theorem tabRow_get {row : List Int} {wt : Int → Int} {n i k : Nat} (h : k ≤ n) : (tabRow row wt n i)[k]? = some (colW row wt k i) := by
  unfold tabRow
  rw [List.getElem?_map, List.getElem?_range (Nat.lt_succ_of_le h)]
  rfl
theorem tabW_len (row : List Int) (wt : Int → Int) (n m : Nat) : (tabW row wt n m).length = m := by
  unfold tabW
  rw [List.length_map, List.length_range]
theorem tabRow_len (row : List Int) (wt : Int → Int) (n i : Nat) : (tabRow row wt n i).length = n + 1 := by
  unfold tabRow
  rw [List.length_map, List.length_range]
theorem tabW_succ (row : List Int) (wt : Int → Int) (n m : Nat) : tabW row wt n (m + 1) = tabW row wt n m ++ [tabRow row wt n m] := by
  unfold tabW
  rw [List.range_succ, List.map_append]
  rfl
/-- the items that the min is taken of -/
theorem opts_keep (row : List Int) (wt : Int → Int) (c : Nat → Option Int) (i : Nat) : ∀ l : List Nat, (l.filter fun h => (c h).isSome).map (fun h => V.int ((c h).getD 0 + runW row wt h i)) = (l.filterMap fun h => (c h).map fun z => z + runW row wt h i).map V.int
  | [] => rfl
  | h :: l => by
    have ih := opts_keep row wt c i l
    cases e : c h with
    | none =>
      have e1 : (c h).isSome = false := by rw [e]; rfl
      have e2 : (c h).map (fun z => z + runW row wt h i) = none := by rw [e]; rfl
      rw [List.filter_cons_of_neg (p := fun h => (c h).isSome) (by rw [e1]; exact Bool.false_ne_true), List.filterMap_cons_none (f := fun h => (c h).map fun z => z + runW row wt h i) e2]
      exact ih
    | some z =>
      have e1 : (c h).isSome = true := by rw [e]; rfl
      have e2 : (c h).map (fun z => z + runW row wt h i) = some (z + runW row wt h i) := by rw [e]; rfl
      rw [List.filter_cons_of_pos (p := fun h => (c h).isSome) e1, List.filterMap_cons_some (f := fun h => (c h).map fun z => z + runW row wt h i) e2, List.map_cons, List.map_cons, ih, e]
      rfl
theorem opts_list (row : List Int) (wt : Int → Int) (c : Nat → Option Int) (i : Nat) : ((List.range i).filter fun h => (c h).isSome).map (fun h => V.int ((c h).getD 0 + runW row wt h i)) = (opts row wt c i).map V.int := opts_keep row wt c i _
theorem colW_opts (row : List Int) (wt : Int → Int) (k i : Nat) (hi : 1 ≤ i) : colW row wt (k + 1) i = (opts row wt (colW row wt k) i).min? := by
  cases i with
  | zero => omega
  | succ i => rfl
end K67

/-! is_count, are_sizes, are_weights, check_weights, check_many, in_order, is_entry -/
namespace K67
open PySem PySem.Spec PyProof.Rows L2
section
variable {P : Program} {w : World} {K : PySem.W.Frag} {mg : Str → Option Value} {base : Heap}
/-! ### is_count -/
def spCount : Sp := fun vs H Q _ => ∃ i lo hi : Int, vs = [.int i, .int lo, .int hi] ∧ Q (.bl (decide (lo ≤ i ∧ i ≤ hi))) H
theorem sc7 : FnScope ["value", "least", "most"] ["value", "least", "most"] (defScope (topS 7)) := ⟨rfl, rfl, rfl, by decide +kernel, rfl, by decide +kernel, by decide +kernel⟩
theorem ok_count (T : Txt K mg) : Def P w K mg base 1 "is_count" ["value", "least", "most"] spCount := by
  refine def_mk T.f7 sc7 (fun _ _ _ _ _ _ us hl => match us, hl with | [_, _, _], _ => rfl) (fun vs H Q E h => ?_) (fun f cdv A outer s H vs Q E hr h => ?_)
  · obtain ⟨i, lo, hi, rfl, _⟩ := h
    rfl
  · obtain ⟨i, lo, hi, rfl, q⟩ := h
    refine ⟨_, pss_one (ps_ret (pe_and (pe_callB call_isi (by rfl) T.tIsinstance bIsinstance (pa_cons (pv 0) (pa_cons (pe_bltn (by rfl) T.tInt bInt (v := .ty "int") rfl) pa_nil)))
      (pe_and (pe_not (pe_callB call_isi (by rfl) T.tIsinstance bIsinstance (pa_cons (pv 0) (pa_cons (pe_bltn (by rfl) T.tBool bBool (v := .ty "bool") rfl) pa_nil))))
      (pe_one (pe_chain op_le op_le (pv 1) (pv 0) (pv 2)))))), ?_⟩
    refine ⟨.int i, rfl, .int i, .ty "int", .type "int", .type "int", true, rfl, .ty _, .base (.int i), kit_ty (by decide +kernel), true, rfl, iteT ?_⟩
    refine ⟨.int i, rfl, .int i, .ty "bool", .type "int", .type "bool", false, rfl, .ty _, .base (.int i), kit_ty (by decide +kernel), false, rfl, true, rfl, iteT ?_⟩
    refine ⟨.int lo, rfl, .int i, rfl, lo, i, rfl, rfl, decide (lo ≤ i), rfl, ite2 (fun c => ?_) (fun c => ?_)⟩
    · have c' := of_decide_eq_true c
      refine ⟨.int hi, rfl, i, hi, rfl, rfl, ?_⟩
      have e : decide (i ≤ hi) = decide (lo ≤ i ∧ i ≤ hi) := by simp [c']
      rw [← e] at q
      exact q
    · have c' : ¬ lo ≤ i := fun z => c (decide_eq_true z)
      have e : false = decide (lo ≤ i ∧ i ≤ hi) := by simp [c']
      rw [← e] at q
      exact q
/-! ### is_entry -/
def spEntry : Sp := fun vs H Q _ => ∃ o : Option Int, vs = [match o with | some i => .int i | none => .non] ∧ (∀ i, o = some i → 0 ≤ i ∧ i ≤ 30000000) ∧ Q (.bl true) H
theorem sc23 : FnScope ["value"] ["value"] (defScope (topS 23)) := ⟨rfl, rfl, rfl, by decide +kernel, rfl, by decide +kernel, by decide +kernel⟩
theorem ok_entry (T : Txt K mg) : Def P w K mg base 2 "is_entry" ["value"] spEntry := by
  have GC : Def P w K mg base 1 _ _ _ := ok_count T
  refine def_mk T.f23 sc23 (fun _ _ _ _ _ _ us hl => match us, hl with | [_], _ => rfl) (fun vs H Q E h => ?_) (fun f cdv A outer s H vs Q E hr h => ?_)
  · obtain ⟨o, rfl, _⟩ := h
    rfl
  · obtain ⟨o, rfl, hb, q⟩ := h
    refine ⟨_, pss_one (ps_ret (pe_or (pe_cmpR op_isN (pv 0) pe_non (nomark _)) (pe_one (pe_def GC hr (by decide) (pa_cons (pv 0) (pa_cons pe_int (pa_cons (pe_con1 T.mSum) pa_nil))))))), ?_⟩
    refine ⟨_, rfl, rfl, _, rfl, ?_⟩
    cases o with
    | none => exact iteT q
    | some i =>
      obtain ⟨h1, h2⟩ := hb i rfl
      refine iteF ⟨.int i, rfl, i, 0, 30000000, rfl, ?_⟩
      rw [decide_eq_true (show (0 : Int) ≤ i ∧ i ≤ 30000000 from ⟨h1, h2⟩)]
      exact q
/-! ### are_sizes -/
def spSizesOk : Sp := fun vs H Q _ => ∃ (a : Addr) (ns : List Int), vs = [.ref a] ∧ H a = some (.lst (ns.map V.int)) ∧ 1 ≤ ns.length ∧ ns.length ≤ 30 ∧ (∀ s ∈ ns, 1 ≤ s ∧ s ≤ 1000) ∧ ns.Nodup ∧ ∀ H', Same H H' → Q (.bl true) H'
theorem put_new {acc : List (Key × V)} {s : Int} {v : V} (h : ∀ p ∈ acc, p.1 ≠ Sum.inl s) : putK acc (Sum.inl s) v = acc ++ [(Sum.inl s, v)] := by
  refine putK_new v ?_
  unfold valV
  have e : acc.find? (fun kv => decide (kv.1 = Sum.inl s)) = none := by
    rw [List.find?_eq_none]
    intro p hp
    simp only [decide_eq_true_eq]
    exact h p hp
  rw [e]
  rfl
theorem sc11 : FnScope ["value", "one"] ["value"] (defScope (topS 11)) := ⟨rfl, rfl, rfl, by decide +kernel, rfl, by decide +kernel, by decide +kernel⟩
theorem ok_sizes (T : Txt K mg) : Def P w K mg base 2 "are_sizes" ["value"] spSizesOk := by
  have GC : Def P w K mg base 1 _ _ _ := ok_count T
  refine def_mk T.f11 sc11 (fun _ _ _ _ _ _ us hl => match us, hl with | [_], _ => rfl) (fun vs H Q E h => ?_) (fun f cdv A outer s H vs Q E hr h => ?_)
  · obtain ⟨a, ns, rfl, _⟩ := h
    rfl
  · obtain ⟨a, ns, rfl, hA, l1, l2, hb, nd, q⟩ := h
    refine ⟨_, pss_cons (ps_if (PW.pt (pw_or (pt_not (pt_val (pe_callB call_isiT (by rfl) T.tIsinstance bIsinstance (pa_cons (pv 0) (pa_cons (pe_tup (pa_cons (pe_bltn (by rfl) T.tList bList (v := .ty "list") rfl) (pa_cons (pe_bltn (by rfl) T.tTuple bTuple (v := .ty "tuple") rfl) pa_nil))) pa_nil)))))
        (pw_or1 (pt_not (pt_chain op_le op_le pe_int (pe_callB call_len_seq (by rfl) T.tLen bLen (pa_cons (pv 0) pa_nil)) (pe_con1 T.mSizes)))))) (pss_one (ps_ret pe_bl)) pss_nil)
      (pss_cons (ps_if (pt_not (pt_val (pe_callB (cr_all rfl) (by rfl) T.tAll bAll (pa_cons (pe_lc (own := [("one", 1)]) (g := gName 1) (tt := tYes) (by rfl) sc11.nd (pi_list (pv 0)) (blkOk_by (own := [("one", 1)]) (N := ["value", "one"]) (sc := defScope (topS 11)) (by decide +kernel))
            (fun _ _ _ _ _ => pg_name (i := 1) sc11.nd rfl (Or.inl rfl)) (fun _ _ _ _ _ => pts_nil) (fun _ _ _ _ _ => pe_def GC hr (by decide) (pa_cons (pv 1) (pa_cons pe_int (pa_cons (pe_con1 T.mRoom) pa_nil))))) pa_nil)))) (pss_one (ps_ret pe_bl)) pss_nil)
      (pss_one (ps_ret (pe_cmpR op_eq (pe_callB call_lenD (by rfl) T.tLen bLen (pa_cons (pe_dc (own := [("one", 1)]) (g := gName 1) (tt := tYes) (by rfl) sc11.nd (pi_list (pv 0)) (blkOk_by (own := [("one", 1)]) (N := ["value", "one"]) (sc := defScope (topS 11)) (by decide +kernel))
            (fun _ _ _ _ _ => pg_name (i := 1) sc11.nd rfl (Or.inl rfl)) (fun _ _ _ _ _ => pts_nil) (fun _ _ _ _ _ => pv 1) (fun _ _ _ _ _ => pe_int)) pa_nil))
          (pe_callB call_len_seq (by rfl) T.tLen bLen (pa_cons (pv 0) pa_nil)) (nomark _))))), ?_⟩
    -- not isinstance(value, (list, tuple))
    refine ⟨.ref a, rfl, by show 2 ≤ sizeLine; decide, fun tp ntp => ?_⟩
    have s1 : Same H (upd H tp (.tup [.ty "list", .ty "tuple"])) := same_upd ntp
    refine ⟨.ref a, tp, [.ty "list", .ty "tuple"], .type "list", [.type "list", .type "tuple"], true, rfl, upd_same, .cons (.ty _) (.cons (.ty _) .nil), .base (.lst (s1 _ _ hA)), kitAny_cons (b := true) (kit_ty (by decide +kernel)) (fun z => absurd z (by decide)) (fun _ => rfl), true, rfl, iteF ?_⟩
    -- not 1 <= len(value) <= MOST_SIZES
    refine ⟨.ref a, rfl, a, ns.map V.int, rfl, .inl (.inl (.inl (s1 _ _ hA))), 1, _, rfl, rfl, true, ?_, iteT ⟨_, 30, rfl, rfl, true, ?_, iteF ?_⟩⟩
    · rw [List.length_map]
      exact congrArg V.bl (decide_eq_true (by omega))
    · rw [List.length_map]
      exact congrArg V.bl (decide_eq_true (by omega))
    -- not all([..])
    refine ⟨.ref a, rfl, a, rfl, ⟨_, .inl (.inl (s1 _ _ hA))⟩, fun D new => lcI new (fun s => .bl (decide (1 ≤ s ∧ s ≤ 1000))) (small_line (by omega)) (.inl (.inl (s1 _ _ hA))) (fun i s H2 hs s2 K1 k1 => ⟨rfl, .int s, rfl, s, 1, 1000, rfl, k1 H2 (Same.refl _)⟩) fun H2 s2 e2 => ?_⟩
    refine ⟨D, ns.map fun s => decide (1 ≤ s ∧ s ≤ 1000), rfl, .inl (.inl (by rw [List.map_map]; exact e2)), _, rfl, ?_⟩
    have eall : ((ns.map fun s => decide (1 ≤ s ∧ s ≤ 1000)).all id) = true := by
      rw [List.all_map, List.all_eq_true]
      intro s hs
      exact decide_eq_true (hb s hs)
    rw [eall]
    refine iteF ?_
    have s02 : Same H H2 := s1.trans s2
    -- len({one: 1 for one in value}) == len(value)
    refine ⟨.ref a, rfl, a, rfl, ⟨_, .inl (.inl (s02 _ _ hA))⟩, fun D2 new2 => ?_⟩
    refine ⟨fun i m H3 => m = ns.length - i ∧ i ≤ ns.length ∧ Same H2 H3 ∧ H3 D2 = some (.dK ((ns.take i).map fun s => (Sum.inl s, V.int 1))), ⟨ns.length, rfl, Nat.zero_le _, same_upd new2, upd_same⟩, ?_⟩
    rintro i m H3 ⟨rfl, hi, s3, e3⟩
    have hA3 : SqL K H3 a (ns.map V.int) := .inl (.inl (s3 _ _ (s02 _ _ hA)))
    by_cases hlt : i < ns.length
    · refine .inr ⟨⟨_, V.int ns[i], hA3, by simp [hlt]⟩, fun H4 => Same H2 H4 ∧ H4 D2 = some (.dK ((ns.take (i + 1)).map fun s => (Sum.inl s, V.int 1))), fun H4 h4 => ⟨ns.length - (i + 1), by omega, rfl, hlt, h4.1, h4.2⟩, fun x H4 hy => ?_⟩
      obtain ⟨rfl, fx⟩ := hy
      have ex : x = V.int ns[i] := Option.some.inj ((fx _ hA3).symm.trans (by simp [hlt]))
      subst ex
      refine ⟨rfl, V.int ns[i], rfl, _, Sum.inl ns[i], rfl, e3, ?_, s3.put new2, ?_⟩
      · rw [List.length_map, List.length_take]
        exact small_line (by omega)
      · rw [upd_same, put_new ?_, List.take_add_one, List.getElem?_eq_getElem hlt, List.map_append]
        · rfl
        · intro p hp e
          obtain ⟨s, hs, rfl⟩ := List.mem_map.mp hp
          have e' : s = ns[i] := Sum.inl.inj e
          obtain ⟨j, hj, ej⟩ := List.mem_iff_getElem.mp hs
          rw [List.getElem_take] at ej
          rw [List.length_take] at hj
          have : j = i := (List.getElem_inj nd).mp (ej.trans e')
          omega
    · refine .inl ⟨⟨_, hA3, by rw [List.length_map]; omega⟩, ?_⟩
      have ei : i = ns.length := by omega
      subst ei
      rw [List.take_length] at e3
      refine ⟨D2, _, rfl, e3, .ref a, rfl, a, _, rfl, .inl hA3, rfl, ?_⟩
      rw [List.length_map, List.length_map]
      exact bl_true rfl (q H3 (s02.trans s3))
/-! ### are_weights, check_weights, check_many, in_order -/
/-- a def that only looks at the weights at d -/
def spW (r : V) : Sp := fun vs H Q _ => ∃ (d : Addr) (ps : List (Int × Int)), vs = [.ref d] ∧ H d = some (.dK (kvs ps)) ∧ OkPs ps ∧ ∀ H', Same H H' → Q r H'
theorem keys_of {ps : List (Int × Int)} : ((kvs ps).map fun kv => kV kv.1) = (ps.map (·.1)).map V.int := by
  unfold kvs
  rw [List.map_map, List.map_map]
  rfl
theorem sc12 : FnScope ["value", "size"] ["value"] (defScope (topS 12)) := ⟨rfl, rfl, rfl, by decide +kernel, rfl, by decide +kernel, by decide +kernel⟩
theorem ok_weights (T : Txt K mg) : Def P w K mg base 3 "are_weights" ["value"] (spW (.bl true)) := by
  have GC : Def P w K mg base 1 _ _ _ := ok_count T
  have GS : Def P w K mg base 2 _ _ _ := ok_sizes T
  refine def_mk T.f12 sc12 (fun _ _ _ _ _ _ us hl => match us, hl with | [_], _ => rfl) (fun vs H Q E h => ?_) (fun f cdv A outer s H vs Q E hr h => ?_)
  · obtain ⟨d, ps, rfl, _⟩ := h
    rfl
  · obtain ⟨d, ps, rfl, hd, ok, q⟩ := h
    refine ⟨_, pss_cons (ps_if (PW.pt (pw_or (pt_not (pt_val (pe_callB call_isi (by rfl) T.tIsinstance bIsinstance (pa_cons (pv 0) (pa_cons (pe_bltn (by rfl) T.tDict bDict (v := .ty "dict") rfl) pa_nil)))))
        (pw_or1 (pt_not (pt_val (pe_def GS hr (by decide) (pa_cons (pe_callTy (call_listD rfl) (by rfl) T.tList bList (pa_cons (pv 0) pa_nil)) pa_nil))))))) (pss_one (ps_ret pe_bl)) pss_nil)
      (pss_one (ps_ret (pe_callB (cr_all rfl) (by rfl) T.tAll bAll (pa_cons (pe_lock (pe_lc (own := [("size", 1)]) (g := gName 1) (tt := tYes) (by rfl) sc12.nd (pi_keys (pv 0)) (blkOk_by (own := [("size", 1)]) (N := ["value", "size"]) (sc := defScope (topS 12)) (by decide +kernel))
            (fun _ _ _ _ _ => pg_name (i := 1) sc12.nd rfl (Or.inl rfl)) (fun _ _ _ _ _ => pts_nil) (fun _ _ _ _ _ => pe_def GC hr (by decide) (pa_cons (pe_dget (hu_of hr) (pv 0) (pv 1) (fun _ _ => rfl)) (pa_cons pe_int (pa_cons (pe_con1 T.mWeight) pa_nil)))))) pa_nil)))), ?_⟩
    refine ⟨.ref d, rfl, .ref d, .ty "dict", .type "dict", .type "dict", true, rfl, .ty _, .base (.dK hd), kit_ty (by decide +kernel), true, rfl, iteF ?_⟩
    refine ⟨.ref d, rfl, d, kvs ps, rfl, .inl hd, fun l nl => ?_⟩
    have s1 : Same H (upd H l (.lst ((kvs ps).map fun kv => kV kv.1))) := same_upd nl
    refine ⟨l, ps.map (·.1), rfl, by rw [upd_same, keys_of], by rw [List.length_map]; exact ok.n1, by rw [List.length_map]; exact ok.n2, fun s hs => ?_, ok.nd, fun H2 s2 => ⟨true, rfl, iteF ?_⟩⟩
    · obtain ⟨p, hp, rfl⟩ := List.mem_map.mp hs
      exact ⟨ok.lo p hp, ok.hi p hp⟩
    have s02 := s1.trans s2
    have hd2 := s02 _ _ hd
    refine ⟨d, .dK (kvs ps), hd2, trivial, fun od => ?_⟩
    refine ⟨.ref d, rfl, d, od, rfl, .inl ⟨kvs ps, upd_same, fun D new => ?_⟩⟩
    refine lcK (ks := ps.map (·.1)) new (fun s => .bl (decide (0 ≤ wtOf ps s ∧ wtOf ps s ≤ 1000))) (small_line (by rw [kvs_length]; have := ok.n2; omega)) upd_same (kvs_keys ps) (fun i s H3 hs s3 K1 k1 => ?_) fun H3 s3 e3 => ?_
    · have hl : H3 d = some (.frz od (.dK (kvs ps))) := s3 _ _ upd_same
      refine ⟨rfl, .ref d, rfl, .int s, rfl, d, .int (wtOf ps s), rfl, .inl ⟨kvs ps, Sum.inl s, .inr ⟨od, hl⟩, rfl, (val_kvs (List.mem_of_getElem? hs)).symm⟩, _, 0, 1000, rfl, k1 H3 (Same.refl _)⟩
    · have e4 : H3 d = some (.frz od (.dK (kvs ps))) := s3 _ _ upd_same
      have s4 : Same H (upd H3 d (.dK (kvs ps))) := fun b x e => (Same.unlock hd2 s3) b x (s02 b x e)
      have nD : D ≠ d := fun z => by
        rw [z, upd_same] at new
        cases new
      refine ⟨e4, D, (ps.map (·.1)).map fun s => decide (0 ≤ wtOf ps s ∧ wtOf ps s ≤ 1000), rfl, .inl (.inl (by rw [upd_ne nD, e3, List.map_map (f := fun s => decide (0 ≤ wtOf ps s ∧ wtOf ps s ≤ 1000))]; rfl)), ?_⟩
      have eall : (((ps.map (·.1)).map fun s => decide (0 ≤ wtOf ps s ∧ wtOf ps s ≤ 1000)).all id) = true := by
        rw [List.all_map, List.all_eq_true]
        intro s _
        exact decide_eq_true (wt_bounds ok s)
      rw [eall]
      exact q _ s4
theorem sc13 : FnScope ["value"] ["value"] (defScope (topS 13)) := ⟨rfl, rfl, rfl, by decide +kernel, rfl, by decide +kernel, by decide +kernel⟩
theorem ok_check_weights (T : Txt K mg) : Def P w K mg base 4 "check_weights" ["value"] (spW .non) := by
  have GW : Def P w K mg base 3 _ _ _ := ok_weights T
  refine def_mk T.f13 sc13 (fun _ _ _ _ _ _ us hl => match us, hl with | [_], _ => rfl) (fun vs H Q E h => ?_) (fun f cdv A outer s H vs Q E hr h => ?_)
  · obtain ⟨d, ps, rfl, _⟩ := h
    rfl
  · obtain ⟨d, ps, rfl, hd, ok, q⟩ := h
    refine ⟨_, pss_one (ps_if (pt_not (pt_val (pe_def GW hr (by decide) (pa_cons (pv 0) pa_nil)))) (pss_one ps_never) pss_nil), ?_⟩
    exact ⟨.ref d, rfl, d, ps, rfl, hd, ok, fun H' s1 => ⟨true, rfl, iteF (q H' s1)⟩⟩
def spMany : Sp := fun vs H Q _ => ∃ n : Int, vs = [.int n] ∧ 1 ≤ n ∧ n ≤ 8 ∧ Q .non H
theorem sc14 : FnScope ["many"] ["many"] (defScope (topS 14)) := ⟨rfl, rfl, rfl, by decide +kernel, rfl, by decide +kernel, by decide +kernel⟩
theorem ok_check_many (T : Txt K mg) : Def P w K mg base 2 "check_many" ["many"] spMany := by
  have GC : Def P w K mg base 1 _ _ _ := ok_count T
  refine def_mk T.f14 sc14 (fun _ _ _ _ _ _ us hl => match us, hl with | [_], _ => rfl) (fun vs H Q E h => ?_) (fun f cdv A outer s H vs Q E hr h => ?_)
  · obtain ⟨n, rfl, _⟩ := h
    rfl
  · obtain ⟨n, rfl, h1, h2, q⟩ := h
    refine ⟨_, pss_one (ps_if (pt_not (pt_val (pe_def GC hr (by decide) (pa_cons (pv 0) (pa_cons pe_int (pa_cons (pe_con1 T.mBounds) pa_nil)))))) (pss_one ps_never) pss_nil), ?_⟩
    refine ⟨.int n, rfl, n, 1, 8, rfl, true, congrArg V.bl (decide_eq_true ⟨h1, h2⟩), iteF q⟩
/-- the sizes of the weights at d, ascending -/
def spOrder : Sp := fun vs H Q _ => ∃ (d : Addr) (ps : List (Int × Int)), vs = [.ref d] ∧ H d = some (.dK (kvs ps)) ∧ ps.length ≤ 30 ∧ ∀ H' p, Same H H' → H p = none → H' p = some (.lst ((srt (ps.map (·.1))).map V.int)) → Q (.ref p) H'
/-- sorted([int(x) for x in d]) -/
theorem sc15 : FnScope ["sizes", "size"] ["sizes"] (defScope (topS 15)) := ⟨rfl, rfl, rfl, by decide +kernel, rfl, by decide +kernel, by decide +kernel⟩
theorem ok_order (T : Txt K mg) : Def P w K mg base 1 "in_order" ["sizes"] spOrder := by
  refine def_mk T.f15 sc15 (fun _ _ _ _ _ _ us hl => match us, hl with | [_], _ => rfl) (fun vs H Q E h => ?_) (fun f cdv A outer s H vs Q E hr h => ?_)
  · obtain ⟨d, ps, rfl, _⟩ := h
    rfl
  · obtain ⟨d, ps, rfl, hd, hlen, q⟩ := h
    refine ⟨_, pss_one (ps_ret (pe_callB cr_sorted (by rfl) T.tSorted bSorted (pa_cons (pe_lock (pe_lc (own := [("size", 1)]) (g := gName 1) (tt := tYes) (by rfl) sc15.nd (pi_keys (pv 0)) (blkOk_by (own := [("size", 1)]) (N := ["sizes", "size"]) (sc := defScope (topS 15)) (by decide +kernel))
            (fun _ _ _ _ _ => pg_name (i := 1) sc15.nd rfl (Or.inl rfl)) (fun _ _ _ _ _ => pts_nil) (fun _ _ _ _ _ => pe_callTy call_int1 (by rfl) T.tInt bInt (pa_cons (pv 1) pa_nil)))) pa_nil))), ?_⟩
    refine ⟨d, .dK (kvs ps), hd, trivial, fun od => ?_⟩
    refine ⟨.ref d, rfl, d, od, rfl, .inl ⟨kvs ps, upd_same, fun D new => ?_⟩⟩
    refine lcK (ks := ps.map (·.1)) new (fun s => .int s) (small_line (by rw [kvs_length]; omega)) upd_same (kvs_keys ps) (fun i s H3 hs s3 K1 k1 => ?_) fun H3 s3 e3 => ?_
    · exact ⟨rfl, .int s, rfl, .inl ⟨s, rfl, k1 H3 (Same.refl _)⟩⟩
    · have e4 : H3 d = some (.frz od (.dK (kvs ps))) := s3 _ _ upd_same
      have s4 : Same H (upd H3 d (.dK (kvs ps))) := Same.unlock hd s3
      have nD : D ≠ d := fun z => by
        rw [z, upd_same] at new
        cases new
      refine ⟨e4, D, ps.map (·.1), rfl, .inl (.inl (by rw [upd_ne nD, e3])), by rw [List.length_map]; omega, fun ns p perm rising np => ?_⟩
      have e : ns = srt (ps.map (·.1)) := srt_unique perm rising
      subst e
      exact q _ p (s4.put (s4.free np)) (s4.free np) upd_same
end
end K67

/-! run_sums, least_entry, table_of, sum_table, least_sum -/
namespace K67
open PySem PySem.Spec PyProof.Rows L2
/-- the row of sizes of weights -/
def rowOf (ps : List (Int × Int)) : List Int := srt (ps.map (·.1))
theorem rowOf_len (ps : List (Int × Int)) : (rowOf ps).length = ps.length := (srt_length _).trans (List.length_map _)
theorem rowOf_mem {ps : List (Int × Int)} {s : Int} : s ∈ rowOf ps ↔ s ∈ ps.map (·.1) := (srt_perm _).mem_iff
/-- the dict of the runs' sums -/
def RunsAt (H : Hp) (p : Addr) (row : List Int) (wt : Int → Int) : Prop := ∃ kv : List (List Key × V), H p = some (.dT kv) ∧ ∀ h i : Nat, h < i → i ≤ row.length → valV kv [Sum.inl (h : Int), Sum.inl (i : Int)] = some (.int (runW row wt h i))
section
variable {P : Program} {w : World} {K : PySem.W.Frag} {mg : Str → Option Value} {base : Heap}
def spRuns : Sp := fun vs H Q _ => ∃ (d : Addr) (ps : List (Int × Int)), vs = [.ref d] ∧ H d = some (.dK (kvs ps)) ∧ OkPs ps ∧ ∀ H' p, Same H H' → H p = none → RunsAt H' p (rowOf ps) (wtOf ps) → Q (.ref p) H'
theorem key_ne {a b c d : Int} (h : ¬ (a = c ∧ b = d)) : ¬ ([Sum.inl a, Sum.inl b] : List Key) = [Sum.inl c, Sum.inl d] := fun e => by
  injection e with e1 e2
  injection e2 with e3 e4
  exact h ⟨Sum.inl.inj e1, Sum.inl.inj e3⟩
theorem sc18 : FnScope ["weights", "row", "found", "number", "bound", "ahead", "size"] ["weights"] (defScope (topS 18)) := ⟨rfl, rfl, rfl, by decide +kernel, rfl, by decide +kernel, by decide +kernel⟩
theorem ok_runs (T : Txt K mg) : Def P w K mg base 2 "run_sums" ["weights"] spRuns := by
  have GO : Def P w K mg base 1 _ _ _ := ok_order T
  refine def_mk T.f18 sc18 (fun _ _ _ _ _ _ us hl => match us, hl with | [_], _ => rfl) (fun vs H Q E h => ?_) (fun f cdv A outer s H vs Q E hr h => ?_)
  · obtain ⟨d, ps, rfl, _⟩ := h
    rfl
  · obtain ⟨d, ps, rfl, hd, ok, q⟩ := h
    refine ⟨_, pss_cons (ps_set (i := 1) sc18.nd rfl (.inl rfl) (pe_def GO hr (by decide) (pa_cons (pv 0) pa_nil)))
      (pss_cons (ps_set (i := 2) sc18.nd rfl (.inl rfl) pe_dnewT)
      (pss_cons (ps_for PassesOwn.never rfl (pi_range2 (by rfl) T.tRange (pa_cons pe_int (pa_cons (pe_op op_add (pe_callB call_len_seq (by rfl) T.tLen bLen (pa_cons (pv 1) pa_nil)) pe_int) pa_nil))) (pg_name (i := 3) sc18.nd rfl (.inl rfl))
        (pss_cons (ps_set (i := 4) sc18.nd rfl (.inr rfl) (pe_ix ix_list (pv 1) (pe_op op_sub (pv 3) pe_int) (fun _ _ => rfl)))
        (pss_one (ps_for PassesOwn.never rfl (pi_range1 (by rfl) T.tRange (pa_cons (pv 3) pa_nil)) (pg_name (i := 5) sc18.nd rfl (.inl rfl))
          (pss_one (ps_dput (hu_of hr) (pv 2) (pe_tup (pa_cons (pv 5) (pa_cons (pv 3) pa_nil))) (pe_callB (cr_sum rfl) (by rfl) T.tSum bSum (pa_cons (pe_lc (own := [("size", 6)]) (g := gName 6) (tt := tYes) (by rfl) sc18.nd (pi_list (pe_slice sl_list (pv 1) (po_some (pv 5)) (po_some (pv 3)))) (blkOk_by (own := [("size", 6)]) (N := ["weights", "row", "found", "number", "bound", "ahead", "size"]) (sc := defScope (topS 18)) (by decide +kernel))
              (fun _ _ _ _ _ => pg_name (i := 6) sc18.nd rfl (Or.inl rfl)) (fun _ _ _ _ _ => pts_nil) (fun _ _ _ _ _ => pe_callTy call_int1 (by rfl) T.tInt bInt (pa_cons (pe_op op_mul (pe_dget (hu_of hr) (pv 0) (pv 6) (fun _ _ => rfl)) (pe_op op_sub (pv 4) (pv 6))) pa_nil))) pa_nil)) rfl))))))
      (pss_one (ps_ret (pv 2))))), ?_⟩
    have n2 := ok.n2
    -- row = in_order(weights); found = {}
    refine ⟨.ref d, rfl, d, ps, rfl, hd, ok.n2, fun H1 r s1 nr hr1 => ?_⟩
    refine fun fd nf1 => ?_
    have hlen : (rowOf ps).length ≤ 30 := by rw [rowOf_len]; omega
    have nf : H fd = none := s1.free nf1
    have nfr : fd ≠ r := (ne_of_none hr1 nf1).symm
    -- for number in range(1, len(row) + 1)
    refine ⟨.ref r, rfl, r, _, rfl, .inl (.inl (.inl ((same_upd nf1) _ _ hr1))), _, 1, rfl, rfl, 1, _, rfl, ⟨by decide, by decide, ?_, ?_⟩, ?_⟩
    · rw [List.length_map]; show -(2 ^ 62) ≤ ((rowOf ps).length : Int) + 1; omega
    · rw [List.length_map]; show ((rowOf ps).length : Int) + 1 < 2 ^ 62; omega
    refine forR (n := (rowOf ps).length) ?_ (fun i σ H' => ∃ y3 y4 y5 kv, σ = [some (.ref d), some (.ref r), some (.ref fd), y3, y4, y5, none] ∧ Same H H' ∧ H' r = some (.lst ((rowOf ps).map V.int)) ∧ H' fd = some (.dT kv) ∧ kv.length ≤ 40 * i ∧
      ∀ h j : Nat, h < j → j ≤ i → valV kv [Sum.inl (h : Int), Sum.inl (j : Int)] = some (.int (runW (rowOf ps) (wtOf ps) h j))) ⟨none, none, none, [], rfl, s1.put nf, ?_, upd_same, Nat.zero_le _, fun h j h1 h2 => absurd h2 (by omega)⟩ ?_ ?_
    · rw [List.length_map]; show (((rowOf ps).length : Int) + 1 - 1).toNat = _; omega
    · exact (same_upd nf1) _ _ hr1
    · rintro i σ H2 hi ⟨y3, y4, y5, kv, rfl, s2, hr2, hf2, hl2, hv2⟩
      -- bound = row[number - 1]
      refine ⟨.ref r, rfl, .int (1 + (i : Int)), rfl, _, 1, rfl, rfl, r, _, _, .int ((rowOf ps).getD i 0), rfl, rfl, .inl (.inl hr2), at_ints hi (by omega), ?_⟩
      -- for ahead in range(number)
      refine ⟨_, rfl, _, rfl, by omega, by omega, ?_⟩
      refine forR (n := i + 1) (by omega) (fun j σ H' => ∃ y5 kv, σ = [some (.ref d), some (.ref r), some (.ref fd), some (.int (1 + (i : Int))), some (.int ((rowOf ps).getD i 0)), y5, none] ∧ Same H H' ∧ H' r = some (.lst ((rowOf ps).map V.int)) ∧ H' fd = some (.dT kv) ∧ kv.length ≤ 40 * i + j ∧
        (∀ h j : Nat, h < j → j ≤ i → valV kv [Sum.inl (h : Int), Sum.inl (j : Int)] = some (.int (runW (rowOf ps) (wtOf ps) h j))) ∧
        ∀ h : Nat, h < j → valV kv [Sum.inl (h : Int), Sum.inl ((i + 1 : Nat) : Int)] = some (.int (runW (rowOf ps) (wtOf ps) h (i + 1)))) ⟨y5, kv, rfl, s2, hr2, hf2, hl2, hv2, fun h h1 => absurd h1 (by omega)⟩ ?_ ?_
      · rintro j σ H3 hj ⟨y5, kv, rfl, s3, hr3, hf3, hl3, hv3, hw3⟩
        -- sum([int(weights[size] * (bound - size)) for size in row[ahead:number]])
        refine ⟨.ref r, rfl, .int (0 + (j : Int)), rfl, _, rfl, .int (1 + (i : Int)), rfl, _, rfl, r, _, rfl, .inl (.inl hr3), fun c nc => ?_⟩
        have ecut : cutV ((rowOf ps).map V.int) (some (0 + (j : Int))) (some (1 + (i : Int))) = (((rowOf ps).drop j).take (i + 1 - j)).map V.int := by
          have e1 : (0 + (j : Int)) = ((j : Nat) : Int) := by omega
          have e2 : (1 + (i : Int)) = ((i + 1 : Nat) : Int) := by omega
          rw [e1, e2, cut_ints _ (by omega) (by omega)]
        have hc : (upd H3 c (.lst (cutV ((rowOf ps).map V.int) (some (0 + (j : Int))) (some (1 + (i : Int)))))) c = some (.lst ((((rowOf ps).drop j).take (i + 1 - j)).map V.int)) := by rw [upd_same, ecut]
        have s4 := (same_upd (o := .lst (cutV ((rowOf ps).map V.int) (some (0 + (j : Int))) (some (1 + (i : Int))))) nc)
        refine ⟨c, rfl, ⟨_, .inl (.inl hc)⟩, fun D new => lcI (ns := ((rowOf ps).drop j).take (i + 1 - j)) new (fun z => .int (wtOf ps z * ((rowOf ps).getD i 0 - z))) (small_line (by rw [List.length_take]; omega)) (.inl (.inl hc)) (fun m z H5 hz s5 K1 k1 => ?_) fun H5 s5 e5 => ?_⟩
        · have hd5 : H5 d = some (.dK (kvs ps)) := s5 _ _ (s4 _ _ (s3 _ _ hd))
          have mz : z ∈ ps.map (·.1) := rowOf_mem.mp (List.mem_of_mem_drop (List.mem_of_mem_take (List.mem_of_getElem? hz)))
          have bz := wt_bounds ok z
          exact ⟨rfl, .ref d, rfl, .int z, rfl, d, .int (wtOf ps z), rfl, .inl ⟨kvs ps, Sum.inl z, .inl hd5, rfl, (val_kvs mz).symm⟩, .int ((rowOf ps).getD i 0), rfl, .int z, rfl, _, z, rfl, rfl, wtOf ps z, _, rfl, rfl, .inl ⟨by omega, by omega⟩, .inl ⟨_, rfl, k1 H5 (Same.refl _)⟩⟩
        · refine ⟨D, (((rowOf ps).drop j).take (i + 1 - j)).map fun z => wtOf ps z * ((rowOf ps).getD i 0 - z), rfl, .inl (.inl (by rw [e5, List.map_map (f := fun z => wtOf ps z * ((rowOf ps).getD i 0 - z))]; rfl)), ?_⟩
          have s6 : Same H3 H5 := s4.trans s5
          -- found[ahead, number] = ..
          refine ⟨.ref fd, rfl, .int (0 + (j : Int)), rfl, .int (1 + (i : Int)), rfl, by show 2 ≤ sizeLine; decide, fun t nt => ?_⟩
          have s7 := s6.trans (same_upd (o := .tup [.int (0 + (j : Int)), .int (1 + (i : Int))]) nt)
          have e1 : (0 + (j : Int)) = ((j : Nat) : Int) := by omega
          have e2 : (1 + (i : Int)) = ((i + 1 : Nat) : Int) := by omega
          have et : (upd H5 t (.tup [.int (0 + (j : Int)), .int (1 + (i : Int))])) t = some (.tup (([Sum.inl (j : Int), Sum.inl ((i + 1 : Nat) : Int)] : List Key).map kV)) := by
            rw [upd_same, e1, e2]
            rfl
          refine ⟨fd, _, rfl, DPut.t (s7 _ _ hf3) et (small_line (by omega)), ?_⟩
          have ltk := length_putK kv ([Sum.inl (j : Int), Sum.inl ((i + 1 : Nat) : Int)] : List Key) (.int (((((rowOf ps).drop j).take (i + 1 - j)).map fun z => wtOf ps z * ((rowOf ps).getD i 0 - z)).sum))
          refine ⟨_, _, rfl, (s3.trans s7).put nf, ?_, upd_same, by omega, fun h k h1 h2 => ?_, fun h h1 => ?_⟩
          · rw [upd_ne nfr.symm]
            exact s7 _ _ hr3
          · rw [valV_put, if_neg (key_ne (by omega))]
            exact hv3 h k h1 h2
          · rw [valV_put]
            by_cases hh : h = j
            · subst hh
              rw [if_pos rfl]
              rfl
            · rw [if_neg (key_ne (by omega))]
              exact hw3 h (by omega)
      · rintro σ H3 ⟨y5, kv, rfl, s3, hr3, hf3, hl3, hv3, hw3⟩
        refine ⟨_, _, _, kv, rfl, s3, hr3, hf3, by omega, fun h j h1 h2 => ?_⟩
        by_cases hj : j ≤ i
        · exact hv3 h j h1 hj
        · have ej : j = i + 1 := by omega
          subst ej
          exact hw3 h (by omega)
    · rintro σ H2 ⟨y3, y4, y5, kv, rfl, s2, hr2, hf2, hl2, hv2⟩
      exact ⟨.ref fd, rfl, q H2 fd s2 nf ⟨kv, hf2, hv2⟩⟩
/-! ### least_entry -/
/-- column k of the first i rows is the law's -/
def ColIs (T : List Row) (row : List Int) (wt : Int → Int) (k i : Nat) : Prop := ∀ h, h < i → ∃ r : Row, T[h]? = some r ∧ r[k]? = some (colW row wt k h)
def spLeast : Sp := fun vs H Q _ => ∃ (t rn : Addr) (i k : Nat) (T : List Row) (row : List Int) (wt : Int → Int), vs = [.ref t, .ref rn, .int (i : Int), .int ((k + 1 : Nat) : Int)] ∧ 1 ≤ i ∧ i ≤ row.length ∧ i ≤ 1000 ∧
  TabAt H t T ∧ ColIs T row wt k i ∧ RunsAt H rn row wt ∧ ∀ H', Same H H' → Q (oV (colW row wt (k + 1) i)) H'
theorem RunsAt.same {H H' : Hp} (s : Same H H') {p : Addr} {row : List Int} {wt : Int → Int} (h : RunsAt H p row wt) : RunsAt H' p row wt := let ⟨kv, a, b⟩ := h; ⟨kv, s _ _ a, b⟩
theorem sc19 : FnScope ["table", "runs", "number", "many", "sums", "ahead", "one"] ["table", "runs", "number", "many"] (defScope (topS 19)) := ⟨rfl, rfl, rfl, by decide +kernel, rfl, by decide +kernel, by decide +kernel⟩
theorem ok_least (T : Txt K mg) : Def P w K mg base 1 "least_entry" ["table", "runs", "number", "many"] spLeast := by
  refine def_mk T.f19 sc19 (fun _ _ _ _ _ _ us hl => match us, hl with | [_, _, _, _], _ => rfl) (fun vs H Q E h => ?_) (fun f cdv A outer s H vs Q E hr h => ?_)
  · obtain ⟨t, rn, i, k, TT, row, wt, rfl, _⟩ := h
    rfl
  · obtain ⟨t, rn, i, k, TT, row, wt, rfl, i1, i2, i3, hT, hC, hR, q⟩ := h
    refine ⟨_, pss_cons (ps_setLc (i := 4) (own := [("ahead", 5)]) (g := gName 5) (by rfl) sc19.nd rfl rfl (sw_true rfl rfl rfl (by decide +kernel)) (pi_range1 (by rfl) T.tRange (pa_cons (pv 2) pa_nil)) (blkOk_by (own := [("ahead", 5)]) (N := ["table", "runs", "number", "many", "sums", "ahead", "one"]) (sc := defScope (topS 19)) (by decide +kernel))
          (fun _ _ _ _ _ => pg_name (i := 5) sc19.nd rfl (Or.inl rfl))
          (fun _ _ _ _ _ => pts_one (pt_cmpR op_notN (pe_at K (pe_at K (pv 0) (pv 5)) (pe_op op_sub (pv 3) pe_int)) pe_non (nomark _)))
          (fun _ _ _ _ _ => pe_op op_add (pe_at K (pe_at K (pv 0) (pv 5)) (pe_op op_sub (pv 3) pe_int)) (pe_dget (hu_of hr) (pv 1) (pe_tup (pa_cons (pv 5) (pa_cons (pv 2) pa_nil))) (fun _ _ => rfl))))
      (pss_one (ps_ret (pe_ifExp (pt_cmpR (op_eqD hr.units) (pv 4) (pe_lst pa_nil) (nomark _)) pe_non (pe_callB (cr_min rfl) (by rfl) T.tMin bMin (pa_cons (pe_lc (own := [("one", 6)]) (g := gName 6) (tt := tYes) (by rfl) sc19.nd (pi_list (pv 4)) (blkOk_by (own := [("one", 6)]) (N := ["table", "runs", "number", "many", "sums", "ahead", "one"]) (sc := defScope (topS 19)) (by decide +kernel))
            (fun _ _ _ _ _ => pg_name (i := 6) sc19.nd rfl (Or.inl rfl)) (fun _ _ _ _ _ => pts_nil) (fun _ _ _ _ _ => pe_callTy call_int1 (by rfl) T.tInt bInt (pa_cons (pv 6) pa_nil))) pa_nil))))), ?_⟩
    obtain ⟨qs, hT1, hT2⟩ := hT
    -- sums = [.. for ahead in range(number) if ..]
    refine ⟨_, rfl, _, rfl, by omega, by omega, fun D new => ?_⟩
    refine lcR (n := (i : Int).toNat) (lo := 0) new (fun h => (colW row wt k h).isSome) (fun h => .int ((colW row wt k h).getD 0 + runW row wt h i)) (small_line (by omega)) (fun h H2 hh s2 K1 K0 k1 k0 => ?_) fun H2 s2 e2 => ?_
    · have hh' : h < i := by omega
      obtain ⟨r, r1, r2⟩ := hC h hh'
      obtain ⟨qa, q1, q2⟩ := hT2.row r1
      have a1 : atI (qs.map V.ref) (0 + (h : Int)) = some (.ref qa) := at_of (by omega) q1
      have a2 : atI (r.map oV) (((k + 1 : Nat) : Int) - 1) = some (oV (colW row wt k h)) := at_of (by omega) (cell_at r2)
      have t1 : H2 t = some (.lst (qs.map V.ref)) := s2 _ _ hT1
      have t2 : H2 qa = some (.lst (r.map oV)) := s2 _ _ q2
      refine ⟨rfl, .ref t, rfl, .int (0 + (h : Int)), rfl, t, _, _, _, rfl, rfl, .inl (.inl t1), a1, .int ((k + 1 : Nat) : Int), rfl, _, 1, rfl, rfl, qa, _, _, _, rfl, rfl, .inl (.inl t2), a2, rfl, _, rfl, ?_⟩
      cases e : colW row wt k h with
      | none => exact k0 (by rw [e]; rfl) H2 (Same.refl _)
      | some z =>
        rw [e] at a2 k1
        refine ⟨.ref t, rfl, .int (0 + (h : Int)), rfl, t, _, _, _, rfl, rfl, .inl (.inl t1), a1, .int ((k + 1 : Nat) : Int), rfl, _, 1, rfl, rfl, qa, _, _, _, rfl, rfl, .inl (.inl t2), a2, .ref rn, rfl, .int (0 + (h : Int)), rfl, .int (i : Int), rfl, by show 2 ≤ sizeLine; decide, fun tp ntp => ?_⟩
        obtain ⟨kv, v1, v2⟩ := hR.same s2
        have s3 := same_upd (o := .tup [.int (0 + (h : Int)), .int (i : Int)]) ntp
        have e1 : (0 + (h : Int)) = ((h : Nat) : Int) := by omega
        have et : (upd H2 tp (.tup [.int (0 + (h : Int)), .int (i : Int)])) tp = some (.tup (([Sum.inl (h : Int), Sum.inl (i : Int)] : List Key).map kV)) := by
          rw [upd_same, e1]
          rfl
        refine ⟨rn, .int (runW row wt h i), rfl, ?_, z, runW row wt h i, rfl, rfl, k1 rfl _ s3⟩
        have g := DGet.t (s3 _ _ v1) et
        rw [v2 h i hh' i2] at g
        exact g
    · have e3 : H2 D = some (.lst ((opts row wt (colW row wt k) i).map V.int)) := by
        rw [e2, Int.toNat_natCast, opts_list]
      have ec := colW_opts row wt k i i1
      generalize opts row wt (colW row wt k) i = ns at e3 ec
      -- None if sums == [] else min(..)
      refine ⟨.ref D, rfl, Nat.zero_le _, fun D2 new2 => ?_⟩
      have s3 := same_upd (o := .lst []) new2
      have nDD : D ≠ D2 := ne_of_none e3 new2
      refine ⟨dInts ns, dInts [], dp_ints (s3 _ _ e3), dp_ints upd_same, shaped_ints _, shaped_ints _, _, rfl, ?_⟩
      rw [eqv_nil]
      cases ns with
      | nil =>
        rw [show colW row wt (k + 1) i = none from ec] at q
        exact q _ (s2.trans s3)
      | cons x l =>
        refine iteF ?_
        have hlen : (x :: l).length ≤ i := by
          have h1 := congrArg (fun o => match o with | some (HO.lst xs) => xs.length | _ => 0) (e2.symm.trans e3)
          have h2 : (((List.range (i : Int).toNat).filter fun h => (colW row wt k h).isSome).map fun h => V.int ((colW row wt k h).getD 0 + runW row wt h i)).length = ((x :: l).map V.int).length := h1
          rw [List.length_map, List.length_map] at h2
          have h3 := List.length_filter_le (fun h => (colW row wt k h).isSome) (List.range (i : Int).toNat)
          rw [List.length_range] at h3
          omega
        refine ⟨.ref D, rfl, D, rfl, ⟨_, .inl (.inl (s3 _ _ e3))⟩, fun D3 new3 => lcI (ns := x :: l) new3 (fun z => .int z) (small_line (by omega)) (.inl (.inl (s3 _ _ e3))) (fun m z H5 hz s5 K1 k1 => ⟨rfl, .int z, rfl, .inl ⟨z, rfl, k1 H5 (Same.refl _)⟩⟩) fun H5 s5 e5 => ?_⟩
        refine ⟨D3, x :: l, rfl, .inl (.inl e5), Nat.succ_pos _, fun m hm hle => ?_⟩
        rw [show colW row wt (k + 1) i = some m from ec.trans (min_of hm hle)] at q
        exact q H5 ((s2.trans s3).trans s5)
end
end K67

/-! table_of, sum_table, least_sum -/
namespace K67
open PySem PySem.Spec PyProof.Rows L2
theorem at_back {xs : List V} {v : V} (h : xs[xs.length - 1]? = some v) : atI xs (-1) = some v := by
  have hl : 0 < xs.length := by
    cases xs with
    | nil => cases h
    | cons _ _ => exact Nat.succ_pos _
  unfold atI ixN
  rw [if_neg (by decide), if_pos (by omega)]
  show xs[((-1 : Int) + xs.length).toNat]? = some v
  rw [show ((-1 : Int) + xs.length).toNat = xs.length - 1 by omega]
  exact h
theorem rep_flat (v : V) : ∀ k : Nat, (List.replicate k [v]).flatten = List.replicate k v
  | 0 => rfl
  | k + 1 => by
    rw [List.replicate_succ, List.flatten_cons, rep_flat v k, List.replicate_succ]
    rfl
theorem row_zero (row : List Int) (wt : Int → Int) (n : Nat) : (tabRow row wt n 0).map oV = List.replicate (n + 1) (V.int 0) := by
  unfold tabRow
  rw [List.map_map]
  apply List.ext_getElem
  · simp
  · intro i h1 h2
    simp only [List.getElem_map, List.getElem_range, List.getElem_replicate, Function.comp]
    rw [colW_zero]
    rfl
/-- the first m cells of a row -/
theorem cells_succ (row : List Int) (wt : Int → Int) (i m : Nat) : ((List.range (m + 1)).map fun k => colW row wt k i).map oV = ((List.range m).map fun k => colW row wt k i).map oV ++ [oV (colW row wt m i)] := by
  rw [List.range_succ, List.map_append, List.map_append]
  rfl
section
variable {P : Program} {w : World} {K : PySem.W.Frag} {mg : Str → Option Value} {base : Heap}
/-- a def that hands back the table of the weights at d by n bounds -/
def spTab : Sp := fun vs H Q _ => ∃ (d : Addr) (ps : List (Int × Int)) (n : Nat), vs = [.ref d, .int (n : Int)] ∧ H d = some (.dK (kvs ps)) ∧ OkPs ps ∧ 1 ≤ n ∧ n ≤ 8 ∧
  ∀ H' t, Same H H' → NewTab H H' t (tabW (rowOf ps) (wtOf ps) n (ps.length + 1)) → Q (.ref t) H'
theorem sc20 : FnScope ["weights", "many", "runs", "table", "number", "row", "bounds"] ["weights", "many"] (defScope (topS 20)) := ⟨rfl, rfl, rfl, by decide +kernel, rfl, by decide +kernel, by decide +kernel⟩
theorem ok_table (T : Txt K mg) : Def P w K mg base 3 "table_of" ["weights", "many"] spTab := by
  have GR : Def P w K mg base 2 _ _ _ := ok_runs T
  have GL : Def P w K mg base 1 _ _ _ := ok_least T
  refine def_mk T.f20 sc20 (fun _ _ _ _ _ _ us hl => match us, hl with | [_, _], _ => rfl) (fun vs H Q E h => ?_) (fun f cdv A outer s H vs Q E hr h => ?_)
  · obtain ⟨d, ps, n, rfl, _⟩ := h
    rfl
  · obtain ⟨d, ps, n, rfl, hd, ok, n1, n8, q⟩ := h
    refine ⟨_, pss_cons (ps_set (i := 2) sc20.nd rfl (.inl rfl) (pe_def GR hr (by decide) (pa_cons (pv 0) pa_nil)))
      (pss_cons (ps_set (i := 3) sc20.nd rfl (.inl rfl) (pe_lst (pa_cons (pe_op op_rep (pe_lst (pa_cons pe_int pa_nil)) (pe_op op_add (pv 1) pe_int)) pa_nil)))
      (pss_cons (ps_for PassesOwn.never rfl (pi_range2 (by rfl) T.tRange (pa_cons pe_int (pa_cons (pe_op op_add (pe_callB call_lenD (by rfl) T.tLen bLen (pa_cons (pv 0) pa_nil)) pe_int) pa_nil))) (pg_name (i := 4) sc20.nd rfl (.inl rfl))
        (pss_cons (ps_set (i := 5) sc20.nd rfl (.inl rfl) (pe_lst (pa_cons pe_non pa_nil)))
        (pss_cons (ps_for PassesOwn.never rfl (pi_range2 (by rfl) T.tRange (pa_cons pe_int (pa_cons (pe_op op_add (pv 1) pe_int) pa_nil))) (pg_name (i := 6) sc20.nd rfl (.inl rfl))
          (pss_one (ps_expr (pe_bm PySem.F.plainAttrs_list PySem.F.slot_list_append PySem.F.type_list_append mt_append (pv 5) (pa_cons (pe_def GL hr (by decide) (pa_cons (pv 3) (pa_cons (pv 2) (pa_cons (pv 4) (pa_cons (pv 6) pa_nil))))) pa_nil)))))
        (pss_one (ps_expr (pe_bm PySem.F.plainAttrs_list PySem.F.slot_list_append PySem.F.type_list_append mt_append (pv 3) (pa_cons (pv 5) pa_nil)))))))
      (pss_one (ps_ret (pv 3))))), ?_⟩
    have n2 := ok.n2
    have hrl := rowOf_len ps
    generalize hrow : rowOf ps = row at *
    generalize hwt : wtOf ps = wt at *
    -- runs = run_sums(weights)
    refine ⟨.ref d, rfl, d, ps, rfl, hd, ok, fun H1 rn s1 nrn hR1 => ?_⟩
    rw [hrow, hwt] at hR1
    -- table = [[0] * (many + 1)]
    refine ⟨by show 1 ≤ sizeLine; decide, fun a na => ⟨.int (n : Int), rfl, (n : Int), 1, rfl, rfl, a, _, _, rfl, rfl, upd_same, by omega, by omega, ?_, fun z nz => ⟨by show 1 ≤ sizeLine; decide, fun t nt => ?_⟩⟩⟩
    · exact Nat.le_of_lt (small_line (by rw [List.length_singleton]; omega))
    have s2 := same_upd (o := .lst [.int 0]) na
    have s3 := s2.trans (same_upd (o := .lst (List.replicate ((n : Int) + 1).toNat [V.int 0]).flatten) nz)
    have s4 := s3.trans (same_upd (o := .lst [.ref z]) nt)
    have s5 := s1.trans s4
    have nt0 : H t = none := (s1.trans s3).free nt
    have nz0 : H z = none := (s1.trans s2).free nz
    have nzt : z ≠ t := ne_of_none upd_same nt
    have ez : (List.replicate ((n : Int) + 1).toNat [V.int 0]).flatten = (tabRow row wt n 0).map oV := by
      rw [row_zero, rep_flat]
      congr 1
    rw [ez] at s4 s5 nt ⊢
    -- for number in range(1, len(weights) + 1)
    refine ⟨.ref d, rfl, d, _, rfl, s5 _ _ hd, _, 1, rfl, rfl, 1, _, rfl, ⟨by decide, by decide, ?_, ?_⟩, ?_⟩
    · rw [kvs_length]; show -(2 ^ 62) ≤ (ps.length : Int) + 1; omega
    · rw [kvs_length]; show (ps.length : Int) + 1 < 2 ^ 62; omega
    refine forR (n := ps.length) ?_ (fun i σ H' => ∃ y4 y5 y6 qs, σ = [some (.ref d), some (.int (n : Int)), some (.ref rn), some (.ref t), y4, y5, y6] ∧ Same H H' ∧ RunsAt H' rn row wt ∧ H' t = some (.lst (qs.map V.ref)) ∧ RowsAt H' qs (tabW row wt n (i + 1)) ∧ ∀ q ∈ qs, H q = none ∧ q ≠ t)
      ⟨none, none, none, [z], rfl, s5, hR1.same s4, upd_same, .cons ?_ .nil, fun q hq => ?_⟩ ?_ ?_
    · rw [kvs_length]; show ((ps.length : Int) + 1 - 1).toNat = _; omega
    · show _ = some (HO.lst ((tabRow row wt n 0).map oV))
      rw [upd_ne nzt, upd_same]
    · rw [List.mem_singleton.mp hq]
      exact ⟨nz0, nzt⟩
    · rintro i σ H2 hi ⟨y4, y5, y6, qs, rfl, s6, hR2, ht2, hq2, fq⟩
      -- row = [None]
      refine ⟨by show 1 ≤ sizeLine; decide, fun r nr => ?_⟩
      have s7 := same_upd (o := .lst [.non]) nr
      have nr0 : H r = none := s6.free nr
      have nrt : r ≠ t := (ne_of_none ht2 nr).symm
      -- for bounds in range(1, many + 1)
      refine ⟨.int (n : Int), rfl, (n : Int), 1, rfl, rfl, 1, _, rfl, ⟨by decide, by decide, by omega, by omega⟩, ?_⟩
      refine forR (n := n) (by omega) (fun j σ H' => ∃ y6, σ = [some (.ref d), some (.int (n : Int)), some (.ref rn), some (.ref t), some (.int (1 + (i : Int))), some (.ref r), y6] ∧ Same H2 H' ∧ H' r = some (.lst (((List.range (j + 1)).map fun k => colW row wt k (i + 1)).map oV)))
        ⟨y6, rfl, s7, upd_same⟩ ?_ ?_
      · rintro j σ H3 hj ⟨y6, rfl, s8, hr3⟩
        have e1 : (1 + (i : Int)) = ((i + 1 : Nat) : Int) := by omega
        have e2 : (1 + (j : Int)) = ((j + 1 : Nat) : Int) := by omega
        refine ⟨.ref r, rfl, .inl ⟨rfl, _, .inl (.inl hr3)⟩, .ref t, rfl, .ref rn, rfl, .int (1 + (i : Int)), rfl, .int (1 + (j : Int)), rfl, ?_⟩
        refine ⟨t, rn, i + 1, j, tabW row wt n (i + 1), row, wt, by rw [e1, e2]; rfl, by omega, by omega, by omega, ⟨qs, s8 _ _ ht2, hq2.same s8⟩, fun h hh => ⟨_, tabW_get hh, tabRow_get (by omega)⟩, hR2.same s8, fun H4 s9 => ?_⟩
        have hr4 := s9 _ _ hr3
        refine ⟨r, _, _, rfl, rfl, hr4, small_line (by rw [List.length_map, List.length_map, List.length_range]; omega), _, rfl, (s8.trans s9).put nr, ?_⟩
        rw [upd_same, cells_succ row wt (i + 1) (j + 1)]
      · rintro σ H3 ⟨y6, rfl, s8, hr3⟩
        -- table.append(row)
        have ht3 := s8 _ _ ht2
        have hlen := hq2.len
        rw [tabW_len] at hlen
        refine ⟨.ref t, rfl, .inl ⟨rfl, _, .inl (.inl ht3)⟩, .ref r, rfl, t, _, _, rfl, rfl, ht3, small_line (by rw [List.length_map, hlen]; omega), ?_⟩
        have keep : ∀ b o, b ≠ t → H2 b = some o → (upd H3 t (.lst (qs.map V.ref ++ [.ref r]))) b = some o := fun b o hb e => by rw [upd_ne hb]; exact s8 _ _ e
        obtain ⟨kv, v1, v2⟩ := hR2
        refine ⟨_, _, _, qs ++ [r], rfl, (s6.trans s8).put nt0, ⟨kv, keep _ _ (ne_of v1 ht2 (by intro z; cases z)) v1, v2⟩, ?_, ?_, fun q' hq' => ?_⟩
        · rw [upd_same, List.map_append]
          rfl
        · rw [tabW_succ]
          refine paired_snoc ?_ ?_
          · rw [upd_ne nrt]
            exact hr3
          · have := (show RowsAt H2 qs (tabW row wt n (i + 1)) from hq2)
            clear hr3
            have key : ∀ {xs : List Addr} {T : List Row}, (∀ q ∈ xs, q ≠ t) → RowsAt H2 xs T → RowsAt (upd H3 t (.lst (qs.map V.ref ++ [.ref r]))) xs T := by
              intro xs T hx h
              induction h with
              | nil => exact .nil
              | cons a _ ih => exact .cons (keep _ _ (hx _ List.mem_cons_self) a) (ih fun q hq => hx q (List.mem_cons_of_mem _ hq))
            exact key (fun q hq => (fq q hq).2) this
        · rcases List.mem_append.mp hq' with z | z
          · exact fq q' z
          · rw [List.mem_singleton.mp z]
            exact ⟨nr0, nrt⟩
    · rintro σ H2 ⟨y4, y5, y6, qs, rfl, s6, hR2, ht2, hq2, fq⟩
      exact ⟨.ref t, rfl, q H2 t s6 ⟨nt0, qs, ht2, hq2, fun q hq => (fq q hq).1⟩⟩
theorem sc21 : FnScope ["weights", "many"] ["weights", "many"] (defScope (topS 21)) := ⟨rfl, rfl, rfl, by decide +kernel, rfl, by decide +kernel, by decide +kernel⟩
theorem NewTab.from {H0 H H' : Hp} {t : Addr} {T : List Row} (s : Same H0 H) (h : NewTab H H' t T) : NewTab H0 H' t T := let ⟨a, qs, b, c, e⟩ := h; ⟨s.free a, qs, b, c, fun q hq => s.free (e q hq)⟩
theorem ok_sum_table (T : Txt K mg) : Def P w K mg base 5 "sum_table" ["weights", "many"] spTab := by
  have GW : Def P w K mg base 4 _ _ _ := ok_check_weights T
  have GM : Def P w K mg base 2 _ _ _ := ok_check_many T
  have GT : Def P w K mg base 3 _ _ _ := ok_table T
  refine def_mk T.f21 sc21 (fun _ _ _ _ _ _ us hl => match us, hl with | [_, _], _ => rfl) (fun vs H Q E h => ?_) (fun f cdv A outer s H vs Q E hr h => ?_)
  · obtain ⟨d, ps, n, rfl, _⟩ := h
    rfl
  · obtain ⟨d, ps, n, rfl, hd, ok, n1, n8, q⟩ := h
    refine ⟨_, pss_cons (ps_expr (pe_def GW hr (by decide) (pa_cons (pv 0) pa_nil))) (pss_cons (ps_expr (pe_def GM hr (by decide) (pa_cons (pv 1) pa_nil))) (pss_one (ps_ret (pe_def GT hr (by decide) (pa_cons (pv 0) (pa_cons (pv 1) pa_nil)))))), ?_⟩
    refine ⟨.ref d, rfl, d, ps, rfl, hd, ok, fun H1 s1 => ⟨.int (n : Int), rfl, (n : Int), rfl, by omega, by omega, .ref d, rfl, .int (n : Int), rfl, d, ps, n, rfl, s1 _ _ hd, ok, n1, n8, fun H2 t s2 ht => ?_⟩⟩
    exact q H2 t (s1.trans s2) (ht.from s1)
def spLeastSum : Sp := fun vs H Q _ => ∃ (d : Addr) (ps : List (Int × Int)) (n : Nat), vs = [.ref d, .int (n : Int)] ∧ H d = some (.dK (kvs ps)) ∧ OkPs ps ∧ 1 ≤ n ∧ n ≤ 8 ∧
  ∀ H', Same H H' → Q (oV (colW (rowOf ps) (wtOf ps) n ps.length)) H'
theorem sc22 : FnScope ["weights", "many"] ["weights", "many"] (defScope (topS 22)) := ⟨rfl, rfl, rfl, by decide +kernel, rfl, by decide +kernel, by decide +kernel⟩
theorem ok_least_sum (T : Txt K mg) : Def P w K mg base 5 "least_sum" ["weights", "many"] spLeastSum := by
  have GW : Def P w K mg base 4 _ _ _ := ok_check_weights T
  have GM : Def P w K mg base 2 _ _ _ := ok_check_many T
  have GT : Def P w K mg base 3 _ _ _ := ok_table T
  refine def_mk T.f22 sc22 (fun _ _ _ _ _ _ us hl => match us, hl with | [_, _], _ => rfl) (fun vs H Q E h => ?_) (fun f cdv A outer s H vs Q E hr h => ?_)
  · obtain ⟨d, ps, n, rfl, _⟩ := h
    rfl
  · obtain ⟨d, ps, n, rfl, hd, ok, n1, n8, q⟩ := h
    refine ⟨_, pss_cons (ps_expr (pe_def GW hr (by decide) (pa_cons (pv 0) pa_nil))) (pss_cons (ps_expr (pe_def GM hr (by decide) (pa_cons (pv 1) pa_nil)))
      (pss_one (ps_ret (pe_ix ix_list (pe_ix ix_list (pe_def GT hr (by decide) (pa_cons (pv 0) (pa_cons (pv 1) pa_nil))) (pe_un un_neg pe_int) (fun _ _ => rfl)) (pv 1) (fun _ _ => rfl))))), ?_⟩
    refine ⟨.ref d, rfl, d, ps, rfl, hd, ok, fun H1 s1 => ⟨.int (n : Int), rfl, (n : Int), rfl, by omega, by omega, .ref d, rfl, .int (n : Int), rfl, d, ps, n, rfl, s1 _ _ hd, ok, n1, n8, fun H2 t s2 ht => ?_⟩⟩
    obtain ⟨_, qs, h1, h2, _⟩ := ht
    have hlen := h2.len
    rw [tabW_len] at hlen
    obtain ⟨r, r1, r2⟩ := h2.row (tabW_get (row := rowOf ps) (wt := wtOf ps) (n := n) (m := ps.length + 1) (i := ps.length) (Nat.lt_succ_self _))
    refine ⟨1, rfl, t, _, -1, _, rfl, rfl, .inl (.inl h1), at_back ?_, .int (n : Int), rfl, r, _, (n : Int), _, rfl, rfl, .inl (.inl r2), atI_nat (cell_at (tabRow_get (Nat.le_refl _))), q H2 (s1.trans s2)⟩
    rw [List.length_map, hlen]
    exact r1
end
end K67

/-! shows_table -/
namespace K67
open PySem PySem.Spec PyProof.Rows L2
section
variable {X : Cx} {a b e tg : Expr} {ta tb tl : TE} {pos p : Pos}
theorem pi_listK (K : PySem.W.Frag) (he : PE X e tl) (hK : X.K = K := by rfl) : PI X tg e (iList K tl) := by
  subst hK
  exact pi_list he
theorem pe_isi (K : PySem.W.Frag) (ha : PE X a ta) (hb : PE X b tb) (hm : X.mg "isinstance" = none) (hg : Gl X "isinstance" := by rfl) (hK : X.K = K := by rfl)
    (h1 : starEach (a :: [b]) X.env = (false, eval a X.env) :: starEach [b] X.env := by rfl) (h2 : starEach (b :: []) X.env = (false, eval b X.env) :: starEach [] X.env := by rfl) (hpl : (backTo pos (starEach [b] X.env)).any (·.1) = false := by rfl) :
    PE X (.Call (.Name "isinstance" p) [a, b] [] pos) (tCB (rIsi K) (tCons ta (tCons tb tNil))) := by
  subst hK
  exact pe_callB call_isi hg hm bIsinstance (pa_cons ha (pa_cons hb pa_nil h2) h1) (by decide) (by decide) h1 hpl
end
theorem good_of {ps : List (Int × Int)} (h : OkPs ps) : Good (rowOf ps) (wtOf ps) := by
  refine ⟨srt_lt h.nd, fun s hs => ?_, fun s hs => ?_, fun s => (wt_bounds h s).1, fun s => (wt_bounds h s).2⟩
  · obtain ⟨p, hp, rfl⟩ := List.mem_map.mp (rowOf_mem.mp hs)
    exact h.lo p hp
  · obtain ⟨p, hp, rfl⟩ := List.mem_map.mp (rowOf_mem.mp hs)
    exact h.hi p hp
theorem cell_bounds {ps : List (Int × Int)} (h : OkPs ps) {k i : Nat} (hi : i ≤ ps.length) (m : Int) (e : colW (rowOf ps) (wtOf ps) k i = some m) : 0 ≤ m ∧ m ≤ 30000000 := by
  have g := good_of h
  have hl := rowOf_len ps
  have h1 := colW_nonneg g k i m (by omega) e
  have h2 := colW_most g k i m (by omega) e
  have := h.n2
  omega
theorem cut_tail (xs : List V) : cutV xs (some 1) none = xs.drop 1 := by
  have e : HT.sIx xs.length 0 (some 1) = min 1 xs.length := HT.sIx_nat xs.length 0 1
  unfold cutV
  rw [e, HT.sIx_none]
  cases xs with
  | nil => rfl
  | cons x r =>
    have e2 : min 1 (x :: r).length = 1 := Nat.min_eq_left (Nat.succ_pos _)
    rw [e2, List.length_cons, Nat.add_sub_cancel]
    exact List.take_length
theorem all_trues (c : Nat) : (List.replicate c true).all id = true := by
  rw [List.all_eq_true]
  intro b hb
  exact (List.mem_replicate.mp hb).2
theorem map_trues (c : Nat) : (List.replicate c true).map V.bl = List.replicate c (V.bl true) := List.map_replicate
section
variable {P : Program} {w : World} {K : PySem.W.Frag} {mg : Str → Option Value} {base : Heap}
def spShows : Sp := fun vs H Q _ => ∃ (d t : Addr) (ps : List (Int × Int)) (n : Nat), vs = [.ref d, .int (n : Int), .ref t] ∧ H d = some (.dK (kvs ps)) ∧ OkPs ps ∧ 1 ≤ n ∧ n ≤ 8 ∧ TabAt H t (tabW (rowOf ps) (wtOf ps) n (ps.length + 1)) ∧
  ∀ H', Same H H' → Q (.bl true) H'
abbrev N24 : List Str := ["weights", "many", "table", "runs", "number", "bounds", "row", "one"]
theorem sc24 : FnScope N24 ["weights", "many", "table"] (defScope (topS 24)) := ⟨rfl, rfl, rfl, by decide +kernel, rfl, by decide +kernel, by decide +kernel⟩
theorem ok_shows (T : Txt K mg) : Def P w K mg base 5 "shows_table" ["weights", "many", "table"] spShows := by
  have GW : Def P w K mg base 4 _ _ _ := ok_check_weights T
  have GM : Def P w K mg base 2 _ _ _ := ok_check_many T
  have GE : Def P w K mg base 2 _ _ _ := ok_entry T
  have GR : Def P w K mg base 2 _ _ _ := ok_runs T
  have GL : Def P w K mg base 1 _ _ _ := ok_least T
  refine def_mk T.f24 sc24 (fun _ _ _ _ _ _ us hl => match us, hl with | [_, _, _], _ => rfl) (fun vs H Q E h => ?_) (fun f cdv A outer s H vs Q E hr h => ?_)
  · obtain ⟨d, t, ps, n, rfl, _⟩ := h
    rfl
  · obtain ⟨d, t, ps, n, rfl, hd, ok, n1, n8, hT, q⟩ := h
    refine ⟨_, pss_cons (ps_expr (pe_def GW hr (by decide) (pa_cons (pv 0) pa_nil))) (pss_cons (ps_expr (pe_def GM hr (by decide) (pa_cons (pv 1) pa_nil)))
      (pss_cons (ps_if (PW.pt (pw_or (pt_not (pt_val (pe_callB call_isi (by rfl) T.tIsinstance bIsinstance (pa_cons (pv 2) (pa_cons (pe_bltn (by rfl) T.tList bList (v := .ty "list") rfl) pa_nil)))))
          (pw_or1 (pt_cmpR op_ne (pe_callB call_len_seq (by rfl) T.tLen bLen (pa_cons (pv 2) pa_nil)) (pe_op op_add (pe_callB call_lenD (by rfl) T.tLen bLen (pa_cons (pv 0) pa_nil)) pe_int) (nomark _))))) (pss_one (ps_ret pe_bl)) pss_nil)
      (pss_cons (ps_if (pt_not (pt_val (pe_callB (cr_all rfl) (by rfl) T.tAll bAll (pa_cons (pe_lc (own := [("row", 6)]) (g := gName 6) (tt := tYes) (by rfl) sc24.nd (pi_list (pv 2)) (blkOk_by (own := [("row", 6)]) (N := N24) (sc := defScope (topS 24)) (by decide +kernel))
            (fun _ _ _ _ _ => pg_name (i := 6) sc24.nd rfl (Or.inl rfl)) (fun _ _ _ _ _ => pts_nil)
            (fun _ _ _ _ _ => pe_and (pe_isi K (pv 6) (pe_bltn (by rfl) T.tList bList (v := .ty "list") rfl) T.tIsinstance) (pe_one (pe_cmpR op_eq (pe_len K (pv 6) T.tLen) (pe_op op_add (pv 1) pe_int) (nomark _))))) pa_nil)))) (pss_one (ps_ret pe_bl)) pss_nil)
      (pss_cons (ps_if (pt_not (pt_val (pe_callB (cr_all rfl) (by rfl) T.tAll bAll (pa_cons (pe_lc2 (own := [("row", 6), ("one", 7)]) (vs1 := [7]) (g := gName 6) (g1 := gName 7) (tt := tYes) (tt1 := tYes) (by rfl) sc24.nd (pi_list (pv 2)) (blkOk_by (own := [("row", 6), ("one", 7)]) (N := N24) (sc := defScope (topS 24)) (by decide +kernel)) (by decide)
            (fun _ _ _ _ _ => pg_name (i := 6) sc24.nd rfl (Or.inl rfl)) (fun _ _ _ _ _ => pts_nil) (fun _ _ _ _ _ => pi_listK K (pv 6)) (fun _ _ _ _ _ => pg_name (i := 7) sc24.nd rfl (Or.inl rfl)) (fun _ _ _ _ _ => pts_nil)
            (fun _ _ _ _ _ => pe_def GE hr (by decide) (pa_cons (pv 7) pa_nil))) pa_nil)))) (pss_one (ps_ret pe_bl)) pss_nil)
      (pss_cons (ps_if (PW.pt (pw_or (pt_cmpR (op_neD hr.units) (pe_ix ix_list (pv 2) pe_int (fun _ _ => rfl)) (pe_op op_rep (pe_lst (pa_cons pe_int pa_nil)) (pe_op op_add (pv 1) pe_int)) (nomark _))
          (pw_or1 (pt_not (pt_val (pe_callB (cr_all rfl) (by rfl) T.tAll bAll (pa_cons (pe_lc (own := [("row", 6)]) (g := gName 6) (tt := tYes) (by rfl) sc24.nd (pi_list (pe_slice sl_list (pv 2) (po_some pe_int) po_none)) (blkOk_by (own := [("row", 6)]) (N := N24) (sc := defScope (topS 24)) (by decide +kernel))
            (fun _ _ _ _ _ => pg_name (i := 6) sc24.nd rfl (Or.inl rfl)) (fun _ _ _ _ _ => pts_nil) (fun _ _ _ _ _ => pe_cmpR op_isN (pe_at K (pv 6) pe_int) pe_non (nomark _))) pa_nil))))))) (pss_one (ps_ret pe_bl)) pss_nil)
      (pss_cons (ps_set (i := 3) sc24.nd rfl (.inl rfl) (pe_def GR hr (by decide) (pa_cons (pv 0) pa_nil)))
      (pss_cons (ps_for PassesOwn.never rfl (pi_range2 (by rfl) T.tRange (pa_cons pe_int (pa_cons (pe_op op_add (pe_callB call_lenD (by rfl) T.tLen bLen (pa_cons (pv 0) pa_nil)) pe_int) pa_nil))) (pg_name (i := 4) sc24.nd rfl (.inl rfl))
        (pss_one (ps_for PassesOwn.never rfl (pi_range2 (by rfl) T.tRange (pa_cons pe_int (pa_cons (pe_op op_add (pv 1) pe_int) pa_nil))) (pg_name (i := 5) sc24.nd rfl (.inl rfl))
          (pss_one (ps_if (pt_cmpR (op_neD hr.units) (pe_ix ix_list (pe_ix ix_list (pv 2) (pv 4) (fun _ _ => rfl)) (pv 5) (fun _ _ => rfl)) (pe_def GL hr (by decide) (pa_cons (pv 2) (pa_cons (pv 3) (pa_cons (pv 4) (pa_cons (pv 5) pa_nil))))) (nomark _)) (pss_one (ps_ret pe_bl)) pss_nil)))))
      (pss_one (ps_ret pe_bl))))))))), ?_⟩
    have n2 := ok.n2
    have hrl := rowOf_len ps
    obtain ⟨qs, hT1, hT2⟩ := hT
    have hql := hT2.len
    rw [tabW_len] at hql
    have rowAt : ∀ (i : Nat) (x : V), (qs.map V.ref)[i]? = some x → ∃ qa, x = .ref qa ∧ i ≤ ps.length ∧ H qa = some (.lst ((tabRow (rowOf ps) (wtOf ps) n i).map oV)) := by
      intro i x hx
      have hi : i < qs.length := by
        have := (List.getElem?_eq_some_iff.mp hx).1
        rwa [List.length_map] at this
      obtain ⟨qa, q1, q2⟩ := hT2.row (tabW_get (row := rowOf ps) (wt := wtOf ps) (n := n) (m := ps.length + 1) (i := i) (by omega))
      exact ⟨qa, Option.some.inj (hx.symm.trans q1), by omega, q2⟩
    -- check_weights(weights); check_many(many)
    refine ⟨.ref d, rfl, d, ps, rfl, hd, ok, fun H1 s1 => ⟨.int (n : Int), rfl, (n : Int), rfl, by omega, by omega, ?_⟩⟩
    -- not isinstance(table, list) or len(table) != len(weights) + 1
    refine ⟨.ref t, rfl, .ref t, .ty "list", .type "list", .type "list", true, rfl, .ty _, .base (.lst (s1 _ _ hT1)), kit_ty (by decide +kernel), true, rfl, iteF ?_⟩
    refine ⟨.ref t, rfl, t, _, rfl, .inl (.inl (.inl (s1 _ _ hT1))), .ref d, rfl, d, _, rfl, s1 _ _ hd, _, 1, rfl, rfl, rfl, _, rfl, ?_⟩
    rw [List.length_map, kvs_length, hql]
    refine ite2 (fun c => absurd c (by rw [decide_eq_true (show V.int ((ps.length + 1 : Nat) : Int) = V.int ((ps.length : Int) + 1) from rfl)]; decide)) (fun _ => ?_)
    -- not all([isinstance(row, list) and len(row) == many + 1 for row in table])
    refine ⟨.ref t, rfl, t, rfl, ⟨_, .inl (.inl (s1 _ _ hT1))⟩, fun D new => lcL (xs := qs.map V.ref) new (fun _ => .bl true) (small_line (by rw [List.length_map]; omega)) (.inl (.inl (s1 _ _ hT1))) (fun i x H2 hx s2 K1 k1 => ?_) fun H2 s2 e2 => ?_⟩
    · obtain ⟨qa, rfl, _, hq⟩ := rowAt i x hx
      have hq2 := s2 _ _ (s1 _ _ hq)
      refine ⟨rfl, .ref qa, rfl, .ref qa, .ty "list", .type "list", .type "list", true, rfl, .ty _, .base (.lst hq2), kit_ty (by decide +kernel), true, rfl, iteT ?_⟩
      refine ⟨.ref qa, rfl, qa, _, rfl, .inl (.inl hq2), .int (n : Int), rfl, (n : Int), 1, rfl, rfl, rfl, ?_⟩
      rw [List.length_map, tabRow_len]
      exact bl_true (Q := K1) rfl (k1 H2 (Same.refl _))
    rw [List.map_const', ← map_trues] at e2
    refine ⟨D, _, rfl, .inl (.inl e2), _, rfl, ?_⟩
    rw [all_trues]
    refine iteF ?_
    have s02 := s1.trans s2
    -- not all([is_entry(one) for row in table for one in row])
    refine ⟨.ref t, rfl, t, rfl, ⟨_, .inl (.inl (s02 _ _ hT1))⟩, fun D3 new3 => ?_⟩
    refine ⟨fun i m H3 => m = qs.length - i ∧ i ≤ qs.length ∧ Same H2 H3 ∧ ∃ c, c ≤ 9 * i ∧ H3 D3 = some (.lst (List.replicate c (V.bl true))), ⟨qs.length, rfl, Nat.zero_le _, same_upd new3, 0, Nat.le_refl _, upd_same⟩, ?_⟩
    rintro i m H3 ⟨rfl, hi, s3, c, hc, e3⟩
    have t3 : SqL K H3 t (qs.map V.ref) := .inl (.inl (s3 _ _ (s02 _ _ hT1)))
    by_cases hlt : i < qs.length
    · have gx : (qs.map V.ref)[i]? = some (.ref qs[i]) := by simp [hlt]
      refine .inr ⟨⟨_, _, t3, gx⟩, fun H4 => Same H2 H4 ∧ ∃ c, c ≤ 9 * (i + 1) ∧ H4 D3 = some (.lst (List.replicate c (V.bl true))), fun H4 h4 => ⟨qs.length - (i + 1), by omega, rfl, hlt, h4.1, h4.2⟩, fun x H4 hy => ?_⟩
      obtain ⟨rfl, fx⟩ := hy
      have ex := Option.some.inj ((fx _ t3).symm.trans gx)
      subst ex
      obtain ⟨qa, eq, hip, hq⟩ := rowAt i _ gx
      have eq' : qs[i] = qa := V.ref.inj eq
      have hq4 : H4 qs[i] = some (.lst ((tabRow (rowOf ps) (wtOf ps) n i).map oV)) := by rw [eq']; exact s3 _ _ (s02 _ _ hq)
      refine ⟨rfl, .ref qs[i], rfl, qs[i], rfl, ⟨_, .inl (.inl hq4)⟩, ?_⟩
      refine ⟨fun j k H5 => k = (n + 1) - j ∧ j ≤ n + 1 ∧ Same H2 H5 ∧ ∃ c, c ≤ 9 * i + j ∧ H5 D3 = some (.lst (List.replicate c (V.bl true))), ⟨n + 1, rfl, Nat.zero_le _, s3, c, by omega, e3⟩, ?_⟩
      rintro j k H5 ⟨rfl, hj, s5, c5, hc5, e5⟩
      have q5 : SqL K H5 qs[i] ((tabRow (rowOf ps) (wtOf ps) n i).map oV) := .inl (.inl (by rw [eq']; exact s5 _ _ (s02 _ _ hq)))
      by_cases hjl : j < n + 1
      · have gy : ((tabRow (rowOf ps) (wtOf ps) n i).map oV)[j]? = some (oV (colW (rowOf ps) (wtOf ps) j i)) := cell_at (tabRow_get (by omega))
        refine .inr ⟨⟨_, _, q5, gy⟩, fun H6 => Same H2 H6 ∧ ∃ c, c ≤ 9 * i + (j + 1) ∧ H6 D3 = some (.lst (List.replicate c (V.bl true))), fun H6 h6 => ⟨n + 1 - (j + 1), by omega, rfl, hjl, h6.1, h6.2⟩, fun y H6 hy => ?_⟩
        obtain ⟨rfl, fy⟩ := hy
        have ey := Option.some.inj ((fy _ q5).symm.trans gy)
        subst ey
        have hb := cell_bounds ok (k := j) hip
        refine ⟨rfl, oV (colW (rowOf ps) (wtOf ps) j i), rfl, colW (rowOf ps) (wtOf ps) j i, ?_, hb, _, e5, ?_, s5.put new3, c5 + 1, by omega, ?_⟩
        · cases colW (rowOf ps) (wtOf ps) j i <;> rfl
        · rw [List.length_replicate]
          exact small_line (by omega)
        · rw [upd_same, List.replicate_succ']
      · exact .inl ⟨⟨_, q5, by rw [List.length_map, tabRow_len]; omega⟩, s5, c5, by omega, e5⟩
    · refine .inl ⟨⟨_, t3, by rw [List.length_map]; omega⟩, ?_⟩
      rw [← map_trues] at e3
      refine ⟨D3, _, rfl, .inl (.inl e3), _, rfl, ?_⟩
      rw [all_trues]
      refine iteF ?_
      have s03 := s02.trans s3
      -- table[0] != [0] * (many + 1)
      obtain ⟨z, z1, z2⟩ := hT2.row (tabW_get (row := rowOf ps) (wt := wtOf ps) (n := n) (m := ps.length + 1) (i := 0) (Nat.succ_pos _))
      refine ⟨.ref t, rfl, t, _, 0, _, rfl, rfl, .inl (.inl (s03 _ _ hT1)), atI_nat (j := 0) z1, by show 1 ≤ sizeLine; decide, fun a na => ⟨.int (n : Int), rfl, (n : Int), 1, rfl, rfl, a, _, _, rfl, rfl, upd_same, by omega, by omega, Nat.le_of_lt (small_line (by rw [List.length_singleton]; omega)), fun b nb => ?_⟩⟩
      have s4 := (same_upd (o := .lst [.int 0]) na).trans (same_upd (o := .lst (List.replicate ((n : Int) + 1).toNat [V.int 0]).flatten) nb)
      have ez : (List.replicate ((n : Int) + 1).toNat [V.int 0]).flatten = (tabRow (rowOf ps) (wtOf ps) n 0).map oV := by
        rw [row_zero, rep_flat]
        congr 1
      rw [ez] at s4 ⊢
      refine ⟨dRow (tabRow (rowOf ps) (wtOf ps) n 0), dRow (tabRow (rowOf ps) (wtOf ps) n 0), dp_row (s4 _ _ (s03 _ _ z2)), dp_row upd_same, shaped_row _, shaped_row _, _, rfl, ?_⟩
      rw [eqv_self (shaped_row _)]
      refine iteF ?_
      have s04 := s03.trans s4
      -- not all([row[0] is None for row in table[1:]])
      refine ⟨.ref t, rfl, 1, rfl, t, _, rfl, .inl (.inl (s04 _ _ hT1)), fun g ng => ?_⟩
      have s5 := same_upd (o := .lst (cutV (qs.map V.ref) (some 1) none)) ng
      have hg : ∀ HH : Hp, (upd HH g (.lst (cutV (qs.map V.ref) (some 1) none))) g = some (.lst ((qs.map V.ref).drop 1)) := fun HH => by rw [upd_same, cut_tail]
      refine ⟨g, rfl, ⟨_, .inl (.inl (hg _))⟩, fun D5 new5 => lcL (xs := (qs.map V.ref).drop 1) new5 (fun _ => .bl true) (small_line (by rw [List.length_drop, List.length_map]; omega)) (.inl (.inl (hg _))) (fun j x H6 hx s6 K1 k1 => ?_) fun H6 s6 e6 => ?_⟩
      · rw [List.getElem?_drop] at hx
        obtain ⟨qa, rfl, _, hq⟩ := rowAt _ x hx
        have hq6 := s6 _ _ (s5 _ _ (s04 _ _ hq))
        have a0 : atI ((tabRow (rowOf ps) (wtOf ps) n (1 + j)).map oV) 0 = some (oV (colW (rowOf ps) (wtOf ps) 0 (1 + j))) := atI_nat (j := 0) (cell_at (tabRow_get (Nat.zero_le _)))
        have e0 : colW (rowOf ps) (wtOf ps) 0 (1 + j) = none := by rw [Nat.add_comm]; rfl
        rw [e0] at a0
        exact ⟨rfl, .ref qa, rfl, qa, _, 0, _, rfl, rfl, .inl (.inl hq6), a0, rfl, bl_true (Q := K1) rfl (k1 H6 (Same.refl _))⟩
      rw [List.map_const', ← map_trues] at e6
      refine ⟨D5, _, rfl, .inl (.inl e6), _, rfl, ?_⟩
      rw [all_trues]
      refine iteF ?_
      have s06 := (s04.trans s5).trans s6
      -- runs = run_sums(weights)
      refine ⟨.ref d, rfl, d, ps, rfl, s06 _ _ hd, ok, fun H7 rn s7 nrn hR => ?_⟩
      have s07 := s06.trans s7
      refine ⟨.ref d, rfl, d, _, rfl, s07 _ _ hd, _, 1, rfl, rfl, 1, _, rfl, ⟨by decide, by decide, ?_, ?_⟩, ?_⟩
      · rw [kvs_length]; show -(2 ^ 62) ≤ (ps.length : Int) + 1; omega
      · rw [kvs_length]; show (ps.length : Int) + 1 < 2 ^ 62; omega
      refine forR (n := ps.length) ?_ (fun i σ H' => ∃ y4 y5, σ = [some (.ref d), some (.int (n : Int)), some (.ref t), some (.ref rn), y4, y5, none, none] ∧ Same H7 H') ⟨none, none, rfl, Same.refl _⟩ ?_ ?_
      · rw [kvs_length]; show ((ps.length : Int) + 1 - 1).toNat = _; omega
      · rintro i' σ H8 hi' ⟨y4, y5, rfl, s8⟩
        refine ⟨.int (n : Int), rfl, (n : Int), 1, rfl, rfl, 1, _, rfl, ⟨by decide, by decide, by omega, by omega⟩, ?_⟩
        refine forR (n := n) (by omega) (fun j σ H' => ∃ y5, σ = [some (.ref d), some (.int (n : Int)), some (.ref t), some (.ref rn), some (.int (1 + (i' : Int))), y5, none, none] ∧ Same H7 H') ⟨y5, rfl, s8⟩ ?_ ?_
        · rintro j σ H9 hj ⟨y5, rfl, s9⟩
          have s09 := s07.trans s9
          have e1 : (1 + (i' : Int)) = ((i' + 1 : Nat) : Int) := by omega
          have e2 : (1 + (j : Int)) = ((j + 1 : Nat) : Int) := by omega
          obtain ⟨qa, q1, q2⟩ := hT2.row (tabW_get (row := rowOf ps) (wt := wtOf ps) (n := n) (m := ps.length + 1) (i := i' + 1) (by omega))
          refine ⟨.ref t, rfl, .int (1 + (i' : Int)), rfl, t, _, _, _, rfl, rfl, .inl (.inl (s09 _ _ hT1)), at_of e1 q1, .int (1 + (j : Int)), rfl, qa, _, _, _, rfl, rfl, .inl (.inl (s09 _ _ q2)), at_of e2 (cell_at (tabRow_get (show j + 1 ≤ n by omega))), ?_⟩
          refine ⟨.ref t, rfl, .ref rn, rfl, .int (1 + (i' : Int)), rfl, .int (1 + (j : Int)), rfl, t, rn, i' + 1, j, _, rowOf ps, wtOf ps, by rw [e1, e2]; rfl, by omega, by omega, by omega, ⟨qs, s09 _ _ hT1, hT2.same s09⟩, fun h hh => ⟨_, tabW_get (by omega), tabRow_get (by omega)⟩, hR.same s9, fun H10 s10 => ?_⟩
          refine ⟨_, _, dp_cell _, dp_cell _, shaped_cell _, shaped_cell _, _, rfl, ?_⟩
          rw [eqv_self (shaped_cell _)]
          exact iteF ⟨_, rfl, s9.trans s10⟩
        · rintro σ H9 ⟨y5, rfl, s9⟩
          exact ⟨_, _, rfl, s9⟩
      · rintro σ H8 ⟨y4, y5, rfl, s8⟩
        exact q H8 (s07.trans s8)
end
end K67

/-! the law's own draws: _law_numbers, _law_opened, _law_draw, _law_pick, _law_sizes, _law_weights -/
namespace K67
open PySem PySem.Spec PyProof.Rows L2
/-- all but p is as it was -/
def But (p : Addr) (H H' : Hp) : Prop := ∀ b o, b ≠ p → H b = some o → H' b = some o
theorem But.refl (p : Addr) (H : Hp) : But p H H := fun _ _ _ e => e
theorem But.trans {p : Addr} {H H1 H2 : Hp} (a : But p H H1) (b : But p H1 H2) : But p H H2 := fun c o n e => b c o n (a c o n e)
theorem But.of {p : Addr} {H H' : Hp} (s : Same H H') : But p H H' := fun b o _ e => s b o e
theorem But.put {p q : Addr} {H H' : Hp} {o : HO} (s : But p H H') (h : H q = none) : But p H (upd H' q o) := fun b x n e => by
  rw [upd_ne (ne_of_none e h)]
  exact s b x n e
theorem But.self {p : Addr} {H : Hp} {o : HO} : But p H (upd H p o) := fun b x n e => by
  rw [upd_ne n]
  exact e
theorem But.same {p : Addr} {H0 H H' : Hp} (s : Same H0 H) (b : But p H H') (h : H0 p = none) : Same H0 H' := fun c o e => b c o (ne_of_none e h) (s c o e)
/-- the pool of numbers at p, its list at b -/
def PoolAt (H : Hp) (p b : Addr) : Prop := ∃ (at_ : Int) (ns : List Int), H p = some (.lst [.ref b, .int at_]) ∧ 0 ≤ at_ ∧ H b = some (.lst (ns.map V.int)) ∧ b ≠ p ∧ ns.length ≤ 1000
theorem PoolAt.same {H H' : Hp} {p b : Addr} (s : Same H H') (h : PoolAt H p b) : PoolAt H' p b := let ⟨a, ns, e1, e2, e3, e4, e5⟩ := h; ⟨a, ns, s _ _ e1, e2, s _ _ e3, e4, e5⟩
theorem PoolAt.some {H : Hp} {p b : Addr} (h : PoolAt H p b) : (∃ o, H p = some o) ∧ ∃ o, H b = some o := let ⟨_, _, e, _, e2, _⟩ := h; ⟨⟨_, e⟩, _, e2⟩
theorem PoolAt.put {H : Hp} {p b a : Addr} {o : HO} (h : PoolAt H p b) (n1 : a ≠ p) (n2 : a ≠ b) : PoolAt (upd H a o) p b := let ⟨z, ns, e1, e2, e3, e4, e5⟩ := h; ⟨z, ns, by rw [upd_ne n1.symm]; exact e1, e2, by rw [upd_ne n2.symm]; exact e3, e4, e5⟩
theorem But.free {p a : Addr} {H H' : Hp} (s : But p H H') (n : a ≠ p) (h : H' a = none) : H a = none := by
  cases q : H a with
  | none => rfl
  | some o =>
    rw [s a o n q] at h
    cases h
theorem not_pool {H : Hp} {p b a : Addr} (h : PoolAt H p b) (n : H a = none) : a ≠ p ∧ a ≠ b := by
  obtain ⟨⟨o, ho⟩, o2, ho2⟩ := h.some
  constructor
  · intro e
    rw [e, ho] at n
    cases n
  · intro e
    rw [e, ho2] at n
    cases n
section
variable {P : Program} {w : World} {K : PySem.W.Frag} {mg : Str → Option Value} {base : Heap}
/-! ### _law_numbers -/
def spNumbers : Sp := fun vs H Q _ => ∃ (c s : Int) (n : Nat), vs = [.int c, .int s, .int (n : Int)] ∧ 0 ≤ s ∧ s ≤ 100 ∧ n ≤ 1000 ∧ ∀ H' a (ns : List Int), Same H H' → H a = none → H' a = some (.lst (ns.map V.int)) → ns.length ≤ 1000 → Q (.ref a) H'
abbrev N26 : List Str := ["_law_cell", "_law_salt", "_law_often", "_law_whole", "_law_left", "_law_result", "_law_k", "_law_one"]
theorem sc26 : FnScope N26 ["_law_cell", "_law_salt", "_law_often"] (defScope (topS 26)) := ⟨rfl, rfl, rfl, by decide +kernel, rfl, by decide +kernel, by decide +kernel⟩
theorem ok_numbers (T : Txt K mg) : Def P w K mg base 1 "_law_numbers" ["_law_cell", "_law_salt", "_law_often"] spNumbers := by
  refine def_mk T.f26 sc26 (fun _ _ _ _ _ _ us hl => match us, hl with | [_, _, _], _ => rfl) (fun vs H Q E h => ?_) (fun f cdv A outer s H vs Q E hr h => ?_)
  · obtain ⟨c, z, n, rfl, _⟩ := h
    rfl
  · obtain ⟨c, z, n, rfl, z0, z1, hn, q⟩ := h
    refine ⟨_, pss_cons (ps_set (i := 3) sc26.nd rfl (.inl rfl) (pe_callB (call_max2 rfl) (by rfl) T.tMax bMax (pa_cons (pe_callTy call_int1 (by rfl) T.tInt bInt (pa_cons (pv 0) pa_nil)) (pa_cons (pe_callTy call_int1 (by rfl) T.tInt bInt (pa_cons (pe_op op_sub (pe_un un_neg pe_int) (pv 0)) pa_nil)) pa_nil))))
      (pss_cons (ps_set (i := 4) sc26.nd rfl (.inl rfl) (pv 3))
      (pss_cons (ps_set (i := 5) sc26.nd rfl (.inl rfl) (pe_lst pa_nil))
      (pss_cons (ps_for PassesOwn.never rfl (pi_range1 (by rfl) T.tRange (pa_cons (pv 2) pa_nil)) (pg_name (i := 6) sc26.nd rfl (.inl rfl))
        (pss_one (ps_if (PW.pt (pw_and (pt_cmpR op_ge (pv 3) (pe_op op_pow pe_int pe_int) (nomark _)) (pw_and1 (pt_cmpR op_gt (pv 4) pe_int (nomark _)))))
          (pss_cons (ps_expr (pe_bm PySem.F.plainAttrs_list PySem.F.slot_list_append PySem.F.type_list_append mt_append (pv 5) (pa_cons (pe_op op_mod (pe_callTy call_int1 (by rfl) T.tInt bInt (pa_cons (pv 4) pa_nil)) pe_int) pa_nil)))
          (pss_one (ps_set (i := 4) sc26.nd rfl (.inl rfl) (pe_op op_fdivN (pv 4) pe_int))))
          (pss_cons (ps_set (i := 7) sc26.nd rfl (.inl rfl) (pe_op op_mod (pe_callTy call_int1 (by rfl) T.tInt bInt (pa_cons (pe_op op_pow (pe_op op_add (pe_op op_add (pe_op op_mod (pe_callTy call_int1 (by rfl) T.tInt bInt (pa_cons (pv 3) pa_nil)) pe_int) (pe_op op_mul pe_int (pv 1))) pe_int) pe_int) pa_nil)) pe_int))
          (pss_cons (ps_set (i := 7) sc26.nd rfl (.inl rfl) (pe_op op_mod (pe_callTy call_int1 (by rfl) T.tInt bInt (pa_cons (pe_op op_mul (pe_op op_add (pv 7) (pe_op op_mul pe_int (pe_op op_add (pv 6) pe_int))) (pe_op op_add (pv 6) pe_int)) pa_nil)) pe_int))
          (pss_cons (ps_set (i := 7) sc26.nd rfl (.inl rfl) (pe_op op_mod (pe_callTy call_int1 (by rfl) T.tInt bInt (pa_cons (pe_op op_mul (pe_op op_mod (pe_callTy call_int1 (by rfl) T.tInt bInt (pa_cons (pe_op op_pow (pv 7) pe_int) pa_nil)) pe_int) pe_int) pa_nil)) pe_int))
          (pss_one (ps_expr (pe_bm PySem.F.plainAttrs_list PySem.F.slot_list_append PySem.F.type_list_append mt_append (pv 5) (pa_cons (pe_op op_mod (pe_callTy call_int1 (by rfl) T.tInt bInt (pa_cons (pe_op op_fdiv (pv 7) pe_int) pa_nil)) pe_int) pa_nil))))))))))
      (pss_one (ps_ret (pv 5)))))), ?_⟩
    refine ⟨.int c, rfl, .inl ⟨c, rfl, 1, rfl, .int c, rfl, _, c, rfl, rfl, .inl ⟨_, rfl, _, _, rfl, ?_⟩⟩⟩
    refine ⟨_, rfl, Nat.zero_le _, fun a na => ?_⟩
    refine ⟨.int (n : Int), rfl, (n : Int), rfl, by omega, by omega, ?_⟩
    refine forR (n := n) (by omega) (fun i σ H' => ∃ (wh lf : Int) (y6 y7 : Option V) (ns : List Int), σ = [some (.int c), some (.int z), some (.int (n : Int)), some (.int wh), some (.int lf), some (.ref a), y6, y7] ∧ Same H H' ∧ H' a = some (.lst (ns.map V.int)) ∧ ns.length = i)
      ⟨_, _, none, none, [], rfl, same_upd na, upd_same, rfl⟩ ?_ ?_
    · rintro i σ H2 hi ⟨wh, lf, y6, y7, ns, rfl, s2, e2, hl⟩
      have app : ∀ (x : Int), (ns.map V.int) ++ [V.int x] = (ns ++ [x]).map V.int := fun x => by rw [List.map_append]; rfl
      have small : (ns.map V.int).length < sizeLine := small_line (by rw [List.length_map]; omega)
      have lenx : ∀ (x : Int), (ns ++ [x]).length = i + 1 := fun x => by rw [List.length_append, List.length_singleton, hl]
      have pos : ∀ {k : Int}, 0 < k → 0 < k := fun h => h
      refine ⟨.int wh, rfl, 10, 18, rfl, rfl, ⟨by decide, by decide, by decide⟩, wh, _, rfl, rfl, _, rfl, ?_⟩
      refine ite2 (fun h1 => ⟨.int lf, rfl, lf, 0, rfl, rfl, _, rfl, ite2 (fun h2 => ?a) (fun h2 => ?b)⟩) (fun h1 => ?c)
      case a =>
        refine ⟨.ref a, rfl, .inl ⟨rfl, _, .inl (.inl e2)⟩, .int lf, rfl, .inl ⟨lf, rfl, lf, 840, rfl, rfl, by show (0 : Int) < 840; decide, a, _, _, rfl, rfl, e2, small, ?_⟩⟩
        refine ⟨.int lf, rfl, lf, 840, rfl, rfl, ⟨by decide, by decide⟩, ?_⟩
        exact ⟨wh, _, _, y7, ns ++ [_], rfl, s2.put na, by rw [upd_same]; exact congrArg (fun l => some (HO.lst l)) (app _), lenx _⟩
      all_goals
        refine ⟨.int wh, rfl, .inl ⟨wh, rfl, wh, 2147483629, rfl, rfl, by show (0 : Int) < 2147483629; decide, .int z, rfl, 7717, z, rfl, rfl, .inl ⟨by decide, by decide⟩, _, _, rfl, rfl, _, 3, rfl, rfl, _, 3, rfl, rfl, ⟨by decide, by decide, by show (wh % 2147483629 + 7717 * z + 3).natAbs < 2 ^ 64; omega⟩, .inl ⟨_, rfl, _, 2147483647, rfl, rfl, by show (0 : Int) < 2147483647; decide, ?_⟩⟩⟩
        refine ⟨_, rfl, .int (0 + (i : Int)), rfl, (0 + (i : Int)), 1, rfl, rfl, 99991, _, rfl, rfl, .inl ⟨by decide, by decide⟩, _, _, rfl, rfl, .int (0 + (i : Int)), rfl, (0 + (i : Int)), 5, rfl, rfl, _, _, rfl, rfl, .inr ⟨by omega, by omega⟩, .inl ⟨_, rfl, _, 2147483629, rfl, rfl, by show (0 : Int) < 2147483629; decide, ?_⟩⟩
        refine ⟨_, rfl, _, 5, rfl, rfl, ⟨by decide, by decide, ?_⟩, .inl ⟨_, rfl, _, 2147483647, rfl, rfl, by show (0 : Int) < 2147483647; decide, _, 48271, rfl, rfl, .inr ⟨by decide, by decide⟩, .inl ⟨_, rfl, _, 2147483629, rfl, rfl, by show (0 : Int) < 2147483629; decide, ?_⟩⟩⟩
        · generalize ((wh % 2147483629 + 7717 * z + 3) ^ (3 : Int).toNat % 2147483647 + 99991 * (0 + (i : Int) + 1)) * (0 + (i : Int) + 5) = u
          omega
        · refine ⟨.ref a, rfl, .inl ⟨rfl, _, .inl (.inl e2)⟩, _, rfl, _, 16, rfl, rfl, ⟨by decide, by decide⟩, .inl ⟨_, rfl, _, 840, rfl, rfl, by show (0 : Int) < 840; decide, a, _, _, rfl, rfl, e2, small, ?_⟩⟩
          exact ⟨wh, lf, _, _, ns ++ [_], rfl, s2.put na, by rw [upd_same]; exact congrArg (fun l => some (HO.lst l)) (app _), lenx _⟩
    · rintro σ H2 ⟨wh, lf, y6, y7, ns, rfl, s2, e2, hl⟩
      exact ⟨.ref a, rfl, q H2 a ns s2 na e2 (by omega)⟩
/-! ### _law_opened -/
def spOpened (K : PySem.W.Frag) : Sp := fun vs H Q _ => ∃ (a : Addr) (ns : List Int) (k : Nat) (n : Nat), vs = [.ref a, .int (k : Int), .int (n : Int)] ∧ SqL K H a (ns.map V.int) ∧ (ns ≠ [] → k < ns.length) ∧ k ≤ 100 ∧ n ≤ 1000 ∧
  ∀ H' p b, Same H H' → H p = none → PoolAt H' p b → Q (.ref p) H'
abbrev N27 : List Str := ["_law_script", "_law_k", "_law_often", "_law_cell"]
theorem sc27 : FnScope N27 ["_law_script", "_law_k", "_law_often"] (defScope (topS 27)) := ⟨rfl, rfl, rfl, by decide +kernel, rfl, by decide +kernel, by decide +kernel⟩
theorem ok_opened (T : Txt K mg) : Def P w K mg base 2 "_law_opened" ["_law_script", "_law_k", "_law_often"] (spOpened K) := by
  have GN : Def P w K mg base 1 _ _ _ := ok_numbers T
  refine def_mk T.f27 sc27 (fun _ _ _ _ _ _ us hl => match us, hl with | [_, _, _], _ => rfl) (fun vs H Q E h => ?_) (fun f cdv A outer s H vs Q E hr h => ?_)
  · obtain ⟨a, ns, k, n, rfl, _⟩ := h
    rfl
  · obtain ⟨a, ns, k, n, rfl, hA, hk, k1, n1, q⟩ := h
    refine ⟨_, pss_cons (ps_set (i := 3) sc27.nd rfl (.inl rfl) (pe_ifExp (pt_cmpR (op_neD hr.units) (pv 0) (pe_lst pa_nil) (nomark _)) (pe_ix ix_list (pv 0) (pv 1) (fun _ _ => rfl)) pe_int))
      (pss_one (ps_ret (pe_lst (pa_cons (pe_def GN hr (by decide) (pa_cons (pv 3) (pa_cons (pv 1) (pa_cons (pv 2) pa_nil)))) (pa_cons pe_int pa_nil))))), ?_⟩
    refine ⟨.ref a, rfl, Nat.zero_le _, fun e ne => ?_⟩
    have s1 := same_upd (o := .lst []) ne
    refine ⟨dInts ns, dInts [], .lst (s1.seq hA) (dp_all_ints ns), dp_ints upd_same, shaped_ints _, shaped_ints _, _, rfl, ?_⟩
    rw [eqv_nil]
    cases ns with
    | nil =>
      refine iteF ⟨.int 5, rfl, .int (k : Int), rfl, .int (n : Int), rfl, 5, (k : Int), n, rfl, by omega, by omega, n1, fun H2 b ms s2 nb hb hl => ?_⟩
      refine ⟨by show 2 ≤ sizeLine; decide, fun p np => ?_⟩
      exact q _ p b ((s1.trans s2).put ((s1.trans s2).free np)) ((s1.trans s2).free np) ⟨0, ms, upd_same, Int.le_refl _, by rw [upd_ne (ne_of_none hb np)]; exact hb, ne_of_none hb np, hl⟩
    | cons x l =>
      have hk' := hk (by simp)
      refine iteT ⟨.ref a, rfl, .int (k : Int), rfl, a, _, _, _, rfl, rfl, s1.seq hA, at_ints (row := x :: l) hk' rfl, ?_⟩
      refine ⟨_, rfl, .int (k : Int), rfl, .int (n : Int), rfl, _, (k : Int), n, rfl, by omega, by omega, n1, fun H2 b ms s2 nb hb hl => ?_⟩
      refine ⟨by show 2 ≤ sizeLine; decide, fun p np => ?_⟩
      exact q _ p b ((s1.trans s2).put ((s1.trans s2).free np)) ((s1.trans s2).free np) ⟨0, ms, upd_same, Int.le_refl _, by rw [upd_ne (ne_of_none hb np)]; exact hb, ne_of_none hb np, hl⟩
/-! ### _law_draw -/
def spDraw : Sp := fun vs H Q _ => ∃ (p b : Addr) (n : Int), vs = [.ref p, .int n] ∧ 0 < n ∧ PoolAt H p b ∧ ∀ (m : Int) H', 0 ≤ m → m < n → But p H H' → PoolAt H' p b → Q (.int m) H'
abbrev N28 : List Str := ["_law_pool", "_law_often", "_law_at"]
theorem sc28 : FnScope N28 ["_law_pool", "_law_often"] (defScope (topS 28)) := ⟨rfl, rfl, rfl, by decide +kernel, rfl, by decide +kernel, by decide +kernel⟩
theorem ok_draw (T : Txt K mg) : Def P w K mg base 1 "_law_draw" ["_law_pool", "_law_often"] spDraw := by
  refine def_mk T.f28 sc28 (fun _ _ _ _ _ _ us hl => match us, hl with | [_, _], _ => rfl) (fun vs H Q E h => ?_) (fun f cdv A outer s H vs Q E hr h => ?_)
  · obtain ⟨p, b, n, rfl, _⟩ := h
    rfl
  · obtain ⟨p, b, n, rfl, n0, ⟨z, ns, hp, z0, hb, nbp, hl⟩, q⟩ := h
    refine ⟨_, pss_cons (ps_set (i := 2) sc28.nd rfl (.inl rfl) (pe_ix ix_list (pv 0) pe_int (fun _ _ => rfl)))
      (pss_cons (ps_asg (pe_op op_add (pv 2) pe_int) (pg_sub (pv 0) pe_int set_list))
      (pss_one (ps_ret (pe_ifExp (pt_cmpR op_lt (pv 2) (pe_callB call_len_seq (by rfl) T.tLen bLen (pa_cons (pe_ix ix_list (pv 0) pe_int (fun _ _ => rfl)) pa_nil)) (nomark _))
        (pe_op op_mod (pe_callTy call_int1 (by rfl) T.tInt bInt (pa_cons (pe_ix ix_list (pe_ix ix_list (pv 0) pe_int (fun _ _ => rfl)) (pv 2) (fun _ _ => rfl)) pa_nil)) (pv 1)) pe_int)))), ?_⟩
    refine ⟨.ref p, rfl, p, _, 1, .int z, rfl, rfl, .inl (.inl hp), rfl, ?_⟩
    refine ⟨.int z, rfl, z, 1, rfl, rfl, .ref p, rfl, p, _, 1, 1, rfl, rfl, hp, rfl, ?_⟩
    have bt : But p H (upd H p (.lst [.ref b, .int (z + 1)])) := But.self
    have hb2 := bt b _ nbp hb
    have po : PoolAt (upd H p (.lst [.ref b, .int (z + 1)])) p b := ⟨z + 1, ns, upd_same, by omega, hb2, nbp, hl⟩
    refine ⟨.int z, rfl, .ref p, rfl, p, _, 0, .ref b, rfl, rfl, .inl (.inl upd_same), rfl, b, _, rfl, .inl (.inl (.inl hb2)), z, _, rfl, rfl, _, rfl, ?_⟩
    rw [List.length_map]
    refine ite2 (fun c => ?_) (fun c => ?_)
    · have c' := of_decide_eq_true c
      have az : atI (ns.map V.int) z = some (.int (ns.getD z.toNat 0)) := at_ints (by omega) (by omega)
      refine ⟨.ref p, rfl, p, _, 0, .ref b, rfl, rfl, .inl (.inl upd_same), rfl, .int z, rfl, b, _, z, _, rfl, rfl, .inl (.inl hb2), az, .inl ⟨_, rfl, .int n, rfl, _, n, rfl, rfl, n0, ?_⟩⟩
      exact q _ _ (Int.emod_nonneg _ (by omega)) (Int.emod_lt_of_pos _ n0) bt po
    · exact q 0 _ (Int.le_refl _) n0 bt po
/-! ### _law_pick -/
def spPick : Sp := fun vs H Q _ => ∃ (p b a : Addr) (xs : List V), vs = [.ref p, .ref a] ∧ PoolAt H p b ∧ H a = some (.lst xs) ∧ a ≠ p ∧ xs ≠ [] ∧ ∀ x H', x ∈ xs → But p H H' → PoolAt H' p b → Q x H'
abbrev N29 : List Str := ["_law_pool", "_law_some"]
theorem sc29 : FnScope N29 ["_law_pool", "_law_some"] (defScope (topS 29)) := ⟨rfl, rfl, rfl, by decide +kernel, rfl, by decide +kernel, by decide +kernel⟩
theorem ok_pick (T : Txt K mg) : Def P w K mg base 2 "_law_pick" ["_law_pool", "_law_some"] spPick := by
  have GD : Def P w K mg base 1 _ _ _ := ok_draw T
  refine def_mk T.f29 sc29 (fun _ _ _ _ _ _ us hl => match us, hl with | [_, _], _ => rfl) (fun vs H Q E h => ?_) (fun f cdv A outer s H vs Q E hr h => ?_)
  · obtain ⟨p, b, a, xs, rfl, _⟩ := h
    rfl
  · obtain ⟨p, b, a, xs, rfl, hp, ha, nap, nx, q⟩ := h
    refine ⟨_, pss_one (ps_ret (pe_ix ix_list (pv 1) (pe_def GD hr (by decide) (pa_cons (pv 0) (pa_cons (pe_callB call_len_seq (by rfl) T.tLen bLen (pa_cons (pv 1) pa_nil)) pa_nil))) (fun _ _ => rfl))), ?_⟩
    have hl : 0 < xs.length := List.length_pos_iff.mpr nx
    refine ⟨.ref a, rfl, .ref p, rfl, .ref a, rfl, a, xs, rfl, .inl (.inl (.inl ha)), p, b, (xs.length : Int), rfl, by omega, hp, fun m H2 m0 m1 b2 p2 => ?_⟩
    have hm : m.toNat < xs.length := by omega
    exact ⟨a, xs, m, xs[m.toNat], rfl, rfl, .inl (.inl (b2 _ _ nap ha)), at_of (j := m.toNat) (by omega) (List.getElem?_eq_getElem hm), q _ H2 (List.getElem_mem hm) b2 p2⟩
/-! ### _law_sizes -/
def spSizes : Sp := fun vs H Q _ => ∃ (p b : Addr) (n m : Nat), vs = [.ref p, .int (n : Int), .int (m : Int)] ∧ 0 < n ∧ n ≤ 1000 ∧ 0 < m ∧ PoolAt H p b ∧
  ∀ H' a (ss : List Int), But p H H' → PoolAt H' p b → H a = none → H' a = some (.lst (ss.map V.int)) → ss.Nodup → 1 ≤ ss.length → ss.length ≤ n → (∀ s ∈ ss, 1 ≤ s ∧ s ≤ m) → Q (.ref a) H'
theorem inV_ints (x : Int) : ∀ ss : List Int, inV (.int x) (ss.map V.int) = decide (x ∈ ss)
  | [] => rfl
  | s :: r => by
    have ih := inV_ints x r
    unfold inV at ih ⊢
    rw [List.map_cons, List.any_cons, ih]
    show (s == x || decide (x ∈ r)) = decide (x ∈ s :: r)
    by_cases e : s = x
    · subst e; simp
    · have e' : ¬ x = s := fun z => e z.symm
      have e2 : (s == x) = false := beq_eq_false_iff_ne.mpr e
      rw [e2, Bool.false_or]
      simp [e']
theorem flat_ints (ss : List Int) : (ss.map V.int).all flatV = true := by
  rw [List.all_map, List.all_eq_true]
  intro _ _
  rfl
abbrev N30 : List Str := ["_law_pool", "_law_often", "_law_most", "_law_gained", "_law_step", "_law_one"]
theorem sc30 : FnScope N30 ["_law_pool", "_law_often", "_law_most"] (defScope (topS 30)) := ⟨rfl, rfl, rfl, by decide +kernel, rfl, by decide +kernel, by decide +kernel⟩
theorem ok_lsizes (T : Txt K mg) : Def P w K mg base 2 "_law_sizes" ["_law_pool", "_law_often", "_law_most"] spSizes := by
  have GD : Def P w K mg base 1 _ _ _ := ok_draw T
  refine def_mk T.f30 sc30 (fun _ _ _ _ _ _ us hl => match us, hl with | [_, _, _], _ => rfl) (fun vs H Q E h => ?_) (fun f cdv A outer s H vs Q E hr h => ?_)
  · obtain ⟨p, b, n, m, rfl, _⟩ := h
    rfl
  · obtain ⟨p, b, n, m, rfl, n0, n1, m0, hp, q⟩ := h
    refine ⟨_, pss_cons (ps_set (i := 3) sc30.nd rfl (.inl rfl) (pe_lst pa_nil))
      (pss_cons (ps_for PassesOwn.never rfl (pi_range1 (by rfl) T.tRange (pa_cons (pe_op op_add pe_int (pe_def GD hr (by decide) (pa_cons (pv 0) (pa_cons (pv 1) pa_nil)))) pa_nil)) (pg_name (i := 4) sc30.nd rfl (.inl rfl))
        (pss_cons (ps_set (i := 5) sc30.nd rfl (.inl rfl) (pe_op op_add pe_int (pe_def GD hr (by decide) (pa_cons (pv 0) (pa_cons (pv 2) pa_nil)))))
        (pss_one (ps_if (pt_cmpR op_notIn_seq (pv 5) (pv 3) (by rfl)) (pss_one (ps_expr (pe_bm PySem.F.plainAttrs_list PySem.F.slot_list_append PySem.F.type_list_append mt_append (pv 3) (pa_cons (pv 5) pa_nil)))) pss_nil))))
      (pss_one (ps_ret (pv 3)))), ?_⟩
    refine ⟨Nat.zero_le _, fun a na => ?_⟩
    obtain ⟨nap, nab⟩ := not_pool hp na
    refine ⟨.ref p, rfl, .int (n : Int), rfl, p, b, (n : Int), rfl, by omega, hp.same (same_upd na), fun y H1 y0 y1 b1 p1 => ?_⟩
    have b1' : But p H H1 := (But.of (same_upd na)).trans b1
    have e1 : H1 a = some (.lst (([] : List Int).map V.int)) := b1 _ _ nap upd_same
    refine ⟨1, y, rfl, rfl, 1 + y, rfl, by omega, by omega, ?_⟩
    refine forR (n := (1 + y).toNat) rfl (fun i σ H' => ∃ (y4 y5 : Option V) (ss : List Int), σ = [some (.ref p), some (.int (n : Int)), some (.int (m : Int)), some (.ref a), y4, y5] ∧ But p H H' ∧ PoolAt H' p b ∧ H' a = some (.lst (ss.map V.int)) ∧ ss.Nodup ∧ ss.length ≤ i ∧ (1 ≤ i → 1 ≤ ss.length) ∧ ∀ s ∈ ss, 1 ≤ s ∧ s ≤ m)
      ⟨none, none, [], rfl, b1', p1, e1, List.nodup_nil, Nat.le_refl _, fun z => z, fun s hs => absurd hs List.not_mem_nil⟩ ?_ ?_
    · rintro i σ H2 hi ⟨y4, y5, ss, rfl, b2, p2, e2, nd, l1, l2, bd⟩
      refine ⟨.ref p, rfl, .int (m : Int), rfl, p, b, (m : Int), rfl, by omega, p2, fun v H3 v0 v1 b3 p3 => ?_⟩
      have e3 : H3 a = some (.lst (ss.map V.int)) := b3 _ _ nap e2
      refine ⟨1, v, rfl, rfl, .int (1 + v), rfl, .ref a, rfl, a, _, rfl, .inl (.inl (.inl e3)), rfl, flat_ints ss, _, rfl, ?_⟩
      rw [inV_ints]
      by_cases hm : (1 + v) ∈ ss
      · rw [decide_eq_true hm]
        refine iteF ⟨_, _, ss, rfl, b2.trans b3, p3, e3, nd, by omega, fun _ => List.length_pos_of_mem hm, bd⟩
      · rw [decide_eq_false hm]
        refine iteT ⟨.ref a, rfl, .inl ⟨rfl, _, .inl (.inl e3)⟩, .int (1 + v), rfl, a, _, _, rfl, rfl, e3, small_line (by rw [List.length_map]; omega), ?_⟩
        refine ⟨_, _, ss ++ [1 + v], rfl, (b2.trans b3).put na, ?_, ?_, ?_, ?_, fun _ => ?_, fun s hs => ?_⟩
        · exact p3.put nap nab
        · rw [upd_same, List.map_append]
          rfl
        · exact nd_snoc nd hm
        · rw [List.length_append, List.length_singleton]; omega
        · rw [List.length_append]; simp
        · rcases List.mem_append.mp hs with z | z
          · exact bd s z
          · rw [List.mem_singleton.mp z]; omega
    · rintro σ H2 ⟨y4, y5, ss, rfl, b2, p2, e2, nd, l1, l2, bd⟩
      exact ⟨.ref a, rfl, q H2 a ss b2 p2 na e2 nd (l2 (by omega)) (by omega) bd⟩
end
end K67

/-! _law_weights, _law_loss, _law_sum, _law_sets, _law_serving -/
namespace K67
open PySem PySem.Spec PyProof.Rows L2
theorem merge_kvs : ∀ (qs : List (Int × Int)) (acc : List (Key × V)), (qs.map (·.1)).Nodup → (∀ q ∈ qs, ∀ p ∈ acc, p.1 ≠ Sum.inl q.1) → mergeK acc (kvs qs) = acc ++ kvs qs
  | [], acc, _, _ => (List.append_nil acc).symm
  | q :: qs, acc, nd, h => by
    have nd' : (q.1 :: qs.map (·.1)).Nodup := nd
    obtain ⟨n1, n2⟩ := List.nodup_cons.mp nd'
    have e : mergeK acc (kvs (q :: qs)) = mergeK (putK acc (Sum.inl q.1) (.int q.2)) (kvs qs) := rfl
    rw [e, put_new (h q List.mem_cons_self), merge_kvs qs _ n2 fun q' hq' p hp => ?_]
    · rw [List.append_assoc]
      rfl
    · rcases List.mem_append.mp hp with z | z
      · exact h q' (List.mem_cons_of_mem _ hq') p z
      · rw [List.mem_singleton.mp z]
        intro e2
        exact n1 (List.mem_map.mpr ⟨q', hq', (Sum.inl.inj e2).symm⟩)
/-- a list of lists of ints -/
abbrev IntsRows (H : Hp) : List Addr → List (List Int) → Prop := Paired fun q b => H q = some (.lst (b.map V.int))
def IntsAt (H : Hp) (g : Addr) (bs : List (List Int)) : Prop := ∃ qs : List Addr, H g = some (.lst (qs.map V.ref)) ∧ IntsRows H qs bs
theorem IntsRows.same {H H' : Hp} (s : Same H H') {qs : List Addr} {bs : List (List Int)} (h : IntsRows H qs bs) : IntsRows H' qs bs := Paired.mapP h fun q r e => s _ _ e
theorem paired_app {α β : Type} {F : α → β → Prop} : ∀ {xs : List α} {ys : List β} {us : List α} {ws : List β}, Paired F xs ys → Paired F us ws → Paired F (xs ++ us) (ys ++ ws)
  | _, _, _, _, .nil, h => h
  | _, _, _, _, .cons r t, h => .cons r (paired_app t h)
section
variable {P : Program} {w : World} {K : PySem.W.Frag} {mg : Str → Option Value} {base : Heap}
/-! ### _law_weights -/
def spLWeights : Sp := fun vs H Q _ => ∃ (p b a : Addr) (ss : List Int), vs = [.ref p, .ref a] ∧ PoolAt H p b ∧ H a = some (.lst (ss.map V.int)) ∧ a ≠ p ∧ ss.Nodup ∧ ss.length ≤ 30 ∧
  ∀ H' d (ps : List (Int × Int)), But p H H' → PoolAt H' p b → H d = none → H' d = some (.dK (kvs ps)) → ps.map (·.1) = ss → (∀ q ∈ ps, 0 ≤ q.2 ∧ q.2 ≤ 1000) → Q (.ref d) H'
abbrev N31 : List Str := ["_law_pool", "_law_some", "_law_one"]
theorem sc31 : FnScope N31 ["_law_pool", "_law_some"] (defScope (topS 31)) := ⟨rfl, rfl, rfl, by decide +kernel, rfl, by decide +kernel, by decide +kernel⟩
theorem small_menu {m : Int} (m0 : 0 ≤ m) (m1 : m < 30) {x : V} (h : x ∈ [V.int 0, .int 1, .int 1, .int 2, .int 5, .int 1000, .int m]) : ∃ z : Int, x = .int z ∧ 0 ≤ z ∧ z ≤ 1000 := by
  simp only [List.mem_cons, List.not_mem_nil, or_false] at h
  rcases h with h | h | h | h | h | h | h
  · exact ⟨_, h, by decide, by decide⟩
  · exact ⟨_, h, by decide, by decide⟩
  · exact ⟨_, h, by decide, by decide⟩
  · exact ⟨_, h, by decide, by decide⟩
  · exact ⟨_, h, by decide, by decide⟩
  · exact ⟨_, h, by decide, by decide⟩
  · exact ⟨_, h, m0, by omega⟩
theorem ok_lweights (T : Txt K mg) : Def P w K mg base 3 "_law_weights" ["_law_pool", "_law_some"] spLWeights := by
  have GD : Def P w K mg base 1 _ _ _ := ok_draw T
  have GP : Def P w K mg base 2 _ _ _ := ok_pick T
  refine def_mk T.f31 sc31 (fun _ _ _ _ _ _ us hl => match us, hl with | [_, _], _ => rfl) (fun vs H Q E h => ?_) (fun f cdv A outer s H vs Q E hr h => ?_)
  · obtain ⟨p, b, a, ss, rfl, _⟩ := h
    rfl
  · obtain ⟨p, b, a, ss, rfl, hp, ha, nap, nd, hl, q⟩ := h
    refine ⟨_, pss_one (ps_ret (pe_callTy (call_dictP rfl) (by rfl) T.tDict bDict (pa_cons (pe_lc (own := [("_law_one", 2)]) (g := gName 2) (tt := tYes) (by rfl) sc31.nd (pi_list (pv 1)) (blkOk_by (own := [("_law_one", 2)]) (N := N31) (sc := defScope (topS 31)) (by decide +kernel))
        (fun _ _ _ _ _ => pg_name (i := 2) sc31.nd rfl (Or.inl rfl)) (fun _ _ _ _ _ => pts_nil)
        (fun _ _ _ _ _ => pe_tup (pa_cons (pv 2) (pa_cons (pe_def GP hr (by decide) (pa_cons (pv 0) (pa_cons (pe_lst (pa_cons pe_int (pa_cons pe_int (pa_cons pe_int (pa_cons pe_int (pa_cons pe_int (pa_cons pe_int (pa_cons (pe_def GD hr (by decide) (pa_cons (pv 0) (pa_cons pe_int pa_nil))) pa_nil)))))))) pa_nil))) pa_nil)))) pa_nil))), ?_⟩
    refine ⟨.ref a, rfl, a, rfl, ⟨_, .inl (.inl ha)⟩, fun D new => ?_⟩
    obtain ⟨⟨op, hop⟩, _⟩ := hp.some
    have nDp : D ≠ p := (ne_of_none hop new).symm
    obtain ⟨nDp', nDb⟩ := not_pool hp new
    refine lc_list (K := K) (a := a) (xs := ss.map V.int) (fun i H' => But p H H' ∧ PoolAt H' p b ∧ ∃ (ts : List Addr) (qs : List (Int × Int)), H' D = some (.lst (ts.map V.ref)) ∧ Paired (fun t z => H' t = some (.tup [.int z.1, .int z.2])) ts qs ∧ qs.map (·.1) = ss.take i ∧ ∀ z ∈ qs, 0 ≤ z.2 ∧ z.2 ≤ 1000)
      ⟨(But.of (same_upd new)), hp.put nDp nDb, [], [], upd_same, .nil, rfl, fun z hz => absurd hz List.not_mem_nil⟩ (fun i H' _ h => .inl (.inl (h.1 _ _ nap ha))) ?_ ?_
    · rintro i x H2 hx ⟨b2, p2, ts, qs, e2, pr, eq, bd⟩
      rw [List.getElem?_map] at hx
      obtain ⟨s', hs', rfl⟩ := Option.map_eq_some_iff.mp hx
      refine ⟨rfl, .int s', rfl, .ref p, rfl, .ref p, rfl, p, b, 30, rfl, by decide, p2, fun m H3 m0 m1 b3 p3 => ?_⟩
      refine ⟨by show 7 ≤ sizeLine; decide, fun l nl => ?_⟩
      obtain ⟨nlp, nlb⟩ := not_pool p3 nl
      refine ⟨p, b, l, _, rfl, p3.put nlp nlb, upd_same, nlp, by simp, fun y H4 hy b4 p4 => ?_⟩
      obtain ⟨z, rfl, z0, z1⟩ := small_menu m0 m1 hy
      refine ⟨by show 2 ≤ sizeLine; decide, fun t nt => ?_⟩
      have b23 : But p H2 H4 := (b3.trans (But.of (same_upd nl))).trans b4
      have e4 : H4 D = some (.lst (ts.map V.ref)) := b23 _ _ nDp e2
      have ntD : t ≠ D := (ne_of_none e4 nt).symm
      obtain ⟨ntp, ntb⟩ := not_pool p4 nt
      have hts : ts.length = qs.length := Paired.length pr
      have hqs : qs.length ≤ i := by
        have := congrArg List.length eq
        rw [List.length_map, List.length_take] at this
        omega
      have hi : i < ss.length := (List.getElem?_eq_some_iff.mp hs').1
      refine ⟨ts.map V.ref, by rw [upd_ne ntD.symm]; exact e4, small_line (by rw [List.length_map]; omega), ?_⟩
      obtain ⟨zp, nsp, hpp, _⟩ := id p2
      have keep : ∀ (c : Addr) (xs : List V), H2 c = some (.tup xs) → (upd (upd H4 t (.tup [.int s', .int z])) D (.lst (ts.map V.ref ++ [.ref t]))) c = some (.tup xs) := fun c xs e => by
        have ncp : c ≠ p := ne_of e hpp (by intro q; cases q)
        have e' := b23 _ _ ncp e
        rw [upd_ne (ne_of e' e4 (by intro q; cases q)), upd_ne (ne_of_none e' nt)]
        exact e'
      refine ⟨((b2.trans b23).put (b2.trans b23 |>.free ntp nt)).put new, (p4.put ntp ntb).put nDp nDb, ts ++ [t], qs ++ [(s', z)], ?_, paired_snoc ?_ (Paired.mapP pr fun c y e => keep c _ e), ?_, fun y hy => ?_⟩
      · rw [upd_same, List.map_append]
        rfl
      · rw [upd_ne ntD, upd_same]
      · rw [List.map_append, eq, List.take_add_one, hs']
        rfl
      · rcases List.mem_append.mp hy with u | u
        · exact bd y u
        · rw [List.mem_singleton.mp u]
          exact ⟨z0, z1⟩
    · rintro H2 ⟨b2, p2, ts, qs, e2, pr, eq, bd⟩
      rw [List.length_map, List.take_length] at eq
      refine ⟨D, ts, kvs qs, rfl, .inl (.inl e2), ?_, fun d nd2 => ?_⟩
      · unfold kvs
        clear eq bd e2
        induction pr with
        | nil => exact .nil
        | cons h _ ih => exact .cons (.inl (.inl h)) ih
      · obtain ⟨ndp, ndb⟩ := not_pool p2 nd2
        have em : mergeK [] (kvs qs) = kvs qs := merge_kvs qs [] (by rw [eq]; exact nd) fun _ _ p hp => absurd hp List.not_mem_nil
        rw [em]
        exact q _ d qs (b2.put (b2.free ndp nd2)) (p2.put ndp ndb) (b2.free ndp nd2) upd_same eq bd
/-! ### _law_loss -/
def spLoss : Sp := fun vs H Q _ => ∃ (a : Addr) (bs : List Int) (z : Int), vs = [.ref a, .int z] ∧ H a = some (.lst (bs.map V.int)) ∧ Q (oV (lossW bs z)) H
abbrev N32 : List Str := ["_law_bounds", "_law_size", "_law_bound"]
theorem sc32 : FnScope N32 ["_law_bounds", "_law_size"] (defScope (topS 32)) := ⟨rfl, rfl, rfl, by decide +kernel, rfl, by decide +kernel, by decide +kernel⟩
theorem ok_loss (T : Txt K mg) : Def P w K mg base 1 "_law_loss" ["_law_bounds", "_law_size"] spLoss := by
  refine def_mk T.f32 sc32 (fun _ _ _ _ _ _ us hl => match us, hl with | [_, _], _ => rfl) (fun vs H Q E h => ?_) (fun f cdv A outer s H vs Q E hr h => ?_)
  · obtain ⟨a, bs, z, rfl, _⟩ := h
    rfl
  · obtain ⟨a, bs, z, rfl, ha, q⟩ := h
    refine ⟨_, pss_cons (ps_for PassesOwn.never rfl (pi_list (pv 0)) (pg_name (i := 2) sc32.nd rfl (.inl rfl))
        (pss_one (ps_if (pt_cmpR op_ge (pv 2) (pv 1) (nomark _)) (pss_one (ps_ret (pe_op op_sub (pv 2) (pv 1)))) pss_nil)))
      (pss_one (ps_ret pe_non)), ?_⟩
    refine ⟨.ref a, rfl, a, rfl, ⟨_, .inl (.inl ha)⟩, for_list (K := K) (a := a) (xs := bs.map V.int) (fun i σ H' => ∃ y2, σ = [some (.ref a), some (.int z), y2] ∧ H' = H ∧ (bs.take i).find? (fun b => decide (z ≤ b)) = none)
      ⟨none, rfl, rfl, rfl⟩ (fun i σ H' _ ⟨_, _, e, _⟩ => e ▸ .inl (.inl ha)) ?_ ?_⟩
    · rintro i x σ H2 hx ⟨y2, rfl, rfl, hn⟩
      rw [List.getElem?_map] at hx
      obtain ⟨x, hs', rfl⟩ := Option.map_eq_some_iff.mp hx
      refine ⟨.int x, rfl, .int z, rfl, x, z, rfl, rfl, _, rfl, ite2 (fun c => ?_) (fun c => ?_)⟩
      · have c' := of_decide_eq_true c
        refine ⟨.int x, rfl, .int z, rfl, x, z, rfl, rfl, ?_⟩
        have hi := (List.getElem?_eq_some_iff.mp hs').1
        have e1 : bs.find? (fun b => decide (z ≤ b)) = some x := by
          have e2 : bs = bs.take i ++ x :: bs.drop (i + 1) := by
            have e3 : bs.drop i = x :: bs.drop (i + 1) := by
              rw [List.drop_eq_getElem_cons hi]
              congr 1
              exact Option.some.inj ((List.getElem?_eq_getElem hi).symm.trans hs')
            rw [← e3, List.take_append_drop]
          rw [e2, List.find?_append, hn, Option.none_or, List.find?_cons_of_pos (p := fun b : Int => decide (z ≤ b)) (decide_eq_true c')]
        have e2 : lossW bs z = some (x - z) := by
          unfold lossW
          rw [e1]
          rfl
        rw [e2] at q
        exact q
      · have c' : ¬ z ≤ x := fun h => c (decide_eq_true h)
        refine ⟨_, rfl, rfl, ?_⟩
        rw [List.take_add_one, hs', List.find?_append, hn, Option.none_or]
        exact List.find?_cons_of_neg (p := fun b : Int => decide (z ≤ b)) (by simpa using c')
    · rintro σ H2 ⟨y2, rfl, rfl, hn⟩
      rw [List.length_map, List.take_length] at hn
      have e2 : lossW bs z = none := by
        unfold lossW
        rw [hn]
        rfl
      rw [e2] at q
      exact q
/-! ### _law_sum -/
def spSum : Sp := fun vs H Q _ => ∃ (a d : Addr) (bs : List Int) (ps : List (Int × Int)), vs = [.ref a, .ref d] ∧ H a = some (.lst (bs.map V.int)) ∧ H d = some (.dK (kvs ps)) ∧ OkPs ps ∧ (∀ z ∈ ps.map (·.1), ∃ l, lossW bs z = some l) ∧
  ∀ H', Same H H' → Q (.int (costW (wtOf ps) bs (ps.map (·.1)))) H'
theorem cost_snoc (wt : Int → Int) (bs ss : List Int) (z : Int) : costW wt bs (ss ++ [z]) = costW wt bs ss + lossD bs z * wt z := by
  rw [cost_app]
  congr 1
  unfold costW
  rw [List.map_cons, List.map_nil, List.sum_cons, List.sum_nil, Int.add_zero]
abbrev N33 : List Str := ["_law_bounds", "_law_weights_here", "_law_gained", "_law_size", "_law_one"]
theorem sc33 : FnScope N33 ["_law_bounds", "_law_weights_here"] (defScope (topS 33)) := ⟨rfl, rfl, rfl, by decide +kernel, rfl, by decide +kernel, by decide +kernel⟩
theorem ok_sum (T : Txt K mg) : Def P w K mg base 2 "_law_sum" ["_law_bounds", "_law_weights_here"] spSum := by
  have GL : Def P w K mg base 1 _ _ _ := ok_loss T
  refine def_mk T.f33 sc33 (fun _ _ _ _ _ _ us hl => match us, hl with | [_, _], _ => rfl) (fun vs H Q E h => ?_) (fun f cdv A outer s H vs Q E hr h => ?_)
  · obtain ⟨a, d, bs, ps, rfl, _⟩ := h
    rfl
  · obtain ⟨a, d, bs, ps, rfl, ha, hd, ok, hs, q⟩ := h
    refine ⟨_, pss_cons (ps_set (i := 2) sc33.nd rfl (.inl rfl) pe_int)
      (pss_cons (ps_lock (ps_for PassesOwn.never rfl (pi_keys (pv 1)) (pg_name (i := 3) sc33.nd rfl (.inl rfl))
        (pss_cons (ps_set (i := 4) sc33.nd rfl (.inl rfl) (pe_def GL hr (by decide) (pa_cons (pv 0) (pa_cons (pv 3) pa_nil))))
        (pss_cons (ps_if (pt_cmpR op_isN (pv 4) pe_non (nomark _)) (pss_one (ps_ret pe_non)) pss_nil)
        (pss_one (ps_set (i := 2) sc33.nd rfl (.inl rfl) (pe_op op_add (pv 2) (pe_op op_mul (pv 4) (pe_dget (hu_of hr) (pv 1) (pv 3) (fun _ _ => rfl))))))))))
      (pss_one (ps_ret (pv 2)))), ?_⟩
    refine ⟨d, .dK (kvs ps), hd, trivial, fun od => ?_⟩
    have nad : a ≠ d := ne_of ha hd (by intro z; cases z)
    refine ⟨.ref d, rfl, d, od, rfl, .inl ⟨kvs ps, upd_same, ?_⟩⟩
    refine for_it walk_keys (fun i σ H' => ∃ y3 y4, σ = [some (.ref a), some (.ref d), some (.int (costW (wtOf ps) bs ((ps.map (·.1)).take i))), y3, y4] ∧ H' = upd H d (.frz od (.dK (kvs ps)))) ⟨none, none, rfl, rfl⟩ (fun i σ H' _ ⟨_, _, _, e⟩ => by rw [e, upd_same]) ?_ ?_
    · rintro i x σ H2 H3 hi ⟨y3, y4, rfl, rfl⟩ ⟨rfl, k, v, hx, rfl⟩
      have hki : ((ps.map (·.1)).map Sum.inl)[i]? = some k := by rw [← kvs_keys, List.getElem?_map, hx]; rfl
      rw [List.getElem?_map] at hki
      obtain ⟨z, h1, rfl⟩ := Option.map_eq_some_iff.mp hki
      have hm := List.mem_of_getElem? h1
      obtain ⟨l, hl⟩ := hs z hm
      refine ⟨.ref a, rfl, .int z, rfl, a, bs, z, rfl, by rw [upd_ne nad]; exact ha, ?_⟩
      rw [hl]
      refine ⟨.int l, rfl, rfl, _, rfl, iteF ?_⟩
      have bz := wt_bounds ok z
      refine ⟨_, rfl, .int l, rfl, .ref d, rfl, .int z, rfl, d, .int (wtOf ps z), rfl, .inl ⟨kvs ps, Sum.inl z, .inr ⟨od, upd_same⟩, rfl, (val_kvs hm).symm⟩, l, wtOf ps z, rfl, rfl, .inr ⟨by omega, by omega⟩, _, _, rfl, rfl, ?_⟩
      refine ⟨some (.int z), some (.int l), ?_, rfl⟩
      have el : lossD bs z = l := by
        unfold lossD
        rw [hl]
        rfl
      rw [List.take_add_one, h1]
      show _ = [some (V.ref a), some (V.ref d), some (V.int (costW (wtOf ps) bs ((ps.map (·.1)).take i ++ [z]))), some (V.int z), some (V.int l)]
      rw [cost_snoc, el]
      rfl
    · rintro σ H2 ⟨y3, y4, rfl, rfl⟩
      rw [kvs_length, ← List.length_map (f := fun p : Int × Int => p.1) (as := ps), List.take_length]
      refine ⟨upd_same, _, rfl, q _ ?_⟩
      exact (Same.refl _).unlock hd
end
end K67

/-! _law_sets, _law_serving -/
namespace K67
open PySem PySem.Spec PyProof.Rows L2
theorem keep_snoc (l : List (List Int)) (j : Nat) (b : List Int) (p : List Int → Bool) (f : List Int → List Int) (h : l[j]? = some b) : ((l.take (j + 1)).filter p).map f = ((l.take j).filter p).map f ++ (if p b = true then [f b] else []) := by
  rw [List.take_add_one, h, Option.toList_some, List.filter_append, List.map_append]
  congr 1
  cases e : p b <;> simp [e]
theorem setsW_take (ns : List Int) (n : Int) (i : Nat) (x : Int) (h : ns[i]? = some x) : setsW (ns.take (i + 1)) n = setStep n (setsW (ns.take i) n) x := by
  rw [List.take_add_one, h, Option.toList_some, setsW_snoc]
theorem setsW_most (n : Int) (l : List Int) : (setsW l n).length ≤ 2 ^ l.length := by
  have h := setsW_count n l.reverse
  rwa [List.reverse_reverse, List.length_reverse] at h
theorem two_pow_le {k : Nat} (h : k ≤ 12) : 2 ^ k ≤ 4096 := Nat.le_trans (Nat.pow_le_pow_right (by decide) h) (by decide)
theorem cut_front (xs : List V) : cutV xs none (some (-1)) = xs.dropLast := by
  have e : HT.sIx xs.length xs.length (some (-1)) = xs.length - 1 := by
    show (if (-1 : Int) < 0 then ((-1 : Int) + (xs.length : Int)).toNat else min (-1 : Int).toNat xs.length) = xs.length - 1
    rw [if_pos (by decide)]
    omega
  unfold cutV
  rw [e, HT.sIx_none, List.drop_zero, Nat.sub_zero, List.dropLast_eq_take]
section
variable {P : Program} {w : World} {K : PySem.W.Frag} {mg : Str → Option Value} {base : Heap}
def spSets : Sp := fun vs H Q _ => ∃ (a : Addr) (ns : List Int) (n : Nat), vs = [.ref a, .int (n : Int)] ∧ H a = some (.lst (ns.map V.int)) ∧ ns.length ≤ 12 ∧ ∀ H' g, Same H H' → IntsAt H' g (setsW ns n) → Q (.ref g) H'
abbrev N34 : List Str := ["_law_some", "_law_often", "_law_gained", "_law_one", "_law_row"]
theorem sc34 : FnScope N34 ["_law_some", "_law_often"] (defScope (topS 34)) := ⟨rfl, rfl, rfl, by decide +kernel, rfl, by decide +kernel, by decide +kernel⟩
theorem ok_sets (T : Txt K mg) : Def P w K mg base 1 "_law_sets" ["_law_some", "_law_often"] spSets := by
  refine def_mk T.f34 sc34 (fun _ _ _ _ _ _ us hl => match us, hl with | [_, _], _ => rfl) (fun vs H Q E h => ?_) (fun f cdv A outer s H vs Q E hr h => ?_)
  · obtain ⟨a, ns, n, rfl, _⟩ := h
    rfl
  · obtain ⟨a, ns, n, rfl, ha, hl, q⟩ := h
    refine ⟨_, pss_cons (ps_set (i := 2) sc34.nd rfl (.inl rfl) (pe_lst (pa_cons (pe_lst pa_nil) pa_nil)))
      (pss_cons (ps_for PassesOwn.never rfl (pi_list (pv 0)) (pg_name (i := 3) sc34.nd rfl (.inr rfl))
        (pss_one (ps_set (i := 2) sc34.nd rfl (.inl rfl) (pe_op op_cat (pv 2) (pe_lc (own := [("_law_row", 4)]) (g := gName 4) (by rfl) sc34.nd (pi_list (pv 2)) (blkOk_by (own := [("_law_row", 4)]) (N := N34) (sc := defScope (topS 34)) (by decide +kernel))
            (fun _ _ _ _ _ => pg_name (i := 4) sc34.nd rfl (Or.inl rfl)) (fun _ _ _ _ _ => pts_one (pt_cmpR op_lt (pe_len K (pv 4) T.tLen) (pv 1) (nomark _)))
            (fun _ _ _ _ _ => pe_op op_cat (pv 4) (pe_lst (pa_cons (pv 3) pa_nil))))))))
      (pss_one (ps_ret (pv 2)))), ?_⟩
    refine ⟨Nat.zero_le _, fun e ne => ⟨by show 1 ≤ sizeLine; decide, fun g ng => ?_⟩⟩
    have s1 := (same_upd (o := .lst []) ne).trans (same_upd (o := .lst [.ref e]) ng)
    have neg : e ≠ g := ne_of_none upd_same ng
    refine ⟨.ref a, rfl, a, rfl, ⟨_, .inl (.inl (s1 _ _ ha))⟩, for_list (K := K) (a := a) (xs := ns.map V.int) (fun i σ H' => ∃ g y3, σ = [some (.ref a), some (.int (n : Int)), some (.ref g), y3, none] ∧ Same H H' ∧ IntsAt H' g (setsW (ns.take i) n))
      ⟨g, none, rfl, s1, [e], upd_same, .cons ?_ .nil⟩ (fun i σ H' _ ⟨_, _, _, s, _⟩ => .inl (.inl (s _ _ ha))) ?_ ?_⟩
    · show _ = some (HO.lst [])
      rw [upd_ne neg, upd_same]
    · rintro i x σ H2 hx ⟨g2, y3, rfl, s2, qs, hg, hq⟩
      rw [List.getElem?_map] at hx
      obtain ⟨x, hs', rfl⟩ := Option.map_eq_some_iff.mp hx
      have hi := (List.getElem?_eq_some_iff.mp hs').1
      have hlen : qs.length = (setsW (ns.take i) n).length := Paired.length hq
      have hcnt : (setsW (ns.take i) n).length ≤ 4096 := Nat.le_trans (setsW_most _ _) (two_pow_le (by rw [List.length_take]; omega))
      -- gained + [row + [one] for row in gained if len(row) < often]
      refine ⟨.ref g2, rfl, .ref g2, rfl, g2, rfl, ⟨_, .inl (.inl hg)⟩, fun D new => ?_⟩
      refine lc_it walk_list (fun j H' => Same H2 H' ∧ ∃ rs : List Addr, H' D = some (.lst (rs.map V.ref)) ∧ IntsRows H' rs ((((setsW (ns.take i) n).take j).filter fun b => decide ((b.length : Int) < n)).map fun b => b ++ [x]) ∧ ∀ r ∈ rs, r ≠ D)
        ⟨same_upd new, [], upd_same, .nil, fun r hr => absurd hr List.not_mem_nil⟩ (fun j H' _ h => h.1.seq (.inl (.inl hg))) ?_ ?_
      · rintro j y H3 H3' hj ⟨s3, rs, e3, r3, f3⟩ ⟨rfl, hy⟩
        rw [List.getElem?_map] at hy
        obtain ⟨qj, hqj, rfl⟩ := Option.map_eq_some_iff.mp hy
        rw [List.length_map] at hj
        have hb : ∃ b, (setsW (ns.take i) n)[j]? = some b := ⟨_, List.getElem?_eq_getElem (by omega)⟩
        obtain ⟨b, hb⟩ := hb
        obtain ⟨q', hq1, hq2⟩ := paired_get hq hb
        have eq' : q' = qj := Option.some.inj (hq1.symm.trans hqj)
        subst eq'
        have hb3 := s3 _ _ hq2
        have hrs : rs.length ≤ j := by
          have h1 := Paired.length r3
          rw [List.length_map] at h1
          have h2 := List.length_filter_le (fun b : List Int => decide ((b.length : Int) < n)) ((setsW (ns.take i) n).take j)
          rw [List.length_take] at h2
          omega
        refine ⟨rfl, .ref q', rfl, q', _, rfl, .inl (.inl hb3), .int (n : Int), rfl, _, (n : Int), rfl, rfl, _, rfl, ?_⟩
        rw [List.length_map]
        have ks := keep_snoc (setsW (ns.take i) n) j b (fun b => decide ((b.length : Int) < n)) (fun b => b ++ [x]) hb
        refine ite2 (fun c => ?_) (fun c => ?_)
        · refine ⟨.ref q', rfl, .int x, rfl, by show 1 ≤ sizeLine; decide, fun l nl => ⟨q', l, _, _, rfl, rfl, (same_upd nl) _ _ hb3, upd_same, ?_, fun r nr => ?_⟩⟩
          · have h1 := setsW_short (List.mem_of_getElem? hb)
            rw [List.length_take] at h1
            rw [List.length_map, List.length_singleton]
            exact Nat.le_of_lt (small_line (by omega))
          · have s4 := (same_upd (o := .lst [.int x]) nl).trans (same_upd (o := .lst (b.map V.int ++ [.int x])) nr)
            have s34 := s3.trans s4
            have e4 := s4 _ _ e3
            have nrD : r ≠ D := (ne_of_none ((same_upd (o := .lst [.int x]) nl) _ _ e3) nr).symm
            refine ⟨_, e4, small_line (by rw [List.length_map]; omega), s34.put new, rs ++ [r], by rw [upd_same, List.map_append]; rfl, ?_, fun r' hr' => ?_⟩
            rotate_left
            · rcases List.mem_append.mp hr' with z | z
              · exact f3 r' z
              · rw [List.mem_singleton.mp z]
                exact nrD
            rw [ks, if_pos c]
            have hD2 : H2 D = none := new
            refine paired_app ?_ (.cons ?_ .nil)
            · have key : ∀ {us : List Addr} {bs : List (List Int)}, (∀ r ∈ us, r ≠ D) → IntsRows H3' us bs → IntsRows (upd (upd (upd H3' l (.lst [.int x])) r (.lst (b.map V.int ++ [.int x]))) D (.lst (rs.map V.ref ++ [.ref r]))) us bs := by
                intro us bs hu h
                induction h with
                | nil => exact .nil
                | cons a _ ih => exact .cons (by rw [upd_ne (hu _ List.mem_cons_self)]; exact s4 _ _ a) (ih fun q hq => hu q (List.mem_cons_of_mem _ hq))
              exact key f3 r3
            · rw [upd_ne nrD, upd_same, List.map_append]
              rfl
        · rw [ks, if_neg c, List.append_nil]
          exact ⟨s3, rs, e3, r3, f3⟩
      · rintro H3 ⟨s3, rs, e3, r3, _⟩
        rw [List.length_map, hlen, List.take_length] at r3
        have hrs : rs.length ≤ 4096 := by
          have h1 := Paired.length r3
          rw [List.length_map] at h1
          have h2 := List.length_filter_le (fun b : List Int => decide ((b.length : Int) < n)) (setsW (ns.take i) n)
          omega
        refine ⟨g2, D, _, _, rfl, rfl, s3 _ _ hg, e3, Nat.le_of_lt (small_line (by rw [List.length_map, List.length_map]; omega)), fun p np => ?_⟩
        refine ⟨p, _, rfl, (s2.trans s3).put ((s2.trans s3).free np), qs ++ rs, by rw [upd_same, List.map_append], ?_⟩
        rw [setsW_take ns n i x hs']
        exact IntsRows.same (same_upd np) (paired_app (IntsRows.same s3 hq) r3)
    · rintro σ H2 ⟨g2, y3, rfl, s2, h2⟩
      rw [List.length_map, List.take_length] at h2
      exact ⟨.ref g2, rfl, q H2 g2 s2 h2⟩
/-! ### _law_serving -/
def spServing : Sp := fun vs H Q _ => ∃ (a : Addr) (ss : List Int) (n : Nat) (pre : List Int) (x : Int), vs = [.ref a, .int ((n + 1 : Nat) : Int)] ∧ H a = some (.lst (ss.map V.int)) ∧ ss.length ≤ 12 ∧ srt ss = pre ++ [x] ∧
  ∀ H' g, Same H H' → IntsAt H' g ((setsW pre n).map fun b => b ++ [x]) → Q (.ref g) H'
abbrev N35 : List Str := ["_law_some", "_law_often", "_law_row", "_law_one", "_law_bounds"]
theorem sc35 : FnScope N35 ["_law_some", "_law_often"] (defScope (topS 35)) := ⟨rfl, rfl, rfl, by decide +kernel, rfl, by decide +kernel, by decide +kernel⟩
theorem ok_serving (T : Txt K mg) : Def P w K mg base 2 "_law_serving" ["_law_some", "_law_often"] spServing := by
  have GS : Def P w K mg base 1 _ _ _ := ok_sets T
  refine def_mk T.f35 sc35 (fun _ _ _ _ _ _ us hl => match us, hl with | [_, _], _ => rfl) (fun vs H Q E h => ?_) (fun f cdv A outer s H vs Q E hr h => ?_)
  · obtain ⟨a, ss, n, pre, x, rfl, _⟩ := h
    rfl
  · obtain ⟨a, ss, n, pre, x, rfl, ha, hl, hs, q⟩ := h
    refine ⟨_, pss_cons (ps_set (i := 2) sc35.nd rfl (.inr rfl) (pe_callB cr_sorted (by rfl) T.tSorted bSorted (pa_cons (pe_lc (own := [("_law_one", 3)]) (g := gName 3) (tt := tYes) (by rfl) sc35.nd (pi_list (pv 0)) (blkOk_by (own := [("_law_one", 3)]) (N := N35) (sc := defScope (topS 35)) (by decide +kernel))
          (fun _ _ _ _ _ => pg_name (i := 3) sc35.nd rfl (Or.inl rfl)) (fun _ _ _ _ _ => pts_nil) (fun _ _ _ _ _ => pe_callTy call_int1 (by rfl) T.tInt bInt (pa_cons (pv 3) pa_nil))) pa_nil)))
      (pss_one (ps_ret (pe_lc (own := [("_law_bounds", 4)]) (g := gName 4) (tt := tYes) (by rfl) sc35.nd (pi_list (pe_def GS hr (by decide) (pa_cons (pe_slice sl_list (pv 2) po_none (po_some (pe_un un_neg pe_int))) (pa_cons (pe_op op_sub (pv 1) pe_int) pa_nil)))) (blkOk_by (own := [("_law_bounds", 4)]) (N := N35) (sc := defScope (topS 35)) (by decide +kernel))
          (fun _ _ _ _ _ => pg_name (i := 4) sc35.nd rfl (Or.inl rfl)) (fun _ _ _ _ _ => pts_nil) (fun _ _ _ _ _ => pe_op op_cat (pv 4) (pe_lst (pa_cons (pe_at K (pv 2) (pe_op op_sub (pe_len K (pv 2) T.tLen) pe_int)) pa_nil)))))), ?_⟩
    refine ⟨.ref a, rfl, a, rfl, ⟨_, .inl (.inl ha)⟩, fun D new => lcI (ns := ss) new (fun z => .int z) (small_line (by omega)) (.inl (.inl ha)) (fun i z H2 hz s2 K1 k1 => ⟨rfl, .int z, rfl, .inl ⟨z, rfl, k1 H2 (Same.refl _)⟩⟩) fun H2 s2 e2 => ?_⟩
    refine ⟨D, ss, rfl, .inl (.inl e2), by omega, fun row r perm rising nr => ?_⟩
    have er : row = pre ++ [x] := (srt_unique perm rising).trans hs
    subst er
    have hrl : pre.length + 1 = ss.length := by
      have := perm.length_eq
      rwa [List.length_append, List.length_singleton] at this
    have s3 := s2.trans (same_upd (o := .lst ((pre ++ [x]).map V.int)) nr)
    refine ⟨.ref r, rfl, 1, rfl, _, rfl, r, _, rfl, .inl (.inl upd_same), fun c nc => ?_⟩
    have s4 := s3.trans (same_upd (o := .lst (cutV ((pre ++ [x]).map V.int) none (some (-1)))) nc)
    have ecut : cutV ((pre ++ [x]).map V.int) none (some (-1)) = pre.map V.int := by
      rw [cut_front, List.map_append]
      exact List.dropLast_concat
    have hr4 : ∀ HH : Hp, (upd (upd HH r (.lst ((pre ++ [x]).map V.int))) c (.lst (cutV ((pre ++ [x]).map V.int) none (some (-1))))) c = some (.lst (pre.map V.int)) := fun HH => by rw [upd_same, ecut]
    refine ⟨.int ((n + 1 : Nat) : Int), rfl, _, 1, rfl, rfl, c, pre, n, ?_, hr4 _, by omega, fun H5 g s5 h5 => ?_⟩
    · have e : (((n + 1 : Nat) : Int) - 1) = (n : Int) := by omega
      show [V.ref c, V.int (((n + 1 : Nat) : Int) - 1)] ++ [] = _
      rw [e]
      rfl
    obtain ⟨qs, hg, hq⟩ := h5
    have hr5 : H5 r = some (.lst ((pre ++ [x]).map V.int)) := s5 _ _ ((same_upd (o := .lst (cutV ((pre ++ [x]).map V.int) none (some (-1)))) nc) _ _ upd_same)
    have hlen : qs.length = (setsW pre n).length := Paired.length hq
    have hcnt : (setsW pre n).length ≤ 4096 := Nat.le_trans (setsW_most _ _) (two_pow_le (by omega))
    refine ⟨g, rfl, ⟨_, .inl (.inl hg)⟩, fun D2 new2 => ?_⟩
    refine lc_it walk_list (fun j H' => Same H5 H' ∧ ∃ rs : List Addr, H' D2 = some (.lst (rs.map V.ref)) ∧ IntsRows H' rs (((setsW pre n).take j).map fun b => b ++ [x]) ∧ ∀ r ∈ rs, r ≠ D2)
      ⟨same_upd new2, [], upd_same, .nil, fun r hr => absurd hr List.not_mem_nil⟩ (fun j H' _ h => h.1.seq (.inl (.inl hg))) ?_ ?_
    · rintro j y H6 H6' hj ⟨s6, rs, e6, r6, f6⟩ ⟨rfl, hy⟩
      rw [List.getElem?_map] at hy
      obtain ⟨qj, hqj, rfl⟩ := Option.map_eq_some_iff.mp hy
      rw [List.length_map] at hj
      obtain ⟨b, hb⟩ : ∃ b, (setsW pre n)[j]? = some b := ⟨_, List.getElem?_eq_getElem (by omega)⟩
      obtain ⟨q', hq1, hq2⟩ := paired_get hq hb
      have eq' : q' = qj := Option.some.inj (hq1.symm.trans hqj)
      subst eq'
      have hb6 := s6 _ _ hq2
      have hr6 := s6 _ _ hr5
      have hrs : rs.length ≤ j := by
        have h1 := Paired.length r6
        rw [List.length_map, List.length_take] at h1
        omega
      have hlast : atI ((pre ++ [x]).map V.int) ((((pre ++ [x]).map V.int).length : Int) - 1) = some (.int x) := by
        refine at_of (j := pre.length) ?_ ?_
        · rw [List.length_map, List.length_append, List.length_singleton]; omega
        · rw [List.getElem?_map, List.getElem?_append_right (Nat.le_refl _), Nat.sub_self]
          rfl
      refine ⟨rfl, .ref q', rfl, .ref r, rfl, .ref r, rfl, r, _, rfl, .inl (.inl hr6), _, 1, rfl, rfl, r, _, _, _, rfl, rfl, .inl (.inl hr6), hlast, by show 1 ≤ sizeLine; decide, fun l nl => ⟨q', l, _, _, rfl, rfl, (same_upd nl) _ _ hb6, upd_same, ?_, fun u nu => ?_⟩⟩
      · have h1 := setsW_short (List.mem_of_getElem? hb)
        rw [List.length_map, List.length_singleton]
        exact Nat.le_of_lt (small_line (by omega))
      · have s7 := (same_upd (o := .lst [.int x]) nl).trans (same_upd (o := .lst (b.map V.int ++ [.int x])) nu)
        have e7 := s7 _ _ e6
        have nuD : u ≠ D2 := (ne_of_none ((same_upd (o := .lst [.int x]) nl) _ _ e6) nu).symm
        refine ⟨_, e7, small_line (by rw [List.length_map]; omega), (s6.trans s7).put new2, rs ++ [u], by rw [upd_same, List.map_append]; rfl, ?_, fun r' hr' => ?_⟩
        · rw [List.take_add_one, hb, Option.toList_some, List.map_append]
          refine paired_app ?_ (.cons ?_ .nil)
          · have key : ∀ {us : List Addr} {bs : List (List Int)}, (∀ r ∈ us, r ≠ D2) → IntsRows H6' us bs → IntsRows (upd (upd (upd H6' l (.lst [.int x])) u (.lst (b.map V.int ++ [.int x]))) D2 (.lst (rs.map V.ref ++ [.ref u]))) us bs := by
              intro us bs hu h
              induction h with
              | nil => exact .nil
              | cons a _ ih => exact .cons (by rw [upd_ne (hu _ List.mem_cons_self)]; exact s7 _ _ a) (ih fun q hq => hu q (List.mem_cons_of_mem _ hq))
            exact key f6 r6
          · rw [upd_ne nuD, upd_same, List.map_append]
            rfl
        · rcases List.mem_append.mp hr' with z | z
          · exact f6 r' z
          · rw [List.mem_singleton.mp z]
            exact nuD
    · rintro H6 ⟨s6, rs, e6, r6, _⟩
      rw [List.length_map, hlen, List.take_length] at r6
      exact q H6 D2 ((s4.trans s5).trans s6) ⟨rs, e6, r6⟩
end
end K67

/-! _law_row_of, _law_run, _law_entry, _law_table -/
namespace K67
open PySem PySem.Spec PyProof.Rows L2
section
variable {P : Program} {w : World} {K : PySem.W.Frag} {mg : Str → Option Value} {base : Heap}
abbrev N36 : List Str := ["_law_weights_here", "_law_size"]
theorem sc36 : FnScope N36 ["_law_weights_here"] (defScope (topS 36)) := ⟨rfl, rfl, rfl, by decide +kernel, rfl, by decide +kernel, by decide +kernel⟩
theorem ok_row_of (T : Txt K mg) : Def P w K mg base 1 "_law_row_of" ["_law_weights_here"] spOrder := by
  refine def_mk T.f36 sc36 (fun _ _ _ _ _ _ us hl => match us, hl with | [_], _ => rfl) (fun vs H Q E h => ?_) (fun f cdv A outer s H vs Q E hr h => ?_)
  · obtain ⟨d, ps, rfl, _⟩ := h
    rfl
  · obtain ⟨d, ps, rfl, hd, hlen, q⟩ := h
    refine ⟨_, pss_one (ps_ret (pe_callB cr_sorted (by rfl) T.tSorted bSorted (pa_cons (pe_lock (pe_lc (own := [("_law_size", 1)]) (g := gName 1) (tt := tYes) (by rfl) sc36.nd (pi_keys (pv 0)) (blkOk_by (own := [("_law_size", 1)]) (N := N36) (sc := defScope (topS 36)) (by decide +kernel))
            (fun _ _ _ _ _ => pg_name (i := 1) sc36.nd rfl (Or.inl rfl)) (fun _ _ _ _ _ => pts_nil) (fun _ _ _ _ _ => pe_callTy call_int1 (by rfl) T.tInt bInt (pa_cons (pv 1) pa_nil)))) pa_nil))), ?_⟩
    refine ⟨d, .dK (kvs ps), hd, trivial, fun od => ?_⟩
    refine ⟨.ref d, rfl, d, od, rfl, .inl ⟨kvs ps, upd_same, fun D new => ?_⟩⟩
    refine lcK (ks := ps.map (·.1)) new (fun s => .int s) (small_line (by rw [kvs_length]; omega)) upd_same (kvs_keys ps) (fun i s H3 hs s3 K1 k1 => ?_) fun H3 s3 e3 => ?_
    · exact ⟨rfl, .int s, rfl, .inl ⟨s, rfl, k1 H3 (Same.refl _)⟩⟩
    · have e4 : H3 d = some (.frz od (.dK (kvs ps))) := s3 _ _ upd_same
      have s4 : Same H (upd H3 d (.dK (kvs ps))) := Same.unlock hd s3
      have nD : D ≠ d := fun z => by
        rw [z, upd_same] at new
        cases new
      refine ⟨e4, D, ps.map (·.1), rfl, .inl (.inl (by rw [upd_ne nD, e3])), by rw [List.length_map]; omega, fun ns p perm rising np => ?_⟩
      have e : ns = srt (ps.map (·.1)) := srt_unique perm rising
      subst e
      exact q _ p (s4.put (s4.free np)) (s4.free np) upd_same
/-! ### _law_run -/
def spRun : Sp := fun vs H Q _ => ∃ (d r : Addr) (ps : List (Int × Int)) (h i : Nat), vs = [.ref d, .ref r, .int (h : Int), .int (i : Int)] ∧ H d = some (.dK (kvs ps)) ∧ OkPs ps ∧ H r = some (.lst ((rowOf ps).map V.int)) ∧ h < i ∧ i ≤ ps.length ∧
  ∀ H', Same H H' → Q (.int (runW (rowOf ps) (wtOf ps) h i)) H'
abbrev N37 : List Str := ["_law_weights_here", "_law_row", "_law_ahead", "_law_number", "_law_size"]
theorem sc37 : FnScope N37 ["_law_weights_here", "_law_row", "_law_ahead", "_law_number"] (defScope (topS 37)) := ⟨rfl, rfl, rfl, by decide +kernel, rfl, by decide +kernel, by decide +kernel⟩
theorem ok_run (T : Txt K mg) : Def P w K mg base 1 "_law_run" ["_law_weights_here", "_law_row", "_law_ahead", "_law_number"] spRun := by
  refine def_mk T.f37 sc37 (fun _ _ _ _ _ _ us hl => match us, hl with | [_, _, _, _], _ => rfl) (fun vs H Q E h => ?_) (fun f cdv A outer s H vs Q E hr h => ?_)
  · obtain ⟨d, r, ps, h, i, rfl, _⟩ := h
    rfl
  · obtain ⟨d, r, ps, h, i, rfl, hd, ok, hr1, hi, hl, q⟩ := h
    refine ⟨_, pss_one (ps_ret (pe_callB (cr_sum rfl) (by rfl) T.tSum bSum (pa_cons (pe_lc (own := [("_law_size", 4)]) (g := gName 4) (tt := tYes) (by rfl) sc37.nd (pi_list (pe_slice sl_list (pv 1) (po_some (pv 2)) (po_some (pv 3)))) (blkOk_by (own := [("_law_size", 4)]) (N := N37) (sc := defScope (topS 37)) (by decide +kernel))
              (fun _ _ _ _ _ => pg_name (i := 4) sc37.nd rfl (Or.inl rfl)) (fun _ _ _ _ _ => pts_nil) (fun _ _ _ _ _ => pe_callTy call_int1 (by rfl) T.tInt bInt (pa_cons (pe_op op_mul (pe_dget (hu_of hr) (pv 0) (pv 4) (fun _ _ => rfl)) (pe_op op_sub (pe_at K (pv 1) (pe_op op_sub (pv 3) pe_int)) (pv 4))) pa_nil))) pa_nil))), ?_⟩
    have hrl := rowOf_len ps
    have n2 := ok.n2
    refine ⟨.ref r, rfl, .int (h : Int), rfl, _, rfl, .int (i : Int), rfl, _, rfl, r, _, rfl, .inl (.inl hr1), fun c nc => ?_⟩
    have ecut : cutV ((rowOf ps).map V.int) (some (h : Int)) (some (i : Int)) = (((rowOf ps).drop h).take (i - h)).map V.int := cut_ints _ (by omega) (by omega)
    have hc : ∀ HH : Hp, (upd HH c (.lst (cutV ((rowOf ps).map V.int) (some (h : Int)) (some (i : Int))))) c = some (.lst ((((rowOf ps).drop h).take (i - h)).map V.int)) := fun HH => by rw [upd_same, ecut]
    have s4 := (same_upd (o := .lst (cutV ((rowOf ps).map V.int) (some (h : Int)) (some (i : Int)))) nc)
    refine ⟨c, rfl, ⟨_, .inl (.inl (hc _))⟩, fun D new => lcI (ns := ((rowOf ps).drop h).take (i - h)) new (fun z => .int (wtOf ps z * ((rowOf ps).getD (i - 1) 0 - z))) (small_line (by rw [List.length_take]; omega)) (.inl (.inl (hc _))) (fun m z H5 hz s5 K1 k1 => ?_) fun H5 s5 e5 => ?_⟩
    · have hd5 : H5 d = some (.dK (kvs ps)) := s5 _ _ (s4 _ _ hd)
      have hr5 := s5 _ _ (s4 _ _ hr1)
      have mz : z ∈ ps.map (·.1) := rowOf_mem.mp (List.mem_of_mem_drop (List.mem_of_mem_take (List.mem_of_getElem? hz)))
      have bz := wt_bounds ok z
      exact ⟨rfl, .ref d, rfl, .int z, rfl, d, .int (wtOf ps z), rfl, .inl ⟨kvs ps, Sum.inl z, .inl hd5, rfl, (val_kvs mz).symm⟩, .ref r, rfl, .int (i : Int), rfl, (i : Int), 1, rfl, rfl, r, _, _, _, rfl, rfl, .inl (.inl hr5), at_ints (i := i - 1) (by omega) (by omega), .int z, rfl, _, z, rfl, rfl, wtOf ps z, _, rfl, rfl, .inl ⟨by omega, by omega⟩, .inl ⟨_, rfl, k1 H5 (Same.refl _)⟩⟩
    · refine ⟨D, (((rowOf ps).drop h).take (i - h)).map fun z => wtOf ps z * ((rowOf ps).getD (i - 1) 0 - z), rfl, .inl (.inl (by rw [e5, List.map_map (f := fun z => wtOf ps z * ((rowOf ps).getD (i - 1) 0 - z))]; rfl)), ?_⟩
      exact q H5 (s4.trans s5)
/-! ### _law_entry -/
def spLEntry : Sp := fun vs H Q _ => ∃ (d r t : Addr) (ps : List (Int × Int)) (i k : Nat) (T : List Row), vs = [.ref d, .ref r, .ref t, .int (i : Int), .int ((k + 1 : Nat) : Int)] ∧ H d = some (.dK (kvs ps)) ∧ OkPs ps ∧ H r = some (.lst ((rowOf ps).map V.int)) ∧ 1 ≤ i ∧ i ≤ ps.length ∧
  TabAt H t T ∧ ColIs T (rowOf ps) (wtOf ps) k i ∧ ∀ H', Same H H' → Q (oV (colW (rowOf ps) (wtOf ps) (k + 1) i)) H'
abbrev N38 : List Str := ["_law_weights_here", "_law_row", "_law_table_here", "_law_number", "_law_bounds", "_law_some", "_law_ahead"]
theorem sc38 : FnScope N38 ["_law_weights_here", "_law_row", "_law_table_here", "_law_number", "_law_bounds"] (defScope (topS 38)) := ⟨rfl, rfl, rfl, by decide +kernel, rfl, by decide +kernel, by decide +kernel⟩
/-- the places that are there -/
def places (c : Nat → Option Int) (i : Nat) : List Int := ((List.range i).filter fun h => (c h).isSome).map fun h : Nat => (h : Int)
theorem opts_places (row : List Int) (wt : Int → Int) (c : Nat → Option Int) (i : Nat) : (places c i).map (fun z => V.int ((c z.toNat).getD 0 + runW row wt z.toNat i)) = (opts row wt c i).map V.int := by
  rw [← opts_list]
  unfold places
  rw [List.map_map]
  rfl
theorem ok_lentry (T : Txt K mg) : Def P w K mg base 2 "_law_entry" ["_law_weights_here", "_law_row", "_law_table_here", "_law_number", "_law_bounds"] spLEntry := by
  have GR : Def P w K mg base 1 _ _ _ := ok_run T
  refine def_mk T.f38 sc38 (fun _ _ _ _ _ _ us hl => match us, hl with | [_, _, _, _, _], _ => rfl) (fun vs H Q E h => ?_) (fun f cdv A outer s H vs Q E hr h => ?_)
  · obtain ⟨d, r, t, ps, i, k, TT, rfl, _⟩ := h
    rfl
  · obtain ⟨d, r, t, ps, i, k, TT, rfl, hd, ok, hr1, i1, i2, hT, hC, q⟩ := h
    refine ⟨_, pss_cons (ps_setLc (i := 5) (own := [("_law_ahead", 6)]) (g := gName 6) (by rfl) sc38.nd rfl rfl (sw_true rfl rfl rfl (by decide +kernel)) (pi_range1 (by rfl) T.tRange (pa_cons (pv 3) pa_nil)) (blkOk_by (own := [("_law_ahead", 6)]) (N := N38) (sc := defScope (topS 38)) (by decide +kernel))
          (fun _ _ _ _ _ => pg_name (i := 6) sc38.nd rfl (Or.inl rfl))
          (fun _ _ _ _ _ => pts_one (pt_cmpR op_notN (pe_at K (pe_at K (pv 2) (pv 6)) (pe_op op_sub (pv 4) pe_int)) pe_non (nomark _)))
          (fun _ _ _ _ _ => pv 6))
      (pss_cons (ps_if (pt_cmpR (op_eqD hr.units) (pv 5) (pe_lst pa_nil) (nomark _)) (pss_one (ps_ret pe_non)) pss_nil)
      (pss_one (ps_ret (pe_callB (cr_min rfl) (by rfl) T.tMin bMin (pa_cons (pe_lc (own := [("_law_ahead", 6)]) (g := gName 6) (tt := tYes) (by rfl) sc38.nd (pi_list (pv 5)) (blkOk_by (own := [("_law_ahead", 6)]) (N := N38) (sc := defScope (topS 38)) (by decide +kernel))
            (fun _ _ _ _ _ => pg_name (i := 6) sc38.nd rfl (Or.inl rfl)) (fun _ _ _ _ _ => pts_nil)
            (fun _ _ _ _ _ => pe_callTy call_int1 (by rfl) T.tInt bInt (pa_cons (pe_op op_add (pe_at K (pe_at K (pv 2) (pv 6)) (pe_op op_sub (pv 4) pe_int)) (pe_def GR hr (by decide) (pa_cons (pv 0) (pa_cons (pv 1) (pa_cons (pv 6) (pa_cons (pv 3) pa_nil)))))) pa_nil))) pa_nil))))), ?_⟩
    obtain ⟨qs, hT1, hT2⟩ := hT
    have n2 := ok.n2
    -- the cells of the column
    have cell : ∀ h : Nat, h < i → ∃ (qa : Addr) (rr : Row), H qa = some (.lst (rr.map oV)) ∧ (∀ z : Int, z = (h : Int) → atI (qs.map V.ref) z = some (.ref qa)) ∧ atI (rr.map oV) (((k + 1 : Nat) : Int) - 1) = some (oV (colW (rowOf ps) (wtOf ps) k h)) := by
      intro h hh
      obtain ⟨rr, r1, r2⟩ := hC h hh
      obtain ⟨qa, q1, q2⟩ := hT2.row r1
      exact ⟨qa, rr, q2, fun z ez => at_of ez q1, at_of (by omega) (cell_at r2)⟩
    refine ⟨_, rfl, _, rfl, by omega, by omega, fun D new => ?_⟩
    refine lcR (n := (i : Int).toNat) (lo := 0) new (fun h => (colW (rowOf ps) (wtOf ps) k h).isSome) (fun h => .int (h : Int)) (small_line (by omega)) (fun h H2 hh s2 K1 K0 k1 k0 => ?_) fun H2 s2 e2 => ?_
    · obtain ⟨qa, rr, c1, c2, c3⟩ := cell h (by omega)
      have t1 := s2 _ _ hT1
      have t2 := s2 _ _ c1
      refine ⟨rfl, .ref t, rfl, .int (0 + (h : Int)), rfl, t, _, _, _, rfl, rfl, .inl (.inl t1), c2 _ (by omega), .int ((k + 1 : Nat) : Int), rfl, _, 1, rfl, rfl, qa, _, _, _, rfl, rfl, .inl (.inl t2), c3, rfl, _, rfl, ?_⟩
      cases e : colW (rowOf ps) (wtOf ps) k h with
      | none => exact k0 (by rw [e]; rfl) H2 (Same.refl _)
      | some z =>
        refine ⟨.int (0 + (h : Int)), rfl, ?_⟩
        have g := k1 (by rw [e]; rfl) H2 (Same.refl _)
        rw [show (0 + (h : Int)) = (h : Int) by omega]
        exact g
    · have e3 : H2 D = some (.lst ((places (colW (rowOf ps) (wtOf ps) k) i).map V.int)) := by
        rw [e2, Int.toNat_natCast]
        unfold places
        rw [List.map_map]
        rfl
      have hplen : (places (colW (rowOf ps) (wtOf ps) k) i).length ≤ i := by
        unfold places
        rw [List.length_map]
        have h3 := List.length_filter_le (fun h => (colW (rowOf ps) (wtOf ps) k h).isSome) (List.range i)
        rwa [List.length_range] at h3
      have hpm : ∀ z ∈ places (colW (rowOf ps) (wtOf ps) k) i, ∃ h : Nat, z = (h : Int) ∧ h < i ∧ ∃ y, colW (rowOf ps) (wtOf ps) k h = some y := fun z hz => by
        obtain ⟨h, h1, h2⟩ := List.mem_map.mp hz
        obtain ⟨h3, h4⟩ := List.mem_filter.mp h1
        exact ⟨h, h2.symm, List.mem_range.mp h3, Option.isSome_iff_exists.mp h4⟩
      have ep := opts_places (rowOf ps) (wtOf ps) (colW (rowOf ps) (wtOf ps) k) i
      have ec := colW_opts (rowOf ps) (wtOf ps) k i i1
      generalize opts (rowOf ps) (wtOf ps) (colW (rowOf ps) (wtOf ps) k) i = ns at ep ec
      generalize places (colW (rowOf ps) (wtOf ps) k) i = pl at e3 hplen hpm ep
      refine ⟨.ref D, rfl, Nat.zero_le _, fun D2 new2 => ?_⟩
      have s3 := same_upd (o := .lst []) new2
      refine ⟨dInts pl, dInts [], dp_ints (s3 _ _ e3), dp_ints upd_same, shaped_ints _, shaped_ints _, _, rfl, ?_⟩
      rw [eqv_nil]
      have s23 := s2.trans s3
      cases pl with
      | nil =>
        have en : ns = [] := by
          have := congrArg List.length ep
          rw [List.length_map, List.length_map] at this
          exact List.eq_nil_of_length_eq_zero this.symm
        subst en
        rw [show colW (rowOf ps) (wtOf ps) (k + 1) i = none from ec] at q
        exact q _ s23
      | cons x l =>
        refine iteF ?_
        refine ⟨.ref D, rfl, D, rfl, ⟨_, .inl (.inl (s3 _ _ e3))⟩, fun D3 new3 => lcI (ns := x :: l) new3 (fun z => .int ((colW (rowOf ps) (wtOf ps) k z.toNat).getD 0 + runW (rowOf ps) (wtOf ps) z.toNat i)) (small_line (by omega)) (.inl (.inl (s3 _ _ e3))) (fun m z H5 hz s5 K1 k1 => ?_) fun H5 s5 e5 => ?_⟩
        · obtain ⟨h, rfl, hh, y, ey⟩ := hpm z (List.mem_of_getElem? hz)
          obtain ⟨qa, rr, c1, c2, c3⟩ := cell h hh
          rw [ey] at c3
          have s05 := s23.trans s5
          refine ⟨rfl, .ref t, rfl, .int (h : Int), rfl, t, _, _, _, rfl, rfl, .inl (.inl (s05 _ _ hT1)), c2 _ rfl, .int ((k + 1 : Nat) : Int), rfl, _, 1, rfl, rfl, qa, _, _, _, rfl, rfl, .inl (.inl (s05 _ _ c1)), c3, .ref d, rfl, .ref r, rfl, .int (h : Int), rfl, .int (i : Int), rfl, d, r, ps, h, i, rfl, s05 _ _ hd, ok, s05 _ _ hr1, hh, i2, fun H6 s6 => ⟨y, _, rfl, rfl, .inl ⟨_, rfl, ?_⟩⟩⟩
          have g := k1 H6 s6
          rw [Int.toNat_natCast, ey] at g
          exact g
        · rw [ep] at e5
          refine ⟨D3, ns, rfl, .inl (.inl e5), ?_, fun m hm hle => ?_⟩
          · have := congrArg List.length ep
            rw [List.length_map, List.length_map, List.length_cons] at this
            omega
          · rw [show colW (rowOf ps) (wtOf ps) (k + 1) i = some m from ec.trans (min_of hm hle)] at q
            exact q H5 (s23.trans s5)
end
end K67

/-! _law_table -/
namespace K67
open PySem PySem.Spec PyProof.Rows L2
theorem RowsAt.keep {H H' : Hp} {qs : List Addr} {T : List Row} (h : RowsAt H qs T) (k : ∀ q ∈ qs, ∀ o, H q = some o → H' q = some o) : RowsAt H' qs T := by
  induction h with
  | nil => exact .nil
  | cons a _ ih => exact .cons (k _ List.mem_cons_self _ a) (ih fun q hq => k q (List.mem_cons_of_mem _ hq))
theorem RowsAt.snoc {H : Hp} {qs : List Addr} {T : List Row} {q : Addr} {r : Row} (h : RowsAt H qs T) (e : H q = some (.lst (r.map oV))) : RowsAt H (qs ++ [q]) (T ++ [r]) := paired_snoc (F := fun (q : Addr) (r : Row) => H q = some (HO.lst (r.map oV))) e h
section
variable {P : Program} {w : World} {K : PySem.W.Frag} {mg : Str → Option Value} {base : Heap}
abbrev N39 : List Str := ["_law_weights_here", "_law_often", "_law_row", "_law_table_here", "_law_number", "_law_bounds"]
theorem sc39 : FnScope N39 ["_law_weights_here", "_law_often"] (defScope (topS 39)) := ⟨rfl, rfl, rfl, by decide +kernel, rfl, by decide +kernel, by decide +kernel⟩
theorem ok_ltable (T : Txt K mg) : Def P w K mg base 3 "_law_table" ["_law_weights_here", "_law_often"] spTab := by
  have GO : Def P w K mg base 1 _ _ _ := ok_row_of T
  have GE : Def P w K mg base 2 _ _ _ := ok_lentry T
  refine def_mk T.f39 sc39 (fun _ _ _ _ _ _ us hl => match us, hl with | [_, _], _ => rfl) (fun vs H Q E h => ?_) (fun f cdv A outer s H vs Q E hr h => ?_)
  · obtain ⟨d, ps, n, rfl, _⟩ := h
    rfl
  · obtain ⟨d, ps, n, rfl, hd, ok, n1, n8, q⟩ := h
    refine ⟨_, pss_cons (ps_par (i := 2) (j := 3) (by rfl) sc39.nd rfl rfl (by decide) rfl rfl (pa_cons (pe_def GO hr (by decide) (pa_cons (pv 0) pa_nil)) (pa_cons (pe_lst (pa_cons (pe_op op_rep (pe_lst (pa_cons pe_int pa_nil)) (pe_op op_add (pv 1) pe_int)) pa_nil)) pa_nil)) (by rfl))
      (pss_cons (ps_for PassesOwn.never rfl (pi_range2 (by rfl) T.tRange (pa_cons pe_int (pa_cons (pe_op op_add (pe_callB call_len_seq (by rfl) T.tLen bLen (pa_cons (pv 2) pa_nil)) pe_int) pa_nil))) (pg_name (i := 4) sc39.nd rfl (.inl rfl))
        (pss_cons (ps_expr (pe_bm PySem.F.plainAttrs_list PySem.F.slot_list_append PySem.F.type_list_append mt_append (pv 3) (pa_cons (pe_lst (pa_cons pe_non pa_nil)) pa_nil)))
        (pss_one (ps_for PassesOwn.never rfl (pi_range2 (by rfl) T.tRange (pa_cons pe_int (pa_cons (pe_op op_add (pv 1) pe_int) pa_nil))) (pg_name (i := 5) sc39.nd rfl (.inl rfl))
          (pss_one (ps_expr (pe_bm PySem.F.plainAttrs_list PySem.F.slot_list_append PySem.F.type_list_append mt_append (pe_ix ix_list (pv 3) (pv 4) (fun _ _ => rfl))
            (pa_cons (pe_def GE hr (by decide) (pa_cons (pv 0) (pa_cons (pv 2) (pa_cons (pv 3) (pa_cons (pv 4) (pa_cons (pv 5) pa_nil)))))) pa_nil))))))))
      (pss_one (ps_ret (pv 3)))), ?_⟩
    have n2 := ok.n2
    have hrl := rowOf_len ps
    -- row, table = row_of(weights), [[0] * (often + 1)]
    refine ⟨.ref d, rfl, d, ps, rfl, hd, ok.n2, fun H1 r s1 nr hr1 => ?_⟩
    refine ⟨by show 1 ≤ sizeLine; decide, fun a na => ⟨.int (n : Int), rfl, (n : Int), 1, rfl, rfl, a, _, _, rfl, rfl, upd_same, by omega, by omega, ?_, fun z nz => ⟨by show 1 ≤ sizeLine; decide, fun t nt => ⟨_, _, rfl, ?_⟩⟩⟩⟩
    · exact Nat.le_of_lt (small_line (by rw [List.length_singleton]; omega))
    have s2 := same_upd (o := .lst [.int 0]) na
    have s3 := s2.trans (same_upd (o := .lst (List.replicate ((n : Int) + 1).toNat [V.int 0]).flatten) nz)
    have s4 := s3.trans (same_upd (o := .lst [.ref z]) nt)
    have s5 := s1.trans s4
    have nt0 : H t = none := (s1.trans s3).free nt
    have nz0 : H z = none := (s1.trans s2).free nz
    have nzt : z ≠ t := ne_of_none upd_same nt
    have nrt : r ≠ t := ne_of_none (s3 _ _ hr1) nt
    have ez : (List.replicate ((n : Int) + 1).toNat [V.int 0]).flatten = (tabRow (rowOf ps) (wtOf ps) n 0).map oV := by
      rw [row_zero, rep_flat]
      congr 1
    rw [ez] at s4 s5 nt ⊢
    -- for number in range(1, len(row) + 1)
    refine ⟨.ref r, rfl, r, _, rfl, .inl (.inl (.inl (s4 _ _ hr1))), _, 1, rfl, rfl, 1, _, rfl, ⟨by decide, by decide, ?_, ?_⟩, ?_⟩
    · rw [List.length_map]; show -(2 ^ 62) ≤ ((srt (ps.map (·.1))).length : Int) + 1; omega
    · rw [List.length_map]; show ((rowOf ps).length : Int) + 1 < 2 ^ 62; omega
    refine forR (n := ps.length) ?_ (fun i σ H' => ∃ y4 y5 qs, σ = [some (.ref d), some (.int (n : Int)), some (.ref r), some (.ref t), y4, y5] ∧ Same H H' ∧ H' r = some (.lst ((rowOf ps).map V.int)) ∧ H' t = some (.lst (qs.map V.ref)) ∧ RowsAt H' qs (tabW (rowOf ps) (wtOf ps) n (i + 1)) ∧ ∀ q ∈ qs, H q = none ∧ q ≠ t)
      ⟨none, none, [z], rfl, s5, s4 _ _ hr1, upd_same, .cons ?_ .nil, fun q hq => ?_⟩ ?_ ?_
    · rw [List.length_map]; show (((rowOf ps).length : Int) + 1 - 1).toNat = _; omega
    · show _ = some (HO.lst ((tabRow (rowOf ps) (wtOf ps) n 0).map oV))
      rw [upd_ne nzt, upd_same]
    · rw [List.mem_singleton.mp hq]
      exact ⟨nz0, nzt⟩
    · rintro i σ H2 hi ⟨y4, y5, qs, rfl, s6, hr2, ht2, hq2, fq⟩
      have hlen := hq2.len
      rw [tabW_len] at hlen
      -- table.append([None])
      refine ⟨.ref t, rfl, .inl ⟨rfl, _, .inl (.inl ht2)⟩, by show 1 ≤ sizeLine; decide, fun u nu => ?_⟩
      have s7 := same_upd (o := .lst [.non]) nu
      have nu0 : H u = none := s6.free nu
      have nut : u ≠ t := (ne_of_none ht2 nu).symm
      have nur : u ≠ r := (ne_of_none hr2 nu).symm
      refine ⟨t, _, _, rfl, rfl, s7 _ _ ht2, small_line (by rw [List.length_map, hlen]; omega), ?_⟩
      have nqu : ∀ q ∈ qs, q ≠ u := fun q hq => by
        obtain ⟨j, hj⟩ := List.mem_iff_getElem?.mp hq
        have hjl := (List.getElem?_eq_some_iff.mp hj).1
        obtain ⟨qa, a1, a2⟩ := paired_get hq2 (tabW_get (row := rowOf ps) (wt := wtOf ps) (n := n) (m := i + 1) (i := j) (by omega))
        have : qa = q := Option.some.inj (a1.symm.trans hj)
        subst this
        exact ne_of_none a2 nu
      have eqs : qs.map V.ref ++ [V.ref u] = (qs ++ [u]).map V.ref := by rw [List.map_append]; rfl
      have hb1 : ∀ b o, b ≠ t → H2 b = some o → (upd (upd H2 u (.lst [.non])) t (.lst (qs.map V.ref ++ [.ref u]))) b = some o := fun b o nb e => by rw [upd_ne nb]; exact s7 _ _ e
      have ht3 : (upd (upd H2 u (.lst [.non])) t (.lst (qs.map V.ref ++ [.ref u]))) t = some (.lst ((qs ++ [u]).map V.ref)) := by rw [upd_same, eqs]
      have hu3 : (upd (upd H2 u (.lst [.non])) t (.lst (qs.map V.ref ++ [.ref u]))) u = some (.lst [.non]) := by rw [upd_ne nut, upd_same]
      have sH3 : Same H (upd (upd H2 u (.lst [.non])) t (.lst (qs.map V.ref ++ [.ref u]))) := (s6.trans s7).put nt0
      generalize upd (upd H2 u (.lst [.non])) t (.lst (qs.map V.ref ++ [.ref u])) = H3 at hb1 ht3 hu3 sH3
      have hr3 := hb1 _ _ nrt hr2
      have hq3 : RowsAt H3 qs (tabW (rowOf ps) (wtOf ps) n (i + 1)) := hq2.keep fun q hq o e => hb1 _ _ (fq q hq).2 e
      -- for bounds in range(1, often + 1)
      refine ⟨.int (n : Int), rfl, (n : Int), 1, rfl, rfl, 1, _, rfl, ⟨by decide, by decide, by omega, by omega⟩, ?_⟩
      refine forR (n := n) (by omega) (fun j σ H' => ∃ y5, σ = [some (.ref d), some (.int (n : Int)), some (.ref r), some (.ref t), some (.int (1 + (i : Int))), y5] ∧ But u H3 H' ∧ H' u = some (.lst (((List.range (j + 1)).map fun k => colW (rowOf ps) (wtOf ps) k (i + 1)).map oV)))
        ⟨y5, rfl, But.refl _ _, hu3⟩ ?_ ?_
      · rintro j σ H4 hj ⟨y5, rfl, b4, hu4⟩
        have e1 : (1 + (i : Int)) = ((i + 1 : Nat) : Int) := by omega
        have e2 : (1 + (j : Int)) = ((j + 1 : Nat) : Int) := by omega
        have ht4 := b4 _ _ nut.symm ht3
        have hr4 := b4 _ _ nur.symm hr3
        have hd4 := b4 d _ (ne_of_none hd nu0) (sH3 _ _ hd)
        have hq4 : RowsAt H4 qs (tabW (rowOf ps) (wtOf ps) n (i + 1)) := hq3.keep fun q hq o e => b4 _ _ (nqu q hq) e
        have atu : atI ((qs ++ [u]).map V.ref) (1 + (i : Int)) = some (.ref u) := by
          refine at_of (j := qs.length) (by omega) ?_
          rw [List.getElem?_map, List.getElem?_append_right (Nat.le_refl _), Nat.sub_self]
          rfl
        refine ⟨.ref t, rfl, .int (1 + (i : Int)), rfl, t, _, _, _, rfl, rfl, .inl (.inl ht4), atu, .inl ⟨rfl, _, .inl (.inl hu4)⟩, .ref d, rfl, .ref r, rfl, .ref t, rfl, .int (1 + (i : Int)), rfl, .int (1 + (j : Int)), rfl, ?_⟩
        refine ⟨d, r, t, ps, i + 1, j, tabW (rowOf ps) (wtOf ps) n (i + 1) ++ [(List.range (j + 1)).map fun k => colW (rowOf ps) (wtOf ps) k (i + 1)], by rw [e1, e2]; rfl, hd4, ok, hr4, by omega, by omega, ⟨qs ++ [u], ht4, hq4.snoc hu4⟩, fun h hh => ⟨_, (List.getElem?_append_left (by rw [tabW_len]; exact hh)).trans (tabW_get hh), tabRow_get (by omega)⟩, fun H5 s5' => ?_⟩
        have hu5 := s5' _ _ hu4
        refine ⟨u, _, _, rfl, rfl, hu5, small_line (by rw [List.length_map, List.length_map, List.length_range]; omega), _, rfl, (b4.trans (But.of s5')).trans But.self, ?_⟩
        rw [upd_same, cells_succ (rowOf ps) (wtOf ps) (i + 1) (j + 1)]
      · rintro σ H4 ⟨y5, rfl, b4, hu4⟩
        refine ⟨_, _, qs ++ [u], rfl, But.same sH3 b4 nu0, b4 _ _ nur.symm hr3, b4 _ _ nut.symm ht3, ?_, fun q' hq' => ?_⟩
        · rw [tabW_succ]
          exact RowsAt.snoc (hq3.keep fun q hq o e => b4 _ _ (nqu q hq) e) hu4
        · rcases List.mem_append.mp hq' with z | z
          · exact fq q' z
          · rw [List.mem_singleton.mp z]
            exact ⟨nu0, nut⟩
    · rintro σ H2 ⟨y4, y5, qs, rfl, s6, hr2, ht2, hq2, fq⟩
      exact ⟨.ref t, rfl, q H2 t s6 ⟨nt0, qs, ht2, hq2, fun q hq => (fq q hq).1⟩⟩
end
end K67

/-! repr of a table; a def's body run where no repr is under way; the law's entry. -/
namespace K67
open PySem PySem.Spec PyProof.Rows L2
/-! ### the text of a table is short -/
def Small (T : List Row) : Prop := T.length ≤ 40 ∧ ∀ r ∈ T, r.length ≤ 10 ∧ ∀ o ∈ r, ∀ i : Int, o = some i → 0 ≤ i ∧ i ≤ 30000000
theorem log_small {n : Nat} (h : n ≤ 30000000) : n.log2 < 25 := by
  by_cases h0 : n = 0
  · subst h0
    decide
  · exact (Nat.log2_lt h0).mpr (by omega)
theorem cell_short {o : Option Int} (h : ∀ i : Int, o = some i → 0 ≤ i ∧ i ≤ 30000000) : PyData.leavesShort 13 (oD o) = true ∧ PyData.weight (oD o) ≤ 30 ∧ PyData.showable (oD o) = true := by
  cases o with
  | none => exact ⟨rfl, by decide, rfl⟩
  | some i =>
    obtain ⟨h1, h2⟩ := h i rfl
    have hn : i.natAbs ≤ 30000000 := by omega
    have hlog := log_small hn
    refine ⟨decide_eq_true (PyData.shown_int_le (by omega)), ?_, decide_eq_true (show i.natAbs.log2 < 1920 by omega)⟩
    show (if (i == 0) = true then 0 else i.natAbs.log2 + 1) ≤ 30
    split <;> omega
theorem cells_short : ∀ {r : Row}, (∀ o ∈ r, ∀ i : Int, o = some i → 0 ≤ i ∧ i ≤ 30000000) → PyData.leavesShortAll 13 (r.map oD) = true ∧ PyData.weightAll (r.map oD) ≤ 31 * r.length ∧ PyData.showableAll (r.map oD) = true ∧ PyData.hasDictAll (r.map oD) = false
  | [], _ => ⟨rfl, by decide, rfl, rfl⟩
  | o :: r, h => by
    obtain ⟨a1, a2, a3⟩ := cell_short (h o List.mem_cons_self)
    obtain ⟨b1, b2, b3, b4⟩ := cells_short (r := r) fun o' ho => h o' (List.mem_cons_of_mem _ ho)
    refine ⟨?_, ?_, ?_, ?_⟩
    · show (PyData.leavesShort 13 (oD o) && PyData.leavesShortAll 13 (r.map oD)) = true
      rw [a1, b1]
      rfl
    · show PyData.weight (oD o) + 1 + PyData.weightAll (r.map oD) ≤ 31 * (r.length + 1)
      omega
    · show (PyData.showable (oD o) && PyData.showableAll (r.map oD)) = true
      rw [a3, b3]
      rfl
    · show (PyData.hasDict (oD o) || PyData.hasDictAll (r.map oD)) = false
      rw [b4]
      cases o <;> rfl
theorem rows_short : ∀ {T : List Row}, (∀ r ∈ T, r.length ≤ 10 ∧ ∀ o ∈ r, ∀ i : Int, o = some i → 0 ≤ i ∧ i ≤ 30000000) → PyData.leavesShortAll 13 (T.map dRow) = true ∧ PyData.weightAll (T.map dRow) ≤ 400 * T.length ∧ PyData.showableAll (T.map dRow) = true ∧ PyData.hasDictAll (T.map dRow) = false
  | [], _ => ⟨rfl, by decide, rfl, rfl⟩
  | r :: T, h => by
    obtain ⟨l, c⟩ := h r List.mem_cons_self
    obtain ⟨a1, a2, a3, a4⟩ := cells_short c
    obtain ⟨b1, b2, b3, b4⟩ := rows_short (T := T) fun r' hr => h r' (List.mem_cons_of_mem _ hr)
    refine ⟨?_, ?_, ?_, ?_⟩
    · show (PyData.leavesShortAll 13 (r.map oD) && PyData.leavesShortAll 13 (T.map dRow)) = true
      rw [a1, b1]
      rfl
    · show PyData.weightAll (r.map oD) + 1 + PyData.weightAll (T.map dRow) ≤ 400 * (T.length + 1)
      omega
    · show (PyData.showableAll (r.map oD) && PyData.showableAll (T.map dRow)) = true
      rw [a3, b3]
      rfl
    · show (PyData.hasDictAll (r.map oD) || PyData.hasDictAll (T.map dRow)) = false
      rw [a4, b4]
      rfl
theorem tab_short {T : List Row} (h : Small T) : (dTab T).shown.length ≤ sizeLine ∧ PyData.showable (dTab T) = true ∧ PyData.hasDict (dTab T) = false := by
  obtain ⟨a1, a2, a3, a4⟩ := rows_short h.2
  refine ⟨PyData.shown_fits (B := 13) (by decide) (by decide) (show PyData.leavesShortAll 13 (T.map dRow) = true from a1) ?_, a3, a4⟩
  show PyData.weightAll (T.map dRow) ≤ 2 ^ 20
  have := h.1
  omega
theorem small_tabW {ps : List (Int × Int)} (ok : OkPs ps) {n : Nat} (hn : n ≤ 8) : Small (tabW (rowOf ps) (wtOf ps) n (ps.length + 1)) := by
  have := ok.n2
  refine ⟨by rw [tabW_len]; omega, fun r hr => ?_⟩
  obtain ⟨i, hi, rfl⟩ := List.mem_map.mp hr
  have hi' := List.mem_range.mp hi
  refine ⟨by rw [tabRow_len]; omega, fun o ho m e => ?_⟩
  obtain ⟨k, _, rfl⟩ := List.mem_map.mp ho
  exact cell_bounds ok (by omega) m e
/-! ### repr(t), no other repr under way -/
section
variable {X : Cx}
def rReprT (K : PySem.W.Frag) : List V → Hp → VK → Prop := fun xs H Q => ∃ (t : Addr) (T : List Row), xs = [.ref t] ∧ TabAt H t T ∧ Small T ∧ Q (.str (dTab T).shown) H
theorem call_reprT (hg : X.A.guards = some []) (hu : X.A.units + 64 < cLine) : CallR X (.builtin "repr") (rReprT X.K) := by
  intro pins s σ H xs us Q I r h
  obtain ⟨t, T, rfl, ht, sm, q⟩ := h
  obtain ⟨u, rfl, ru⟩ := vals1 r
  cases (show u = Value.ref t from ru)
  obtain ⟨as, rd⟩ := Dp.reads I (dTab T) (.ref t) (.ref t) (dp_tab ht) rfl
  obtain ⟨z1, z2, z3⟩ := tab_short sm
  have hd := tab_depth T
  exact repr_of_reads' rd z2 (PyData.noDict_hsm z3) hg (by omega) (fun _ _ e => e) (fun h' v tk hk => ⟨.str (dTab T).shown, H, I.kept hk, ⟨v, rfl⟩, q⟩) z1
end
/-! ### a def's body at one place (what runs around it is known) -/
section
variable {P : Program} {w : World} {K : PySem.W.Frag} {mg : Str → Option Value} {base : Heap}
theorem run_at {x : Str} {st : Stmt} {f : Addr} {fd : FuncData} {N ps : List Str} {k : Nat} {A : Around} {outer : List Env} {s : Shared} {H : Hp} {args : Args} {us : List Value} {vs : List V} {Q : VK}
    (F : Fun K x x st f fd) (S : FnScope N ps (defScope st)) (room : Room (k + 1) A) (e0 : Env0 P w K mg base A outer s H) (bind : BindsTo s fd args (ps.zip us)) (rel : Vals vs us) (len : vs.length = ps.length)
    (body : ∀ cdv : Value, Room k (A.deeper (envOfC x (defScope st) s.heap.objs.size f cdv)) → ∃ t, PSs (cxOf CX0 P w K mg base N x (defScope st) f cdv A outer s H E0).nox (defBody st) t ∧ t { nx := fun _ H' => Q .non H', rt := Q } (start N vs) H) :
    codeAny (model P w) A (.call (.ref f) args) (CR CX0 outer P w H s Q E0) s := by
  obtain ⟨oc, od, kV, doc, pm, an, cdv, ct, osl, rfl, there, code⟩ := F.ex
  have kin : K.In s.heap := e0.mod.kin.keeps fun b o e => (e0.bs b o e).1
  have lim : s.heap.NoLimit := e0.mod.nolimit.keeps fun b o e => (e0.bs b o e).1
  have kinds : ∀ y ∈ ps.zip us, (defScope st).names.lookup y.1 = some .local ∨ ((defScope st).names.lookup y.1 = some .cell ∧ ((cellsFrom (s.heap.objs.size + 1) (defScope st).names []).lookup y.1).isSome = true) := by
    rintro ⟨n, v⟩ hy
    rcases S.par n (List.of_mem_zip hy).1 with z | z
    · exact .inl z
    · exact .inr ⟨z, PySem.W.cellsFrom_some _ _ _ (.inl z)⟩
  refine codeAny_call_function room.depth (kin _ _ there) rfl S.co S.gen rfl (PySem.W.codeRec_of kin code) (bind _ _ _ _ ?_)
  refine wpAny_newFunctionEnv_cells S.kind kinds fun env he s1 made => ?_
  subst he
  obtain ⟨t, ht, hq⟩ := body cdv (room.deeper _)
  have inv : Inv (cxOf CX0 P w K mg base N x (defScope st) f cdv A outer s H E0) [] (start N vs) H s1 := inv_start S room.hd e0 len rel made
  refine ⟨lim.keeps made.toInCall.keep, codeAny_func (wpAny_mono ((PSs.nox ht).run [] s1 (start N vs) H _ inv hq) (fun fl s' hs => ?_) fun e s' hs => hs)⟩
  cases fl with
  | ret u =>
    obtain ⟨v, σ', H', J, rv, q⟩ := hs
    exact ⟨v, H', J.os, J.bare, J.base, J.hok, rv, q⟩
  | next =>
    obtain ⟨σ', H', J, q⟩ := hs
    exact ⟨V.non, H', J.os, J.bare, J.base, J.hok, (rfl : RelV V.non Value.none), q⟩
  | brk =>
    obtain ⟨_, _, _, q⟩ := hs
    exact False.elim q
  | cont =>
    obtain ⟨_, _, _, q⟩ := hs
    exact False.elim q
end
/-! ### the law's entry -/
section
variable {P : Program} {w : World} {K : PySem.W.Frag} {mg mb : Str → Option Value} {fa a : Addr} {s1 : Shared} {vs : List Value} {ns : List Int}
/-- what is tracked at the entry: the script, if the module does not hold it -/
def H0 (K : PySem.W.Frag) (a : Addr) (o : Obj) (ns : List Int) : Hp := fun b => if b = a ∧ (K.lookup a).isNone = true then some (.frz o (.lst (ns.map V.int))) else none
theorem H0_some {o : Obj} {b : Addr} {u : HO} (h : H0 K a o ns b = some u) : b = a ∧ K.lookup a = none ∧ u = .frz o (.lst (ns.map V.int)) := by
  unfold H0 at h
  by_cases c : b = a ∧ (K.lookup a).isNone = true
  · rw [if_pos c] at h
    exact ⟨c.1, Option.isNone_iff_eq_none.mp c.2, (Option.some.inj h).symm⟩
  · rw [if_neg c] at h
    cases h
theorem enter_at (kin : K.In s1.heap) (glob : s1.heap.Ns mainGlobals mg) (blt : s1.heap.Ns builtinsNs mb) (names : ∀ x : Str, x ≠ "__name__" → mb x = bootBuiltins x) (lim : s1.heap.NoLimit) (gens : s1.gens = #[])
    (obj : s1.heap.get? a = some { cls := .type "list", data := .seq vs.toArray }) (hints : IntsAre vs ns) (few : ns.length ≤ sizeLine)
    (run : ∀ (base : Heap) (H : Hp), K.In base → base.Ns mainGlobals mg → Env0 P w K mg base callerA [] s1 H → SqL K H a (ns.map V.int) → codeAny (model P w) callerA (.call (.ref fa) ⟨[.ref a], []⟩) (CR CX0 [] P w H s1 (fun v _ => v = .bl true) E0) s1) :
    codeAny (model P w) callerA (.call (.ref fa) ⟨[.ref a], []⟩) (fun r s' => r = .ok (.ret (.bool true)) ∧ OldK s1.heap s'.heap ∧ s'.os = s1.os ∧ AllBare s'.gens) s1 := by
  have rv := vals_ints hints
  generalize ho : ({ cls := .type "list", data := .seq vs.toArray } : Obj) = o at obj
  have oseq : o.data = .seq vs.toArray := by rw [← ho]
  have ocls : o.cls = .type "list" := by rw [← ho]
  have odct : o.dict = none := by rw [← ho]
  -- what is no list is not tracked
  have plain : ∀ {b : Addr} {u : Obj} {es : Array DictEntry} {ep : Nat}, s1.heap.get? b = some u → u.data = .dict es ep → H0 K a o ns b = none := by
    intro b u es ep e d
    cases q : H0 K a o ns b with
    | none => rfl
    | some z =>
      obtain ⟨rfl, _, _⟩ := H0_some q
      rw [obj] at e
      cases e
      rw [oseq] at d
      cases d
  have put : ∀ {b : Addr} {m : Str → Option Value}, s1.heap.Ns b m → (hidT s1.heap (H0 K a o ns)).Ns b m := by
    rintro b m ⟨u, es, ep, e, d, r⟩
    exact ⟨u, es, ep, hidT_get e (plain e d), d, r⟩
  have kb : K.In (hidT s1.heap (H0 K a o ns)) := fun b u e => hidT_get (kin b u e) (by
    cases q : H0 K a o ns b with
    | none => rfl
    | some z =>
      obtain ⟨rfl, n, _⟩ := H0_some q
      rw [n] at e
      cases e)
  have hok : HOk P w (H0 K a o ns) s1.heap := fun b u e => by
    obtain ⟨rfl, _, rfl⟩ := H0_some e
    refine ⟨obj, ?_⟩
    exact ⟨by rw [List.length_map]; exact few, vs, _, rv, by rw [← ho] at obj; exact obj⟩
  have m : Mod K mg (hidT s1.heap (H0 K a o ns)) := ⟨kb, put glob, ⟨mb, put blt, names⟩, let ⟨mc, h1, h2⟩ := lim; ⟨mc, put h1, h2⟩⟩
  have e0 : Env0 P w K mg (hidT s1.heap (H0 K a o ns)) callerA [] s1 (H0 K a o ns) := ⟨rfl, m, fun b u e => of_hidT e, Nat.le_of_eq (hidT_size _ _), trivial, fun b hb => absurd (show b ∈ ([] : List Addr) from hb) List.not_mem_nil, hok, .of_eq gens⟩
  have hs : SqL K (H0 K a o ns) a (ns.map V.int) := by
    cases q : K.lookup a with
    | none => exact .inl (.inr ⟨o, if_pos ⟨rfl, by rw [q]; rfl⟩⟩)
    | some u =>
      have e := kin a u q
      rw [obj] at e
      cases e
      exact .inr ⟨o, vs.toArray, _, q, ocls, odct, oseq, by rw [List.size_toArray, hints.length]; exact few, by simpa using rv⟩
  refine codeAny_mono (run _ _ kb (put glob) e0 hs) fun r s' h => ?_
  cases r with
  | error e => exact False.elim h
  | ok fl =>
    cases fl with
    | next => exact False.elim h
    | brk => exact False.elim h
    | cont => exact False.elim h
    | ret u =>
      obtain ⟨v, H', os, bare, un, hok', r', q⟩ := h
      have q' : v = .bl true := q
      subst q'
      obtain rfl : u = Value.bool true := r'
      refine ⟨rfl, OldK.of_keep fun b ob e => ?_, os, bare⟩
      cases q : H0 K a o ns b with
      | none => exact un.keep b ob e q (fun z => absurd (show b ∈ ([] : List Addr) from z) List.not_mem_nil) List.not_mem_nil
      | some z =>
        obtain ⟨rfl, _, rfl⟩ := H0_some q
        have h2 := un.frzs b o _ q
        obtain ⟨e2, _⟩ := hok' b _ h2
        rw [obj] at e
        cases e
        exact e2
end
end K67

/-! the law -/
namespace K67
open PySem PySem.Spec PyProof.Rows L2
theorem wt_of_mem : ∀ {ps : List (Int × Int)}, (ps.map (·.1)).Nodup → ∀ p ∈ ps, wtOf ps p.1 = p.2
  | [], _, p, h => absurd h List.not_mem_nil
  | q :: ps, nd, p, h => by
    have nd' : (q.1 :: ps.map (·.1)).Nodup := nd
    obtain ⟨n1, n2⟩ := List.nodup_cons.mp nd'
    rcases List.mem_cons.mp h with e | e
    · subst e
      unfold wtOf
      rw [List.find?_cons_of_pos (p := fun z : Int × Int => decide (z.1 = p.1)) (decide_eq_true rfl)]
      rfl
    · have ne : ¬ q.1 = p.1 := fun z => n1 (List.mem_map.mpr ⟨p, e, z.symm⟩)
      have ih := wt_of_mem n2 p e
      unfold wtOf at ih ⊢
      rw [List.find?_cons_of_neg (p := fun z : Int × Int => decide (z.1 = p.1)) (by simpa using ne)]
      exact ih
theorem kept_pairs {ps : List (Int × Int)} (nd : (ps.map (·.1)).Nodup) : (ps.map (·.1)).map (fun s => (s, wtOf ps s)) = ps := by
  rw [List.map_map]
  have e : ∀ p ∈ ps, ((fun s => (s, wtOf ps s)) ∘ fun p : Int × Int => p.1) p = p := fun p hp => by
    show (p.1, wtOf ps p.1) = p
    rw [wt_of_mem nd p hp]
  rw [List.map_congr_left e]
  exact List.map_id _
/-- bounds that end with the greatest size serve all -/
theorem served {ps : List (Int × Int)} {pre : List Int} {x : Int} (e : rowOf ps = pre ++ [x]) (b : List Int) : ∀ z ∈ ps.map (·.1), ∃ l, lossW (b ++ [x]) z = some l := by
  intro z hz
  have hm : z ∈ pre ++ [x] := e ▸ rowOf_mem.mpr hz
  have ord : (pre ++ [x]).Pairwise fun a b => a ≤ b := e ▸ srt_le _
  have le : z ≤ x := by
    rcases List.mem_append.mp hm with h | h
    · exact (List.pairwise_append.mp ord).2.2 z h x (List.mem_singleton.mpr rfl)
    · rw [List.mem_singleton.mp h]
      exact Int.le_refl _
  unfold lossW
  cases h : (b ++ [x]).find? (fun b => decide (z ≤ b)) with
  | some y => exact ⟨_, rfl⟩
  | none =>
    rw [List.find?_eq_none] at h
    exact absurd (decide_eq_true le) (h x (List.mem_append_right _ (List.mem_singleton.mpr rfl)))
theorem front_last {row : List Int} (h : 1 ≤ row.length) : ∃ pre x, row = pre ++ [x] := by
  have ne : row ≠ [] := fun e => by
    rw [e] at h
    exact absurd h (by decide)
  exact ⟨row.dropLast, row.getLast ne, (List.dropLast_concat_getLast ne).symm⟩
/-- THE LAW's number: the least of the sums is the table's last entry -/
theorem least_is {ps : List (Int × Int)} (ok : OkPs ps) {pre : List Int} {x : Int} (e : rowOf ps = pre ++ [x]) (n : Nat) {m : Int} (hm : m ∈ ((setsW pre n).map fun b => b ++ [x]).map fun b => costW (wtOf ps) b (ps.map (·.1)))
    (hle : ∀ y ∈ ((setsW pre n).map fun b => b ++ [x]).map (fun b => costW (wtOf ps) b (ps.map (·.1))), m ≤ y) : colW (rowOf ps) (wtOf ps) (n + 1) ps.length = some m := by
  obtain ⟨m', h1, h2, h3⟩ := least_all (wt := wtOf ps) (good_of ok).lt e n
  rw [rowOf_len] at h1
  have same : ((setsW pre n).map fun b => b ++ [x]).map (fun b => costW (wtOf ps) b (ps.map (·.1))) = (setsW pre n).map fun b => costW (wtOf ps) (b ++ [x]) (rowOf ps) := by
    rw [List.map_map]
    refine List.map_congr_left fun b _ => ?_
    exact cost_perm (srt_perm _).symm
  rw [same] at hm hle
  have a1 := hle m' h2
  have a2 := h3 m hm
  rw [h1, show m = m' by omega]
/-- max(1, min(n, 6)) -/
theorem turns (L : Nat) : ∃ N : Nat, (if (if (6 : Int) < (L : Int) then (6 : Int) else (L : Int)) > 1 then (if (6 : Int) < (L : Int) then (6 : Int) else (L : Int)) else 1) = (N : Int) ∧ N ≤ 6 ∧ (1 ≤ L → N ≤ L) := by
  by_cases h : (6 : Int) < (L : Int)
  · rw [if_pos h, if_pos (by decide)]
    exact ⟨6, rfl, Nat.le_refl _, fun _ => by omega⟩
  · rw [if_neg h]
    by_cases h1 : (L : Int) > 1
    · rw [if_pos h1]
      exact ⟨L, rfl, by omega, fun _ => Nat.le_refl _⟩
    · rw [if_neg h1]
      exact ⟨1, rfl, by decide, fun z => z⟩
theorem tabW_last {row : List Int} {wt : Int → Int} {n m : Nat} : (tabW row wt n (m + 1))[m]? = some (tabRow row wt n m) := tabW_get (Nat.lt_succ_self _)
section
variable {P : Program} {w : World} {K : PySem.W.Frag} {mg : Str → Option Value} {base : Heap}
abbrev N40 : List Str := ["_law_script", "_law_k", "_law_pool", "_law_some", "_law_weights_here", "_law_kept", "_law_many", "_law_told", "_law_due", "_law_least", "_law_one", "_law_bounds"]
theorem sc40 : FnScope N40 ["_law_script"] (defScope (topS 40)) := ⟨rfl, rfl, rfl, by decide +kernel, rfl, by decide +kernel, by decide +kernel⟩
theorem law_body (T : Txt K mg) {f : Addr} {cdv : Value} {A : Around} {outer : List Env} {s : Shared} {H : Hp} {a : Addr} {ns : List Int} (hg : A.guards = some []) (hr : Room 5 (A.deeper (envOfC "law" (defScope (topS 40)) s.heap.objs.size f cdv)))
    (hA : SqL K H a (ns.map V.int)) (hl : ns.length ≤ 63) : ∃ t, PSs (cxOf CX0 P w K mg base N40 "law" (defScope (topS 40)) f cdv A outer s H E0).nox (defBody (topS 40)) t ∧ t { nx := fun _ _ => V.non = V.bl true, rt := fun v _ => v = .bl true } (start N40 [.ref a]) H := by
  have GO : Def P w K mg base 2 _ _ _ := ok_opened T
  have GZ : Def P w K mg base 2 _ _ _ := ok_lsizes T
  have GP : Def P w K mg base 2 _ _ _ := ok_pick T
  have GW : Def P w K mg base 3 _ _ _ := ok_lweights T
  have GT : Def P w K mg base 5 _ _ _ := ok_sum_table T
  have GL : Def P w K mg base 3 _ _ _ := ok_ltable T
  have GV : Def P w K mg base 2 _ _ _ := ok_serving T
  have GS : Def P w K mg base 2 _ _ _ := ok_sum T
  have GM : Def P w K mg base 5 _ _ _ := ok_least_sum T
  have GH : Def P w K mg base 5 _ _ _ := ok_shows T
  refine ⟨_, pss_cons (ps_for PassesOwn.never rfl (pi_range1 (by rfl) T.tRange (pa_cons (pe_callB (call_max2 rfl) (by rfl) T.tMax bMax (pa_cons pe_int (pa_cons (pe_callB (call_min2 rfl) (by rfl) T.tMin bMin (pa_cons (pe_callB call_len_seq (by rfl) T.tLen bLen (pa_cons (pv 0) pa_nil)) (pa_cons pe_int pa_nil))) pa_nil))) pa_nil)) (pg_name (i := 1) sc40.nd rfl (.inl rfl))
      (pss_cons (ps_set (i := 2) sc40.nd rfl (.inl rfl) (pe_def GO hr (by decide) (pa_cons (pv 0) (pa_cons (pv 1) (pa_cons pe_int pa_nil)))))
      (pss_cons (ps_set (i := 3) sc40.nd rfl (.inl rfl) (pe_def GZ hr (by decide) (pa_cons (pv 2) (pa_cons (pe_def GP hr (by decide) (pa_cons (pv 2) (pa_cons (pe_lst (pa_cons pe_int (pa_cons pe_int (pa_cons pe_int (pa_cons pe_int pa_nil))))) pa_nil))) (pa_cons pe_int pa_nil)))))
      (pss_cons (ps_set (i := 4) sc40.nd rfl (.inr rfl) (pe_def GW hr (by decide) (pa_cons (pv 2) (pa_cons (pv 3) pa_nil))))
      (pss_cons (ps_set (i := 5) sc40.nd rfl (.inl rfl) (pe_callTy (call_dictP rfl) (by rfl) T.tDict bDict (pa_cons (pe_lc (own := [("_law_one", 10)]) (g := gName 10) (tt := tYes) (by rfl) sc40.nd (pi_list (pv 3)) (blkOk_by (own := [("_law_one", 10)]) (N := N40) (sc := defScope (topS 40)) (by decide +kernel))
          (fun _ _ _ _ _ => pg_name (i := 10) sc40.nd rfl (Or.inl rfl)) (fun _ _ _ _ _ => pts_nil) (fun _ _ _ _ _ => pe_tup (pa_cons (pv 10) (pa_cons (pe_dget (hu_of hr) (pv 4) (pv 10) (fun _ _ => rfl)) pa_nil)))) pa_nil)))
      (pss_one (ps_for PassesOwn.never rfl (pi_range2 (by rfl) T.tRange (pa_cons pe_int (pa_cons pe_int pa_nil))) (pg_name (i := 6) sc40.nd rfl (.inl rfl))
        (pss_cons (ps_par (i := 7) (j := 8) (by rfl) sc40.nd rfl rfl (by decide) rfl rfl (pa_cons (pe_def GT hr (by decide) (pa_cons (pv 4) (pa_cons (pv 6) pa_nil))) (pa_cons (pe_def GL hr (by decide) (pa_cons (pv 5) (pa_cons (pv 6) pa_nil))) pa_nil)) (by rfl))
        (pss_cons (ps_set (i := 9) sc40.nd rfl (.inl rfl) (pe_callB (cr_min rfl) (by rfl) T.tMin bMin (pa_cons (pe_lc (own := [("_law_bounds", 11)]) (g := gName 11) (tt := tYes) (by rfl) sc40.nd (pi_list (pe_def GV hr (by decide) (pa_cons (pv 3) (pa_cons (pv 6) pa_nil)))) (blkOk_by (own := [("_law_bounds", 11)]) (N := N40) (sc := defScope (topS 40)) (by decide +kernel))
          (fun _ _ _ _ _ => pg_name (i := 11) sc40.nd rfl (Or.inl rfl)) (fun _ _ _ _ _ => pts_nil) (fun _ _ _ _ _ => pe_callTy call_int1 (by rfl) T.tInt bInt (pa_cons (pe_def GS hr (by decide) (pa_cons (pv 11) (pa_cons (pv 4) pa_nil))) pa_nil))) pa_nil)))
        (pss_cons (ps_if (PW.pt (pw_or (pt_cmpR (op_neD hr.units) (pv 7) (pv 8) (nomark _))
            (pw_or (pt_cmpR op_ne (pe_callB (call_reprT hg hr.units) (by rfl) T.tRepr bRepr (pa_cons (pv 7) pa_nil)) (pe_callB (call_reprT hg hr.units) (by rfl) T.tRepr bRepr (pa_cons (pv 8) pa_nil)) (nomark _))
            (pw_or1 (pt_cmpR op_ne (pe_def GM hr (by decide) (pa_cons (pv 4) (pa_cons (pv 6) pa_nil))) (pv 9) (nomark _)))))) (pss_one (ps_ret pe_bl)) pss_nil)
        (pss_cons (ps_if (PW.pt (pw_or (pt_cmpR op_ne (pe_ix ix_list (pe_ix ix_list (pv 7) (pe_callB call_len_seq (by rfl) T.tLen bLen (pa_cons (pv 3) pa_nil)) (fun _ _ => rfl)) (pv 6) (fun _ _ => rfl)) (pv 9) (nomark _))
            (pw_or1 (pt_cmpR op_notBl (pe_def GH hr (by decide) (pa_cons (pv 4) (pa_cons (pv 6) (pa_cons (pv 7) pa_nil)))) pe_bl (nomark _))))) (pss_one (ps_ret pe_bl)) pss_nil)
        (pss_cons (ps_expr (pe_bm PySem.F.plainAttrs_list PySem.F.slot_list_append PySem.F.type_list_append mt_append (pe_ix ix_list (pv 7) pe_int (fun _ _ => rfl)) (pa_cons pe_int pa_nil)))
        (pss_cons (ps_expr (pe_bm PySem.F.plainAttrs_list PySem.F.slot_list_append PySem.F.type_list_append mt_append (pv 7) (pa_cons (pe_lst pa_nil) pa_nil)))
        (pss_one (ps_if (PW.pt (pw_or (pt_cmpR (op_neD hr.units) (pe_def GT hr (by decide) (pa_cons (pv 4) (pa_cons (pv 6) pa_nil))) (pv 8) (nomark _))
            (pw_or1 (pt_cmpR (op_ne_dictA hr.units0) (pv 4) (pv 5) (nomark _))))) (pss_one (ps_ret pe_bl)) pss_nil)))))))))))))))
      (pss_one (ps_ret pe_bl)), ?_⟩
  -- range(max(1, min(len(script), 6)))
  obtain ⟨N, hN, N6, hNl⟩ := turns ns.length
  refine ⟨.ref a, rfl, a, _, rfl, .inl hA, _, 6, rfl, 1, _, rfl, (N : Int), ?_, by omega, by omega, ?_⟩
  · rw [List.length_map, hN]
  refine forR (n := N) (by omega) (fun i σ H' => ∃ y1 y2 y3 y4 y5 y6 y7 y8 y9, σ = [some (.ref a), y1, y2, y3, y4, y5, y6, y7, y8, y9, none, none] ∧ Same H H') ⟨none, none, none, none, none, none, none, none, none, rfl, Same.refl _⟩ ?_ ?_
  · rintro i σ H1 hi ⟨y1, y2, y3, y4, y5, y6, y7, y8, y9, rfl, s1⟩
    -- pool = opened(script, k, 130)
    refine ⟨.ref a, rfl, .int (0 + (i : Int)), rfl, a, ns, i, 130, ?_, s1.seq hA, fun ne => ?_, by omega, by omega, fun H2 p b s2 np hp => ?_⟩
    · rw [show (0 + (i : Int)) = (i : Int) by omega]
      rfl
    · have := hNl (List.length_pos_iff.mpr ne)
      omega
    -- some = sizes(pool, pick(pool, [7, 7, 7, 11]), 60)
    refine ⟨.ref p, rfl, .ref p, rfl, by show 4 ≤ sizeLine; decide, fun l nl => ⟨p, b, l, [.int 7, .int 7, .int 7, .int 11], rfl, hp.same (same_upd nl), upd_same, (not_pool hp nl).1, by simp, fun x H3 hx b3 p3 => ?_⟩⟩
    obtain ⟨m, rfl, m0, m1⟩ : ∃ m : Nat, x = .int (m : Int) ∧ 0 < m ∧ m ≤ 11 := by
      simp only [List.mem_cons, List.not_mem_nil, or_false] at hx
      rcases hx with h | h | h | h
      · exact ⟨7, h, by decide, by decide⟩
      · exact ⟨7, h, by decide, by decide⟩
      · exact ⟨7, h, by decide, by decide⟩
      · exact ⟨11, h, by decide, by decide⟩
    refine ⟨p, b, m, 60, rfl, m0, by omega, by decide, p3, fun H4 so ss b4 p4 nso hso nd l1 l2 bd => ?_⟩
    have nsop : so ≠ p := (not_pool p3 nso).1
    -- weights_here = weights(pool, some)
    refine ⟨.ref p, rfl, .ref so, rfl, p, b, so, ss, rfl, p4, hso, nsop, nd, by omega, fun H5 d ps b5 p5 nd5 hd ek bw => ?_⟩
    have ok : OkPs ps := by
      have hlen : ps.length = ss.length := by rw [← ek, List.length_map]
      refine ⟨by rw [ek]; exact nd, by omega, by omega, fun q hq => ?_, fun q hq => ?_, fun q hq => (bw q hq).1, fun q hq => (bw q hq).2⟩
      · exact (bd q.1 (ek ▸ List.mem_map.mpr ⟨q, hq, rfl⟩)).1
      · have := (bd q.1 (ek ▸ List.mem_map.mpr ⟨q, hq, rfl⟩)).2
        omega
    have plen : ps.length = ss.length := by rw [← ek, List.length_map]
    have hso5 : H5 so = some (.lst (ss.map V.int)) := b5 _ _ nsop hso
    have sB : Same H H5 := s1.trans (But.same s2 ((((But.of (same_upd nl)).trans b3).trans b4).trans b5) np)
    -- kept = dict([(one, weights_here[one]) for one in some])
    refine ⟨.ref so, rfl, so, rfl, ⟨_, .inl (.inl hso5)⟩, fun D new => ?_⟩
    refine lc_list (K := K) (a := so) (xs := ss.map V.int) (fun i H' => Same H5 H' ∧ ∃ (ts : List Addr), H' D = some (.lst (ts.map V.ref)) ∧ Paired (fun t (z : Int × Int) => H' t = some (.tup [.int z.1, .int z.2])) ts ((ss.take i).map fun s => (s, wtOf ps s)))
      ⟨same_upd new, [], upd_same, .nil⟩ (fun i H' _ h => .inl (.inl (h.1 _ _ hso5))) ?_ ?_
    · rintro i' x H6 hx ⟨s6, ts, e6, pr⟩
      rw [List.getElem?_map] at hx
      obtain ⟨s', hs', rfl⟩ := Option.map_eq_some_iff.mp hx
      have hi' := (List.getElem?_eq_some_iff.mp hs').1
      have hd6 := s6 _ _ hd
      have hm : s' ∈ ps.map (·.1) := ek ▸ List.mem_of_getElem? hs'
      have hts : ts.length ≤ i' := by
        have h1 := Paired.length pr
        rw [List.length_map, List.length_take] at h1
        omega
      refine ⟨rfl, .int s', rfl, .ref d, rfl, .int s', rfl, d, .int (wtOf ps s'), rfl, .inl ⟨kvs ps, Sum.inl s', .inl hd6, rfl, (val_kvs hm).symm⟩, by show 2 ≤ sizeLine; decide, fun t nt => ?_⟩
      have ntD : t ≠ D := (ne_of_none e6 nt).symm
      refine ⟨ts.map V.ref, by rw [upd_ne ntD.symm]; exact e6, small_line (by rw [List.length_map]; omega), (s6.put (s6.free nt)).put new, ts ++ [t], by rw [upd_same, List.map_append]; rfl, ?_⟩
      rw [List.take_add_one, hs', Option.toList_some, List.map_append]
      have keep : ∀ (c : Addr) (xs : List V), H6 c = some (.tup xs) → (upd (upd H6 t (.tup [.int s', .int (wtOf ps s')])) D (.lst (ts.map V.ref ++ [.ref t]))) c = some (.tup xs) := fun c xs e => by
        rw [upd_ne (ne_of e e6 (by intro q; cases q)), upd_ne (ne_of_none e nt)]
        exact e
      refine paired_snoc ?_ (Paired.mapP pr fun c y e => keep c _ e)
      rw [upd_ne ntD, upd_same]
    rintro H6 ⟨s6, ts, e6, pr⟩
    rw [List.length_map, List.take_length, ← ek, kept_pairs ok.nd] at pr
    refine ⟨D, ts, kvs ps, rfl, .inl (.inl e6), ?_, fun kp nkp => ?_⟩
    · unfold kvs
      clear e6
      generalize ps = qs at pr
      induction pr with
      | nil => exact .nil
      | cons h _ ih => exact .cons (.inl (.inl h)) ih
    rw [merge_kvs ps [] ok.nd fun _ _ p hp => absurd hp List.not_mem_nil, List.nil_append]
    have hdb : (upd H6 kp (.dK (kvs ps))) d = some (.dK (kvs ps)) := (same_upd nkp) _ _ (s6 _ _ hd)
    have hsob : (upd H6 kp (.dK (kvs ps))) so = some (.lst (ss.map V.int)) := (same_upd nkp) _ _ (s6 _ _ hso5)
    have hkpb : (upd H6 kp (.dK (kvs ps))) kp = some (.dK (kvs ps)) := upd_same
    have sHb : Same H (upd H6 kp (.dK (kvs ps))) := (sB.trans s6).trans (same_upd nkp)
    generalize upd H6 kp (.dK (kvs ps)) = Hb at hdb hsob hkpb sHb
    obtain ⟨pre, x, erow⟩ := front_last (row := rowOf ps) (by rw [rowOf_len]; exact ok.n1)
    have esrt : srt ss = pre ++ [x] := by rw [← ek]; exact erow
    -- for many in range(1, 9)
    refine ⟨1, 9, rfl, ⟨by decide, by decide, by decide, by decide⟩, ?_⟩
    refine forR (n := 8) rfl (fun j σ H' => ∃ y6 y7 y8 y9, σ = [some (.ref a), some (.int (0 + (i : Int))), some (.ref p), some (.ref so), some (.ref d), some (.ref kp), y6, y7, y8, y9, none, none] ∧ Same Hb H') ⟨y6, y7, y8, y9, rfl, Same.refl _⟩ ?_ ?_
    · rintro j σ H7 hj ⟨y6, y7, y8, y9, rfl, s7⟩
      have e1 : (1 + (j : Int)) = ((j + 1 : Nat) : Int) := by omega
      -- told, due = sum_table(weights_here, many), table(kept, many)
      refine ⟨.ref d, rfl, .int (1 + (j : Int)), rfl, d, ps, j + 1, by rw [e1]; rfl, s7 _ _ hdb, ok, by omega, by omega, fun H8 t s8 nt => ?_⟩
      refine ⟨.ref kp, rfl, .int (1 + (j : Int)), rfl, kp, ps, j + 1, by rw [e1]; rfl, s8 _ _ (s7 _ _ hkpb), ok, by omega, by omega, fun H9 u s9 nu => ⟨_, _, rfl, ?_⟩⟩
      have sm := small_tabW ok (n := j + 1) (by omega)
      have s79 := s7.trans (s8.trans s9)
      -- least = min([int(sum(bounds, weights_here)) for bounds in serving(some, many)])
      refine ⟨.ref so, rfl, .int (1 + (j : Int)), rfl, so, ss, j, pre, x, by rw [e1]; rfl, s79 _ _ hsob, by omega, esrt, fun H10 g s10 hI => ?_⟩
      obtain ⟨gs, hgl, hgr⟩ := hI
      have glen : gs.length = ((setsW pre j).map fun b => b ++ [x]).length := Paired.length hgr
      have gfew : gs.length ≤ 4096 := by
        rw [glen, List.length_map]
        refine Nat.le_trans (setsW_most _ _) (two_pow_le ?_)
        have h1 := congrArg List.length esrt
        rw [srt_length, List.length_append, List.length_singleton] at h1
        omega
      refine ⟨g, rfl, ⟨_, .inl (.inl hgl)⟩, fun D2 new2 => ?_⟩
      refine lcS (walk_list (K := K) (a := g) (xs := gs.map V.ref)) new2 (fun _ => true) (fun i => .int (costW (wtOf ps) (((setsW pre j).map fun b => b ++ [x]).getD i []) (ps.map (·.1)))) (small_line (by rw [List.length_map]; omega)) (fun H' s => s.seq (.inl (.inl hgl))) (fun _ _ _ _ y => y.1) (fun i' y H11 hi' s11 hy K1 K0 k1 k0 => ?_) fun H11 s11 e11 => ?_
      · obtain ⟨_, hy⟩ := hy
        rw [List.length_map] at hi'
        obtain ⟨bb, hbb⟩ : ∃ bb, ((setsW pre j).map fun b => b ++ [x])[i']? = some bb := ⟨_, List.getElem?_eq_getElem (by omega)⟩
        obtain ⟨q', q1, q2⟩ := paired_get hgr hbb
        have ey : y = .ref q' := by
          rw [List.getElem?_map, q1] at hy
          exact (Option.some.inj hy).symm
        subst ey
        have eb : ((setsW pre j).map fun b => b ++ [x]).getD i' [] = bb := by rw [List.getD_eq_getElem?_getD, hbb]; rfl
        obtain ⟨b0, _, eb0⟩ := List.mem_map.mp (List.mem_of_getElem? hbb)
        have k1' := k1 rfl
        simp only [eb] at k1'
        refine ⟨rfl, .ref q', rfl, .ref d, rfl, q', d, bb, ps, rfl, s11 _ _ q2, s11 _ _ (s10 _ _ (s79 _ _ hdb)), ok, ?_, fun H12 s12 => .inl ⟨_, rfl, k1' H12 s12⟩⟩
        rw [← eb0]
        exact served erow b0
      have e12 : H11 D2 = some (.lst ((((setsW pre j).map fun b => b ++ [x]).map fun b => costW (wtOf ps) b (ps.map (·.1))).map V.int)) := by
        rw [e11, keep_all, List.length_map, glen, map_range (((setsW pre j).map fun b => b ++ [x])) [] (fun b => V.int (costW (wtOf ps) b (ps.map (·.1)))), List.map_map (g := V.int)]
        rfl
      have bpos : 0 < (((setsW pre j).map fun b => b ++ [x]).map fun b => costW (wtOf ps) b (ps.map (·.1))).length := by
        rw [List.length_map, List.length_map]
        exact List.length_pos_of_mem (mem_setsW.mpr ⟨List.nil_sublist _, Nat.zero_le _⟩)
      refine ⟨D2, _, rfl, .inl (.inl e12), bpos, fun m' hm' hle' => ?_⟩
      have hleast := least_is ok erow j hm' hle'
      have s9b := s10.trans s11
      obtain ⟨nt0, qs1, ht1, hr1, nq1⟩ := nt
      obtain ⟨nu0, qs2, hu1, hr2, nq2⟩ := nu
      have t11 : TabAt H11 t (tabW (rowOf ps) (wtOf ps) (j + 1) (ps.length + 1)) := TabAt.same (s9.trans s9b) ⟨qs1, ht1, hr1⟩
      have u11 : TabAt H11 u (tabW (rowOf ps) (wtOf ps) (j + 1) (ps.length + 1)) := TabAt.same s9b ⟨qs2, hu1, hr2⟩
      -- told != due
      refine ⟨.ref t, rfl, .ref u, rfl, dTab _, dTab _, dp_tab t11, dp_tab u11, shaped_tab _, shaped_tab _, _, rfl, ?_⟩
      rw [eqv_self (shaped_tab _)]
      refine iteF ?_
      -- repr(told) != repr(due)
      refine ⟨.ref t, rfl, t, _, rfl, t11, sm, .ref u, rfl, u, _, rfl, u11, sm, rfl, _, rfl, iteNS rfl ?_⟩
      -- least_sum(weights_here, many) != least
      refine ⟨.ref d, rfl, .int (1 + (j : Int)), rfl, d, ps, j + 1, by rw [e1]; rfl, s9b _ _ (s79 _ _ hdb), ok, by omega, by omega, fun H12 s12 => ?_⟩
      rw [hleast]
      refine ⟨.int m', rfl, rfl, _, rfl, iteNS rfl ?_⟩
      have s8c : Same H8 H12 := s9.trans (s9b.trans s12)
      have sbc : Same Hb H12 := s79.trans (s9b.trans s12)
      -- told[len(some)][many] != least
      obtain ⟨ql, l1', l2'⟩ := RowsAt.row hr1 (tabW_last (row := rowOf ps) (wt := wtOf ps) (n := j + 1) (m := ps.length))
      have cl : ((tabRow (rowOf ps) (wtOf ps) (j + 1) ps.length).map oV)[j + 1]? = some (V.int m') := by
        have c := cell_at (tabRow_get (row := rowOf ps) (wt := wtOf ps) (n := j + 1) (i := ps.length) (k := j + 1) (Nat.le_refl _))
        rwa [hleast] at c
      refine ⟨.ref t, rfl, .ref so, rfl, so, _, rfl, .inl (.inl (.inl (sbc _ _ hsob))), t, _, _, .ref ql, rfl, rfl, .inl (.inl (s8c _ _ ht1)), at_of (j := ps.length) (by rw [List.length_map, plen]) l1', .int (1 + (j : Int)), rfl, ql, _, _, .int m', rfl, rfl, .inl (.inl (s8c _ _ l2')), at_of e1 cl, .int m', rfl, rfl, _, rfl, iteNS rfl ?_⟩
      -- shows_table(weights_here, many, told) is not True
      refine ⟨.ref d, rfl, .int (1 + (j : Int)), rfl, .ref t, rfl, d, t, ps, j + 1, by rw [e1]; rfl, sbc _ _ hdb, ok, by omega, by omega, TabAt.same s8c ⟨qs1, ht1, hr1⟩, fun H13 s13 => ⟨true, true, rfl, rfl, _, rfl, iteNS rfl ?_⟩⟩
      have s8d := s8c.trans s13
      have sbd := sbc.trans s13
      -- told[0].append(1)
      obtain ⟨z, z1, z2⟩ := RowsAt.row hr1 (tabW_get (row := rowOf ps) (wt := wtOf ps) (n := j + 1) (m := ps.length + 1) (i := 0) (Nat.succ_pos _))
      have zq : z ∈ qs1 := by
        rw [List.getElem?_map] at z1
        obtain ⟨z', h1, h2⟩ := Option.map_eq_some_iff.mp z1
        have : z' = z := V.ref.inj h2
        subst this
        exact List.mem_of_getElem? h1
      have hz13 := s8d _ _ z2
      have ht13 := s8d _ _ ht1
      have nzt : z ≠ t := fun e => by
        rw [e, ht1] at z2
        have h1 : qs1.map V.ref = (tabRow (rowOf ps) (wtOf ps) (j + 1) 0).map oV := HO.lst.inj (Option.some.inj z2)
        rw [h1, row_zero] at z1
        have h2 : (List.replicate (j + 1 + 1) (V.int 0))[0]? = some (V.int 0) := rfl
        rw [h2] at z1
        cases z1
      refine ⟨.ref t, rfl, t, _, 0, .ref z, rfl, rfl, .inl (.inl ht13), atI_nat (j := 0) z1, .inl ⟨rfl, _, .inl (.inl hz13)⟩, z, _, _, rfl, rfl, hz13, small_line (by rw [List.length_map, tabRow_len]; omega), ?_⟩
      -- told.append([])
      have ht14 : (upd H13 z (.lst ((tabRow (rowOf ps) (wtOf ps) (j + 1) 0).map oV ++ [.int 1]))) t = some (.lst (qs1.map V.ref)) := by rw [upd_ne nzt.symm]; exact ht13
      refine ⟨.ref t, rfl, .inl ⟨rfl, _, .inl (.inl ht14)⟩, Nat.zero_le _, fun l' nl' => ?_⟩
      have ht15 := (same_upd (o := .lst []) nl') _ _ ht14
      have q1len := hr1.len
      rw [tabW_len] at q1len
      refine ⟨t, _, _, rfl, rfl, ht15, small_line (by rw [List.length_map, q1len]; omega), ?_⟩
      have keep : ∀ b o, b ≠ z → b ≠ t → H13 b = some o → (upd (upd (upd H13 z (.lst ((tabRow (rowOf ps) (wtOf ps) (j + 1) 0).map oV ++ [.int 1]))) l' (.lst [])) t (.lst (qs1.map V.ref ++ [.ref l']))) b = some o := fun b o h1 h2 e => by
        rw [upd_ne h2]
        refine (same_upd (o := .lst []) nl') _ _ ?_
        rw [upd_ne h1]
        exact e
      generalize upd (upd (upd H13 z (.lst ((tabRow (rowOf ps) (wtOf ps) (j + 1) 0).map oV ++ [.int 1]))) l' (.lst [])) t (.lst (qs1.map V.ref ++ [.ref l'])) = H16 at keep
      have sbe : Same Hb H16 := fun b o e => keep b o (ne_of_none (s7 _ _ e) (nq1 z zq)) (ne_of_none (s7 _ _ e) nt0) (sbd b o e)
      have s9d : Same H9 H13 := s9b.trans (s12.trans s13)
      have z8 : H8 z = some _ := z2
      have off : ∀ b o, H8 b = none → H9 b = some o → H16 b = some o := fun b o n e => keep b o (fun h => by rw [h, z2] at n; cases n) (fun h => by rw [h, ht1] at n; cases n) (s9d b o e)
      have u16 : TabAt H16 u (tabW (rowOf ps) (wtOf ps) (j + 1) (ps.length + 1)) := ⟨qs2, off _ _ nu0 hu1, hr2.keep fun q hq o e => off q o (nq2 q hq) e⟩
      -- sum_table(weights_here, many) != due
      refine ⟨.ref d, rfl, .int (1 + (j : Int)), rfl, d, ps, j + 1, by rw [e1]; rfl, sbe _ _ hdb, ok, by omega, by omega, fun H17 t2 s17 nt2 => ?_⟩
      refine ⟨.ref u, rfl, dTab _, dTab _, dp_tab nt2.tab, dp_tab (u16.same s17), shaped_tab _, shaped_tab _, _, rfl, ?_⟩
      rw [eqv_self (shaped_tab _)]
      refine iteF ?_
      -- weights_here != kept
      have sbf := sbe.trans s17
      refine ⟨.ref d, rfl, .ref kp, rfl, d, kp, kvs ps, kvs ps, rfl, rfl, sbf _ _ hdb, sbf _ _ hkpb, rfl, fun q hq => ?_, _, rfl, iteF ?_⟩
      · obtain ⟨q0, h0, rfl⟩ := List.mem_map.mp hq
        refine ⟨?_, rfl⟩
        show valV (kvs ps) (Sum.inl q0.1) = some (V.int q0.2)
        rw [val_kvs (List.mem_map.mpr ⟨q0, h0, rfl⟩), wt_of_mem ok.nd q0 h0]
      · exact ⟨_, _, _, _, rfl, sbf⟩
    · rintro σ H7 ⟨y6, y7, y8, y9, rfl, s7⟩
      exact ⟨_, _, _, _, _, _, _, _, _, rfl, sHb.trans s7⟩
  · rintro σ H1 ⟨y1, y2, y3, y4, y5, y6, y7, y8, y9, rfl, s1⟩
    exact rfl
end
end K67

/-! the end: what the top has written, the law's row -/
namespace K67
open PySem PySem.Spec PyProof.Rows L2
theorem has_mk {K : PySem.W.Frag} {h : Heap} {mg : Str → Option Value} {x : Str} {st : Stmt} {f : Addr} {oc : Value} {od an : Option Addr} {osl : Array (Option Value)} {kV doc pm cdv ct : Value} (X : K.In h) (G : h.Ns mainGlobals mg)
    (a : PySem.W.nsIn K mainGlobals x = some (some (.ref f))) (l : K.lookup f = some ⟨oc, od, .func (PySem.W.fnOf x x (defArgs st) (defBody st) (defScope st) .none kV doc pm an cdv ct), osl⟩)
    (c : PySem.W.codeIn K cdv x = true) (k : PySem.W.keepIn K (.ref f) = true) : Has K mg x st := ⟨f, _, fun_mk l c k, PySem.W.mg_of X G a⟩
theorem con_mk {K : PySem.W.Frag} {h : Heap} {mg : Str → Option Value} {x : Str} {i : Int} {u : Tok} (X : K.In h) (G : h.Ns mainGlobals mg) (a : PySem.W.nsIn K mainGlobals x = some (some (.int i u))) : ∃ u, mg x = some (.int i u) := ⟨u, PySem.W.mg_of X G a⟩
theorem walk_law {l : PySem.W.OpenLaw} {q : Program} {loose : List Str} {XP : (Str → Option Value) → Heap → Prop} {YP : World → Heap → Prop} {d : DefRec} {K : Params → PySem.W.Frag} (most : l.most = some 63) (plain : d.params.defaults = [])
    (there : ∀ (w : World) (h : Heap), YP w h → (K w.params).In h) (name : d.name = "law") (F : ∀ (w : World) (mg : Str → Option Value) (h : Heap), (K w.params).In h → h.Ns mainGlobals mg → Txt (K w.params) mg) :
    PySem.W.WalkO q loose XP YP l.row.toRowW d [] (fun f vs => PySem.call f vs) := by
  refine Att.attach_call most plain fun w s₀ s₁ mg mb fa o pm cd doc a vs ns G Y ho hd hcd hmg hobj hints hlen hg => ?_
  have kx := there w _ Y
  have T := F w mg _ kx G.T.g
  obtain ⟨f, fd, hF, hm⟩ := T.f40
  rw [name, hm] at hmg
  cases hmg
  refine enter_at kx G.T.g G.T.b G.T.builtins G.T.nolimit hg hobj hints (Nat.le_trans hlen (by decide)) fun base H kb gb e0 hs => ?_
  refine run_at (k := 5) (us := [.ref a]) (vs := [.ref a]) hF sc40 ⟨rfl, by decide, by decide⟩ e0 (hF.binds (ps := ["_law_script"]) (fun _ _ _ _ _ _ us hl => match us, hl with | [_], _ => rfl) s₁ [.ref a] kx rfl) (.cons rfl .nil) rfl fun cdv hr => ?_
  exact law_body T rfl hr hs hlen
end K67
open PySem PySem.W PyProof.Rows
set_option maxHeartbeats 0 in
theorem PySem.Challenge.cw_roomtold_k67_whole_tables_of_sums_holds : PySem.Challenge.rw_roomtold_k67_whole_tables_of_sums.Holds := by
  w_on; o_law; k_head; (case hw => w_witness2)
  k_fill
  refine K67.walk_law (l := PySem.Challenge.rw_roomtold_k67_whole_tables_of_sums) rfl rfl (fun w h Y => PySem.W.kIn_of Y) rfl ?F
  case F =>
    intro w mg h KX G
    refine' ⟨PySem.W.mg_none_of KX G ?z_isinstance, PySem.W.mg_none_of KX G ?z_len, PySem.W.mg_none_of KX G ?z_all, PySem.W.mg_none_of KX G ?z_sorted, PySem.W.mg_none_of KX G ?z_sum, PySem.W.mg_none_of KX G ?z_min, PySem.W.mg_none_of KX G ?z_max, PySem.W.mg_none_of KX G ?z_repr, PySem.W.mg_none_of KX G ?z_range, PySem.W.mg_none_of KX G ?z_int, PySem.W.mg_none_of KX G ?z_bool, PySem.W.mg_none_of KX G ?z_list, PySem.W.mg_none_of KX G ?z_tuple, PySem.W.mg_none_of KX G ?z_dict, K67.con_mk KX G ?m_mRoom, K67.con_mk KX G ?m_mBounds, K67.con_mk KX G ?m_mSizes, K67.con_mk KX G ?m_mWeight, K67.con_mk KX G ?m_mSum, K67.has_mk KX G ?a7 ?l7 ?c7 ?k7, K67.has_mk KX G ?a11 ?l11 ?c11 ?k11, K67.has_mk KX G ?a12 ?l12 ?c12 ?k12, K67.has_mk KX G ?a13 ?l13 ?c13 ?k13, K67.has_mk KX G ?a14 ?l14 ?c14 ?k14, K67.has_mk KX G ?a15 ?l15 ?c15 ?k15, K67.has_mk KX G ?a18 ?l18 ?c18 ?k18, K67.has_mk KX G ?a19 ?l19 ?c19 ?k19, K67.has_mk KX G ?a20 ?l20 ?c20 ?k20, K67.has_mk KX G ?a21 ?l21 ?c21 ?k21, K67.has_mk KX G ?a22 ?l22 ?c22 ?k22, K67.has_mk KX G ?a23 ?l23 ?c23 ?k23, K67.has_mk KX G ?a24 ?l24 ?c24 ?k24, K67.has_mk KX G ?a26 ?l26 ?c26 ?k26, K67.has_mk KX G ?a27 ?l27 ?c27 ?k27, K67.has_mk KX G ?a28 ?l28 ?c28 ?k28, K67.has_mk KX G ?a29 ?l29 ?c29 ?k29, K67.has_mk KX G ?a30 ?l30 ?c30 ?k30, K67.has_mk KX G ?a31 ?l31 ?c31 ?k31, K67.has_mk KX G ?a32 ?l32 ?c32 ?k32, K67.has_mk KX G ?a33 ?l33 ?c33 ?k33, K67.has_mk KX G ?a34 ?l34 ?c34 ?k34, K67.has_mk KX G ?a35 ?l35 ?c35 ?k35, K67.has_mk KX G ?a36 ?l36 ?c36 ?k36, K67.has_mk KX G ?a37 ?l37 ?c37 ?k37, K67.has_mk KX G ?a38 ?l38 ?c38 ?k38, K67.has_mk KX G ?a39 ?l39 ?c39 ?k39, K67.has_mk KX G ?a40 ?l40 ?c40 ?k40⟩
    (case z_isinstance => k_is)
    (case z_len => k_is)
    (case z_all => k_is)
    (case z_sorted => k_is)
    (case z_sum => k_is)
    (case z_min => k_is)
    (case z_max => k_is)
    (case z_repr => k_is)
    (case z_range => k_is)
    (case z_int => k_is)
    (case z_bool => k_is)
    (case z_list => k_is)
    (case z_tuple => k_is)
    (case z_dict => k_is)
    (case m_mRoom => k_is)
    (case m_mBounds => k_is)
    (case m_mSizes => k_is)
    (case m_mWeight => k_is)
    (case m_mSum => k_is)
    (case a7 => k_is); (case l7 => k_is); (case c7 => k_is); (case k7 => k_is)
    (case a11 => k_is); (case l11 => k_is); (case c11 => k_is); (case k11 => k_is)
    (case a12 => k_is); (case l12 => k_is); (case c12 => k_is); (case k12 => k_is)
    (case a13 => k_is); (case l13 => k_is); (case c13 => k_is); (case k13 => k_is)
    (case a14 => k_is); (case l14 => k_is); (case c14 => k_is); (case k14 => k_is)
    (case a15 => k_is); (case l15 => k_is); (case c15 => k_is); (case k15 => k_is)
    (case a18 => k_is); (case l18 => k_is); (case c18 => k_is); (case k18 => k_is)
    (case a19 => k_is); (case l19 => k_is); (case c19 => k_is); (case k19 => k_is)
    (case a20 => k_is); (case l20 => k_is); (case c20 => k_is); (case k20 => k_is)
    (case a21 => k_is); (case l21 => k_is); (case c21 => k_is); (case k21 => k_is)
    (case a22 => k_is); (case l22 => k_is); (case c22 => k_is); (case k22 => k_is)
    (case a23 => k_is); (case l23 => k_is); (case c23 => k_is); (case k23 => k_is)
    (case a24 => k_is); (case l24 => k_is); (case c24 => k_is); (case k24 => k_is)
    (case a26 => k_is); (case l26 => k_is); (case c26 => k_is); (case k26 => k_is)
    (case a27 => k_is); (case l27 => k_is); (case c27 => k_is); (case k27 => k_is)
    (case a28 => k_is); (case l28 => k_is); (case c28 => k_is); (case k28 => k_is)
    (case a29 => k_is); (case l29 => k_is); (case c29 => k_is); (case k29 => k_is)
    (case a30 => k_is); (case l30 => k_is); (case c30 => k_is); (case k30 => k_is)
    (case a31 => k_is); (case l31 => k_is); (case c31 => k_is); (case k31 => k_is)
    (case a32 => k_is); (case l32 => k_is); (case c32 => k_is); (case k32 => k_is)
    (case a33 => k_is); (case l33 => k_is); (case c33 => k_is); (case k33 => k_is)
    (case a34 => k_is); (case l34 => k_is); (case c34 => k_is); (case k34 => k_is)
    (case a35 => k_is); (case l35 => k_is); (case c35 => k_is); (case k35 => k_is)
    (case a36 => k_is); (case l36 => k_is); (case c36 => k_is); (case k36 => k_is)
    (case a37 => k_is); (case l37 => k_is); (case c37 => k_is); (case k37 => k_is)
    (case a38 => k_is); (case l38 => k_is); (case c38 => k_is); (case k38 => k_is)
    (case a39 => k_is); (case l39 => k_is); (case c39 => k_is); (case k39 => k_is)
    (case a40 => k_is); (case l40 => k_is); (case c40 => k_is); (case k40 => k_is)
