import PyProof.Rows.All
import Wide.All
import OpenK.AllK
import Wide.FinOn
import HandS.ForMost
import HandS.More
import HandS.Sort
import HandS.SortOrd
import HandS.SortRule
import HandS.SortInts
import HandS.SortKw
import HandS.Zip
import HandS.IsInst
import HandS.TupAny
import HandS.TupMul
import HandS.Style
import HandS.Flow
import HandS.Conv
import HandS.Defaults
import HandS.Lambda
import HandS.EndTab
import HandS.Wide
import HandS.Exc
import KE.KTupSum
import KE.GoesEnumKw
import KE.SortKeyHeap
import HandS.SetFor
import KE.KNestM
import PySem.Challenge.RW_blockpics_k23_whole_least_tables_of_many
set_option linter.all false
namespace K23M
/-! ### sums, sorted lists -/
abbrev Sorted (l : List Int) : Prop := l.Pairwise (· ≤ ·)
theorem perm_sum : ∀ {a b : List Int}, a.Perm b → a.sum = b.sum := by
  intro a b h
  induction h with
  | nil => rfl
  | cons x _ ih => simp [ih]
  | swap x y l => simp only [List.sum_cons]; omega
  | trans _ _ h1 h2 => exact h1.trans h2
theorem sorted_uniq : ∀ {a b : List Int}, Sorted a → Sorted b → a.Perm b → a = b
  | [], b, _, _, h => (List.Perm.nil_eq h)
  | x :: a, [], _, _, h => absurd h.length_eq (by simp)
  | x :: a, y :: b, ha, hb, h => by
    have h1 : y ≤ x := by
      rcases List.mem_cons.mp (h.mem_iff.mp (List.mem_cons_self)) with e | m
      · omega
      · exact (List.pairwise_cons.mp hb).1 x m
    have h2 : x ≤ y := by
      rcases List.mem_cons.mp (h.mem_iff.mpr (List.mem_cons_self)) with e | m
      · omega
      · exact (List.pairwise_cons.mp ha).1 y m
    have e : x = y := by omega
    subst e
    rw [sorted_uniq (List.pairwise_cons.mp ha).2 (List.pairwise_cons.mp hb).2 h.cons_inv]
def isort (l : List Int) : List Int := l.mergeSort (fun a b => decide (a ≤ b))
theorem isort_perm (l : List Int) : (isort l).Perm l := List.mergeSort_perm _ _
theorem isort_sorted (l : List Int) : Sorted (isort l) := by
  have h := List.pairwise_mergeSort (le := fun a b : Int => decide (a ≤ b)) (by intro a b c h1 h2; simp at *; omega) (by intro a b; simp; omega) l
  exact h.imp (by intro a b h; simpa using h)
theorem isort_eq {a l : List Int} (hp : a.Perm l) (hs : Sorted a) : a = isort l := sorted_uniq hs (isort_sorted l) (hp.trans (isort_perm l).symm)
theorem isort_of_sorted {l : List Int} (hs : Sorted l) : isort l = l := (isort_eq (List.Perm.refl l) hs).symm
theorem isort_congr {a b : List Int} (h : a.Perm b) : isort a = isort b := isort_eq ((isort_perm a).trans h) (isort_sorted a)
theorem isort_length (l : List Int) : (isort l).length = l.length := (isort_perm l).length_eq
theorem Sorted.take {l : List Int} (h : Sorted l) (n : Nat) : Sorted (l.take n) := List.Pairwise.sublist (List.take_sublist n l) h
theorem Sorted.drop {l : List Int} (h : Sorted l) (n : Nat) : Sorted (l.drop n) := List.Pairwise.sublist (List.drop_sublist n l) h
theorem sorted_append {a b : List Int} (ha : Sorted a) (hb : Sorted b) (h : ∀ x ∈ a, ∀ y ∈ b, x ≤ y) : Sorted (a ++ b) := List.pairwise_append.mpr ⟨ha, hb, h⟩
theorem sorted_get {l : List Int} (h : Sorted l) {i j : Nat} {x y : Int} (hi : l[i]? = some x) (hj : l[j]? = some y) (hij : i ≤ j) : x ≤ y := by
  obtain ⟨h1, rfl⟩ := List.getElem?_eq_some_iff.mp hi
  obtain ⟨h2, rfl⟩ := List.getElem?_eq_some_iff.mp hj
  rcases Nat.lt_or_eq_of_le hij with q | q
  · exact List.pairwise_iff_getElem.mp h i j h1 h2 q
  · subst q; exact Int.le_refl _
/-- the least ones: a part T of a list whose rest U is nowhere below it is the sorted list's beginning -/
theorem take_split {T U R : List Int} (hR : Sorted R) (hp : (T ++ U).Perm R) (h : ∀ x ∈ T, ∀ y ∈ U, x ≤ y) : (R.take T.length).sum = T.sum := by
  have e : R = isort T ++ isort U := by
    refine sorted_uniq hR (sorted_append (isort_sorted _) (isort_sorted _) ?_) (hp.symm.trans (List.Perm.append (isort_perm T).symm (isort_perm U).symm))
    intro x hx y hy
    exact h x ((isort_perm T).mem_iff.mp hx) y ((isort_perm U).mem_iff.mp hy)
  rw [e, ← isort_length T, List.take_left]
  exact perm_sum (isort_perm T)
/-- any part of a list is at least the sorted list's beginning of its length -/
theorem take_least : ∀ {T U R : List Int}, Sorted R → (T ++ U).Perm R → (R.take T.length).sum ≤ T.sum := by
  intro T
  induction hn : T.length generalizing T with
  | zero => intro U R _ _; rw [List.length_eq_zero_iff.mp hn]; simp
  | succ n ih =>
    intro U R hR hp
    match R, hR, hp with
    | [], _, hp => have := hp.length_eq; simp at this; rw [this.1] at hn; simp at hn
    | r :: R, hR, hp =>
      have hr : ∀ x ∈ T, r ≤ x := by
        intro x hx
        rcases List.mem_cons.mp (hp.mem_iff.mp (List.mem_append_left U hx)) with e | m
        · omega
        · exact (List.pairwise_cons.mp hR).1 x m
      by_cases hm : r ∈ T
      · obtain ⟨T1, T2, rfl⟩ := List.append_of_mem hm
        have hp2 : (T1 ++ T2 ++ U).Perm R := by
          refine List.Perm.cons_inv (a := r) (List.Perm.trans ?_ hp)
          rw [List.append_assoc, List.append_assoc, List.cons_append]
          exact (List.perm_middle (l₁ := T1) (l₂ := T2 ++ U) (a := r)).symm
        have hl : (T1 ++ T2).length = n := by
          simp only [List.length_append, List.length_cons] at hn ⊢; omega
        have q := ih hl (List.pairwise_cons.mp hR).2 hp2
        rw [List.take_succ_cons, List.sum_cons]
        simp only [List.sum_append, List.sum_cons] at q ⊢
        omega
      · -- r stands in U: it takes the place of T's first
        have hU : r ∈ U := by
          rcases List.mem_append.mp (hp.mem_iff.mpr List.mem_cons_self) with q | q
          · exact absurd q hm
          · exact q
        match T, hn, hr with
        | [], hn, _ => simp at hn
        | t :: T', hn, hr =>
          obtain ⟨U1, U2, rfl⟩ := List.append_of_mem hU
          have hp2 : (T' ++ (t :: (U1 ++ U2))).Perm R := by
            refine List.Perm.cons_inv (a := r) (List.Perm.trans ?_ hp)
            have a1 : (r :: (T' ++ t :: (U1 ++ U2))).Perm (r :: t :: (T' ++ (U1 ++ U2))) := (List.perm_middle (l₁ := T') (l₂ := U1 ++ U2) (a := t)).cons r
            have a2 : (r :: t :: (T' ++ (U1 ++ U2))).Perm (t :: r :: (T' ++ (U1 ++ U2))) := List.Perm.swap _ _ _
            have a3 : (t :: r :: (T' ++ (U1 ++ U2))).Perm (t :: (T' ++ (U1 ++ r :: U2))) := by
              refine List.Perm.cons t ?_
              rw [← List.append_assoc, ← List.append_assoc]
              exact (List.perm_middle (l₁ := T' ++ U1) (l₂ := U2) (a := r)).symm
            exact a1.trans (a2.trans a3)
          have hl : T'.length = n := by simpa using hn
          have q := ih hl (List.pairwise_cons.mp hR).2 hp2
          have ht := hr t List.mem_cons_self
          rw [List.take_succ_cons, List.sum_cons, List.sum_cons]
          omega
theorem take_mono : ∀ {l : List Int} {m n : Nat}, (∀ x ∈ l, 0 ≤ x) → m ≤ n → (l.take m).sum ≤ (l.take n).sum
  | [], m, n, _, _ => by simp
  | x :: l, 0, n, h, _ => by
    have : ∀ (l : List Int), (∀ x ∈ l, 0 ≤ x) → 0 ≤ l.sum := by
      intro l; induction l with
      | nil => intro _; simp
      | cons a l ih => intro h; have h1 := h a List.mem_cons_self; have h2 := ih fun x hx => h x (List.mem_cons_of_mem _ hx); rw [List.sum_cons]; omega
    simp only [List.take_zero, List.sum_nil]
    exact this _ fun y hy => h y (List.mem_of_mem_take hy)
  | x :: l, m + 1, 0, _, hmn => by omega
  | x :: l, m + 1, n + 1, h, hmn => by
    have q := take_mono (l := l) (m := m) (n := n) (fun y hy => h y (List.mem_cons_of_mem _ hy)) (by omega)
    simp only [List.take_succ_cons, List.sum_cons]
    omega
/-! ### packages -/
def pairs : List Int → List Int
  | a :: b :: r => (a + b) :: pairs r
  | _ => []
theorem pairs_length : ∀ l : List Int, (pairs l).length = l.length / 2
  | [] => rfl
  | [_] => by simp [pairs]
  | a :: b :: r => by
    have := pairs_length r
    simp only [pairs, List.length_cons]; omega
theorem pairs_get : ∀ (l : List Int) (i : Nat) {x y : Int}, l[2 * i]? = some x → l[2 * i + 1]? = some y → (pairs l)[i]? = some (x + y)
  | [], i, x, y, h, _ => by simp at h
  | [_], 0, x, y, _, h => by simp at h
  | [_], i + 1, x, y, h, _ => by simp [Nat.mul_add] at h
  | a :: b :: r, 0, x, y, h, h2 => by simp at h h2; subst h; subst h2; rfl
  | a :: b :: r, i + 1, x, y, h, h2 => by
    have e1 : 2 * (i + 1) = 2 * i + 1 + 1 := by omega
    rw [e1] at h h2
    exact pairs_get r i (by simpa using h) (by simpa using h2)
theorem pairs_take : ∀ (l : List Int) (m : Nat), 2 * m ≤ l.length → ((pairs l).take m).sum = (l.take (2 * m)).sum
  | _, 0, _ => by simp
  | [], m + 1, h => by simp at h
  | [_], m + 1, h => by simp at h; omega
  | a :: b :: r, m + 1, h => by
    have q := pairs_take r m (by simp only [List.length_cons] at h; omega)
    have e1 : 2 * (m + 1) = 2 * m + 1 + 1 := by omega
    rw [e1]
    simp only [pairs, List.take_succ_cons, List.sum_cons, q]
    omega
theorem pairs_ge : ∀ (l : List Int), Sorted l → Sorted (pairs l)
  | [], _ => List.Pairwise.nil
  | [_], _ => List.Pairwise.nil
  | a :: b :: r, h => by
    have h1 := List.pairwise_cons.mp h
    have h2 := List.pairwise_cons.mp h1.2
    refine List.pairwise_cons.mpr ⟨fun x hx => ?_, pairs_ge r h2.2⟩
    have key : ∀ (l : List Int) (c : Int), (∀ y ∈ l, c ≤ y) → ∀ x ∈ pairs l, c + c ≤ x := by
      intro l
      induction l using pairs.induct with
      | case1 p q r ih =>
        intro c hc x hx
        rcases List.mem_cons.mp hx with e | m
        · have := hc p (by simp); have := hc q (by simp); omega
        · exact ih c (fun y hy => hc y (by simp [hy])) x m
      | case2 l hl =>
        intro c hc x hx
        match l, hl with
        | [], _ => simp [pairs] at hx
        | [_], _ => simp [pairs] at hx
        | p :: q :: r, hl => exact absurd rfl (hl p q r)
    have hb := key r b h2.1 x hx
    have hab : a ≤ b := h1.1 b List.mem_cons_self
    omega
theorem pairs_nonneg : ∀ (l : List Int), (∀ x ∈ l, 0 ≤ x) → ∀ x ∈ pairs l, 0 ≤ x := by
  intro l
  induction l using pairs.induct with
  | case1 p q r ih =>
    intro h x hx
    rcases List.mem_cons.mp hx with e | m
    · have := h p (by simp); have := h q (by simp); omega
    · exact ih (fun y hy => h y (by simp [hy])) x m
  | case2 l hl =>
    intro _ x hx
    match l, hl with
    | [], _ => simp [pairs] at hx
    | [_], _ => simp [pairs] at hx
    | p :: q :: r, hl => exact absurd rfl (hl p q r)
/-- the rows of packages over coins C: the k-th from below -/
def row (C : List Int) : Nat → List Int
  | 0 => []
  | k + 1 => isort (C ++ pairs (row C k))
theorem row_sorted (C : List Int) : ∀ k, Sorted (row C k)
  | 0 => List.Pairwise.nil
  | _ + 1 => isort_sorted _
theorem row_length (C : List Int) (k : Nat) : (row C (k + 1)).length = C.length + (row C k).length / 2 := by
  show (isort _).length = _
  rw [isort_length, List.length_append, pairs_length]
theorem row_nonneg {C : List Int} (h : ∀ x ∈ C, 0 ≤ x) : ∀ k, ∀ x ∈ row C k, 0 ≤ x
  | 0 => fun x hx => by simp [row] at hx
  | k + 1 => fun x hx => by
    rcases List.mem_append.mp ((isort_perm _).mem_iff.mp hx) with q | q
    · exact h x q
    · exact pairs_nonneg _ (row_nonneg h k) x q
theorem row_one {C : List Int} (h : Sorted C) : row C 1 = C := by
  show isort (C ++ pairs []) = C
  simp [pairs, isort_of_sorted h]
/-- a row has room enough -/
theorem row_room {m L : Nat} {C : List Int} (hC : C.length = m) (hL : m ≤ 2 ^ L) : ∀ k, k < L → 2 * m ≤ (row C (k + 1)).length + 2 ^ (L - k)
  | 0, _ => by
    rw [row_length]
    show 2 * m ≤ C.length + 0 / 2 + 2 ^ (L - 0)
    rw [hC, Nat.sub_zero]
    omega
  | k + 1, hk => by
    have ih := row_room hC hL k (by omega)
    rw [row_length, hC]
    have e : 2 ^ (L - k) = 2 * 2 ^ (L - (k + 1)) := by
      rw [show L - k = (L - (k + 1)) + 1 by omega, Nat.pow_succ]; omega
    rw [e] at ih
    omega
theorem row_top {n L : Nat} {C : List Int} (hC : C.length = n + 1) (hL : n < 2 ^ L) (h0 : 0 < L) : 2 * n ≤ (row C L).length := by
  have q := row_room (m := n + 1) (L := L) hC (by omega) (L - 1) (by omega)
  rw [show L - 1 + 1 = L by omega, show L - (L - 1) = 1 by omega] at q
  omega
def fewest (C : List Int) (n L : Nat) : Int := ((row C L).take (2 * n)).sum
end K23M
set_option linter.all false
namespace K23M
/-! ### lengths and their room: Q is a list of (weight, length) -/
def cost (Q : List (Int × Nat)) : Int := (Q.map fun p => p.1 * (p.2 : Int)).sum
def kraft (M : Nat) (Q : List (Int × Nat)) : Nat := (Q.map fun p => 2 ^ (M - p.2)).sum
theorem cost_cons (p : Int × Nat) (Q : List (Int × Nat)) : cost (p :: Q) = p.1 * (p.2 : Int) + cost Q := by simp [cost]
theorem kraft_cons (M : Nat) (p : Int × Nat) (Q : List (Int × Nat)) : kraft M (p :: Q) = 2 ^ (M - p.2) + kraft M Q := by simp [kraft]
theorem cost_app (Q R : List (Int × Nat)) : cost (Q ++ R) = cost Q + cost R := by simp [cost, List.sum_append]
theorem kraft_app (M : Nat) (Q R : List (Int × Nat)) : kraft M (Q ++ R) = kraft M Q + kraft M R := by simp [kraft, List.sum_append]
theorem nat_perm_sum : ∀ {a b : List Nat}, a.Perm b → a.sum = b.sum := by
  intro a b h
  induction h with
  | nil => rfl
  | cons x _ ih => simp [ih]
  | swap x y l => simp only [List.sum_cons]; omega
  | trans _ _ h1 h2 => exact h1.trans h2
theorem cost_perm {Q R : List (Int × Nat)} (h : Q.Perm R) : cost Q = cost R := perm_sum (h.map _)
theorem kraft_perm {M : Nat} {Q R : List (Int × Nat)} (h : Q.Perm R) : kraft M Q = kraft M R := nat_perm_sum (h.map _)
/-! ### Huffman's joining is the least of all -/
/-- the law's items: (weight, height) -/
abbrev It := Int × Int
def leP (a b : It) : Prop := a.1 < b.1 ∨ (a.1 = b.1 ∧ a.2 ≤ b.2)
/-- joining, as a relation: from the items P (in order) the bits F and the last height g come -/
inductive Joins : List It → Int → Int → Prop
  | one (w h : Int) : Joins [(w, h)] 0 h
  | join {a b : It} {R P : List It} {F g : Int} : (∀ p ∈ R, a.1 ≤ p.1 ∧ b.1 ≤ p.1) → a.1 ≤ b.1 → P.Perm (R ++ [(a.1 + b.1, 1 + max a.2 b.2)]) → Joins P F g → Joins (a :: b :: R) (a.1 + b.1 + F) g
theorem max_len : ∀ {T : List (Int × Nat)}, T ≠ [] → ∃ T1 w c T2, T = T1 ++ (w, c) :: T2 ∧ ∀ p ∈ T, p.2 ≤ c
  | [], h => absurd rfl h
  | [(w, c)], _ => ⟨[], w, c, [], rfl, fun p hp => by simp at hp; subst hp; exact Nat.le_refl _⟩
  | (w, c) :: q :: T, _ => by
    obtain ⟨T1, w', c', T2, e, h⟩ := max_len (T := q :: T) (by simp)
    by_cases hc : c ≤ c'
    · refine ⟨(w, c) :: T1, w', c', T2, by rw [e]; rfl, fun p hp => ?_⟩
      rcases List.mem_cons.mp hp with e | m
      · subst e; exact hc
      · exact h p m
    · refine ⟨[], w, c, q :: T, rfl, fun p hp => ?_⟩
      rcases List.mem_cons.mp hp with e | m
      · subst e; exact Nat.le_refl _
      · exact Nat.le_trans (h p m) (by omega)
/-- the least weight may take the greatest length -/
theorem exchange {w : Int} {a : Nat} {T : List (Int × Nat)} (hw : ∀ p ∈ T, w ≤ p.1) :
    ∃ a' T', T'.map (·.1) = T.map (·.1) ∧ (a' :: T'.map (·.2)).Perm (a :: T.map (·.2)) ∧ (∀ p ∈ T', p.2 ≤ a') ∧ w * (a' : Int) + cost T' ≤ w * (a : Int) + cost T := by
  by_cases h : ∀ p ∈ T, p.2 ≤ a
  · exact ⟨a, T, rfl, List.Perm.refl _, h, Int.le_refl _⟩
  · have hT : T ≠ [] := fun e => h (by rw [e]; simp)
    obtain ⟨T1, v, c, T2, e, hc⟩ := max_len hT
    have hac : a < c := by
      apply Nat.lt_of_not_le
      intro q
      exact h fun p hp => Nat.le_trans (hc p hp) q
    subst e
    refine ⟨c, T1 ++ (v, a) :: T2, by simp, ?_, fun p hp => ?_, ?_⟩
    · simp only [List.map_append, List.map_cons]
      have a1 : (c :: (T1.map (·.2) ++ a :: T2.map (·.2))).Perm (c :: a :: (T1.map (·.2) ++ T2.map (·.2))) := List.perm_middle.cons c
      have a2 : (a :: (T1.map (·.2) ++ c :: T2.map (·.2))).Perm (a :: c :: (T1.map (·.2) ++ T2.map (·.2))) := List.perm_middle.cons a
      exact a1.trans ((List.Perm.swap _ _ _).trans a2.symm)
    · rcases List.mem_append.mp hp with q | q
      · exact hc p (List.mem_append_left _ q)
      · rcases List.mem_cons.mp q with q | q
        · subst q; exact Nat.le_of_lt hac
        · exact hc p (List.mem_append_right _ (List.mem_cons_of_mem _ q))
    · have hv := hw (v, c) (by simp)
      simp only [cost_app, cost_cons]
      have hv : w ≤ v := hv
      have hci : (a : Int) ≤ (c : Int) := by omega
      have key : 0 ≤ (v - w) * ((c : Int) - (a : Int)) := Int.mul_nonneg (by omega) (by omega)
      have e2 : (v - w) * ((c : Int) - (a : Int)) = v * (c : Int) - v * (a : Int) - w * (c : Int) + w * (a : Int) := by
        rw [Int.sub_mul, Int.mul_sub, Int.mul_sub]; omega
      omega
theorem kraft_lens {M : Nat} {Q R : List (Int × Nat)} (h : (Q.map (·.2)).Perm (R.map (·.2))) : kraft M Q = kraft M R := by
  have q := nat_perm_sum (h.map fun l => 2 ^ (M - l))
  simp only [List.map_map] at q
  exact q
theorem pow_dvd_kraft {M b : Nat} (hb : b ≤ M) : ∀ {Q : List (Int × Nat)}, (∀ p ∈ Q, p.2 ≤ b) → 2 ^ (M - b) ∣ kraft M Q
  | [], _ => by simp [kraft]
  | p :: Q, h => by
    rw [kraft_cons]
    refine Nat.dvd_add (Nat.pow_dvd_pow 2 ?_) (pow_dvd_kraft hb fun q hq => h q (List.mem_cons_of_mem _ hq))
    have := h p List.mem_cons_self
    omega
theorem joins_least {P : List It} {F g : Int} (J : Joins P F g) : (∀ p ∈ P, 0 ≤ p.1) → ∀ (M : Nat) (Q : List (Int × Nat)), (Q.map (·.1)).Perm (P.map (·.1)) → (∀ q ∈ Q, q.2 ≤ M) → kraft M Q ≤ 2 ^ M → F ≤ cost Q := by
  induction J with
  | one w h =>
    intro hP M Q hp hl hk
    have hw : 0 ≤ w := hP (w, h) (by simp)
    have : Q.map (·.1) = [w] := List.perm_singleton.mp hp
    match Q, this with
    | [(v, l)], e =>
      simp at e
      subst e
      simp only [cost, List.map_cons, List.map_nil, List.sum_cons, List.sum_nil]
      have := Int.mul_nonneg hw (Int.natCast_nonneg l)
      omega
  | @join a b R P F g hR hab hP J ih =>
    intro hpos M Q hp hl hk
    have ha : 0 ≤ a.1 := hpos a (by simp)
    have hb : 0 ≤ b.1 := hpos b (by simp)
    -- Q's items apart
    have m1 : a.1 ∈ Q.map (·.1) := hp.mem_iff.mpr (by simp)
    obtain ⟨⟨wa, la⟩, hqa, ea⟩ := List.mem_map.mp m1
    have ea : wa = a.1 := ea
    subst ea
    obtain ⟨Q1, Q2, rfl⟩ := List.append_of_mem hqa
    have p1 : ((Q1 ++ Q2).map (·.1)).Perm ((b :: R).map (·.1)) := by
      refine List.Perm.cons_inv (a := a.1) (List.Perm.trans ?_ hp)
      rw [List.map_append, List.map_append, List.map_cons]
      exact List.perm_middle.symm
    have low1 : ∀ p ∈ Q1 ++ Q2, a.1 ≤ p.1 := fun p hp' => by
      have h2 : p.1 ∈ (b :: R).map (·.1) := p1.mem_iff.mp (List.mem_map_of_mem hp')
      obtain ⟨r, hr, er⟩ := List.mem_map.mp h2
      rcases List.mem_cons.mp hr with e | m
      · rw [← er, e]; exact hab
      · rw [← er]; exact (hR r m).1
    obtain ⟨la', T', t1, t2, t3, t4⟩ := exchange (a := la) low1
    have pT : (T'.map (·.1)).Perm ((b :: R).map (·.1)) := by rw [t1]; exact p1
    have m2 : b.1 ∈ T'.map (·.1) := pT.mem_iff.mpr (by simp)
    obtain ⟨⟨wb, lb⟩, hqb, eb⟩ := List.mem_map.mp m2
    have eb : wb = b.1 := eb
    subst eb
    obtain ⟨T1, T2, rfl⟩ := List.append_of_mem hqb
    have p2 : ((T1 ++ T2).map (·.1)).Perm (R.map (·.1)) := by
      refine List.Perm.cons_inv (a := b.1) (List.Perm.trans ?_ pT)
      rw [List.map_append, List.map_append, List.map_cons]
      exact List.perm_middle.symm
    have low2 : ∀ p ∈ T1 ++ T2, b.1 ≤ p.1 := fun p hp' => by
      have h2 : p.1 ∈ R.map (·.1) := p2.mem_iff.mp (List.mem_map_of_mem hp')
      obtain ⟨r, hr, er⟩ := List.mem_map.mp h2
      rw [← er]; exact (hR r hr).2
    obtain ⟨lb', U, u1, u2, u3, u4⟩ := exchange (a := lb) low2
    -- the lengths together
    have lens : (la' :: lb' :: U.map (·.2)).Perm ((Q1 ++ (a.1, la) :: Q2).map (·.2)) := by
      have e1 : (la' :: lb' :: U.map (·.2)).Perm (la' :: lb :: (T1 ++ T2).map (·.2)) := u2.cons la'
      have e2 : (la' :: lb :: (T1 ++ T2).map (·.2)).Perm (la' :: (T1 ++ (b.1, lb) :: T2).map (·.2)) := by
        refine List.Perm.cons la' ?_
        rw [List.map_append, List.map_append, List.map_cons]
        exact List.perm_middle.symm
      have e3 : (la :: (Q1 ++ Q2).map (·.2)).Perm ((Q1 ++ (a.1, la) :: Q2).map (·.2)) := by
        rw [List.map_append, List.map_append, List.map_cons]
        exact List.perm_middle.symm
      exact e1.trans (e2.trans (t2.trans e3))
    have hM : ∀ l ∈ la' :: lb' :: U.map (·.2), l ≤ M := fun l hl' => by
      obtain ⟨q, hq, e⟩ := List.mem_map.mp (lens.mem_iff.mp hl')
      rw [← e]; exact hl q hq
    have hk2 : 2 ^ (M - la') + (2 ^ (M - lb') + kraft M U) ≤ 2 ^ M := by
      have q := kraft_lens (M := M) (Q := (a.1, la') :: (b.1, lb') :: U) (R := Q1 ++ (a.1, la) :: Q2) lens
      rw [kraft_cons, kraft_cons] at q
      rw [← q] at hk
      exact hk
    have hab' : lb' ≤ la' := by
      have : lb' ∈ lb :: (T1 ++ T2).map (·.2) := u2.mem_iff.mp List.mem_cons_self
      rcases List.mem_cons.mp this with e | m
      · rw [e]; exact t3 (b.1, lb) (by simp)
      · obtain ⟨q, hq, e⟩ := List.mem_map.mp m
        rw [← e]
        exact t3 q (by rcases List.mem_append.mp hq with z | z <;> simp [z])
    have hlb : lb' ≤ M := hM lb' (by simp)
    have hla : la' ≤ M := hM la' (by simp)
    -- both may stand at lb'
    have room : 2 * 2 ^ (M - lb') + kraft M U ≤ 2 ^ M := by
      obtain ⟨s, hs⟩ := Nat.dvd_add (Nat.dvd_refl (2 ^ (M - lb'))) (pow_dvd_kraft hlb u3)
      have ht : 2 ^ M = 2 ^ (M - lb') * 2 ^ lb' := by rw [← Nat.pow_add]; congr 1; omega
      have hpos' : 0 < 2 ^ (M - la') := Nat.pow_pos (by omega)
      have hd : 0 < 2 ^ (M - lb') := Nat.pow_pos (by omega)
      have lt : 2 ^ (M - lb') * s < 2 ^ (M - lb') * 2 ^ lb' := by rw [← ht, ← hs]; omega
      have lt2 : s < 2 ^ lb' := Nat.lt_of_mul_lt_mul_left lt
      have le : 2 ^ (M - lb') * (s + 1) ≤ 2 ^ (M - lb') * 2 ^ lb' := Nat.mul_le_mul_left _ lt2
      rw [← ht, Nat.mul_add, ← hs] at le
      omega
    have hb1 : 1 ≤ lb' := by
      apply Nat.pos_of_ne_zero
      intro e
      rw [e, Nat.sub_zero] at room
      have hd : 0 < 2 ^ M := Nat.pow_pos (by omega)
      omega
    have hU : ∀ q ∈ U, q.2 ≤ M := fun q hq => hM q.2 (by simp; exact .inr (.inr ⟨_, hq⟩))
    have q := ih (fun p hp' => ?_) M ((a.1 + b.1, lb' - 1) :: U) ?_ (fun q hq => ?_) ?_
    · have hcost : cost (Q1 ++ (a.1, la) :: Q2) = a.1 * (la : Int) + cost (Q1 ++ Q2) := by simp only [cost_app, cost_cons]; omega
      have hcost2 : cost (T1 ++ (b.1, lb) :: T2) = b.1 * (lb : Int) + cost (T1 ++ T2) := by simp only [cost_app, cost_cons]; omega
      rw [cost_cons] at q
      rw [hcost]
      rw [hcost2] at t4
      have e1 : ((lb' - 1 : Nat) : Int) = (lb' : Int) - 1 := by omega
      have q : F ≤ (a.1 + b.1) * ((lb' - 1 : Nat) : Int) + cost U := q
      rw [e1, Int.mul_sub, Int.mul_one, Int.add_mul] at q
      have m3 : a.1 * (lb' : Int) ≤ a.1 * (la' : Int) := Int.mul_le_mul_of_nonneg_left (by omega) ha
      omega
    · rcases List.mem_append.mp (hP.mem_iff.mp hp') with z | z
      · exact hpos p (by simp [z])
      · simp at z; subst z; show 0 ≤ a.1 + b.1; omega
    · rw [List.map_cons, u1]
      have e1 : (P.map (·.1)).Perm ((R ++ [(a.1 + b.1, 1 + max a.2 b.2)]).map (·.1)) := hP.map _
      rw [List.map_append] at e1
      refine List.Perm.trans ?_ e1.symm
      exact (p2.cons (a.1 + b.1)).trans (List.perm_append_singleton _ _).symm
    · rcases List.mem_cons.mp hq with e | m
      · rw [e]; show lb' - 1 ≤ M; omega
      · exact hU q m
    · rw [kraft_cons]
      show 2 ^ (M - (lb' - 1)) + kraft M U ≤ 2 ^ M
      rw [show M - (lb' - 1) = (M - lb') + 1 by omega, Nat.pow_succ]
      omega
/-- .. and it is reached, with lengths up to the last height -/
theorem joins_reach {P : List It} {F g : Int} (J : Joins P F g) : (∀ p ∈ P, 0 ≤ p.2) →
    ∃ Q : List (It × Nat), (Q.map (·.1)).Perm P ∧ (∀ q ∈ Q, (q.2 : Int) + q.1.2 ≤ g) ∧ (Q.map fun q => q.1.1 * (q.2 : Int)).sum = F ∧ ∀ M : Nat, g ≤ (M : Int) → (Q.map fun q => 2 ^ (M - q.2)).sum = 2 ^ M := by
  induction J with
  | one w h => intro _; exact ⟨[((w, h), 0)], List.Perm.refl _, by simp, by simp, fun M _ => by simp⟩
  | @join a b R P F g hR hab hP J ih =>
    intro hpos
    have ha : 0 ≤ a.2 := hpos a (by simp)
    have hb : 0 ≤ b.2 := hpos b (by simp)
    obtain ⟨Q, q1, q2, q3, q4⟩ := ih fun p hp' => by
      rcases List.mem_append.mp (hP.mem_iff.mp hp') with z | z
      · exact hpos p (by simp [z])
      · simp at z; subst z; show 0 ≤ 1 + max a.2 b.2; omega
    have m1 : (a.1 + b.1, 1 + max a.2 b.2) ∈ Q.map (·.1) := q1.mem_iff.mpr (hP.mem_iff.mpr (by simp))
    obtain ⟨⟨it, l⟩, hq, e⟩ := List.mem_map.mp m1
    have e : it = (a.1 + b.1, 1 + max a.2 b.2) := e
    subst e
    obtain ⟨Q1, Q2, rfl⟩ := List.append_of_mem hq
    have hg : (l : Int) + (1 + max a.2 b.2) ≤ g := q2 ((a.1 + b.1, 1 + max a.2 b.2), l) (by simp)
    refine ⟨(a, l + 1) :: (b, l + 1) :: (Q1 ++ Q2), ?_, fun q hq' => ?_, ?_, fun M hM => ?_⟩
    · rw [List.map_cons, List.map_cons]
      refine List.Perm.cons a (List.Perm.cons b ?_)
      have e1 := q1.trans hP
      rw [List.map_append, List.map_cons] at e1
      have e2 : ((a.1 + b.1, 1 + max a.2 b.2) :: (Q1.map (·.1) ++ Q2.map (·.1))).Perm ((a.1 + b.1, 1 + max a.2 b.2) :: R) := (List.perm_middle.symm.trans e1).trans (List.perm_append_singleton _ _)
      rw [List.map_append]
      exact e2.cons_inv
    · rcases List.mem_cons.mp hq' with e | hq'
      · subst e; show ((l + 1 : Nat) : Int) + a.2 ≤ g; omega
      · rcases List.mem_cons.mp hq' with e | hq'
        · subst e; show ((l + 1 : Nat) : Int) + b.2 ≤ g; omega
        · exact q2 q (by rcases List.mem_append.mp hq' with z | z <;> simp [z])
    · simp only [List.map_append, List.map_cons, List.sum_append, List.sum_cons] at q3 ⊢
      have e1 : ((l + 1 : Nat) : Int) = (l : Int) + 1 := by omega
      rw [e1, Int.mul_add, Int.mul_add, Int.mul_one, Int.mul_one]
      rw [Int.add_mul] at q3
      omega
    · have q5 := q4 M hM
      simp only [List.map_append, List.map_cons, List.sum_append, List.sum_cons] at q5 ⊢
      have e1 : 2 ^ (M - l) = 2 * 2 ^ (M - (l + 1)) := by
        rw [show M - l = (M - (l + 1)) + 1 by omega, Nat.pow_succ]; omega
      omega
end K23M
set_option linter.all false
namespace K23M
/-! ### packages are the least of all lengths up to L -/
/-- how many items are taken of the k-th row from below -/
def cnt (L : Nat) (Q : List (Int × Nat)) : Nat → Nat
  | 0 => 0
  | k + 1 => (Q.filter fun p => decide (L < p.2 + (k + 1))).length + cnt L Q k / 2
def paid (L : Nat) (Q : List (Int × Nat)) : Nat → Int
  | 0 => 0
  | k + 1 => ((Q.filter fun p => decide (L < p.2 + (k + 1))).map (·.1)).sum + paid L Q k
def wide (L : Nat) (Q : List (Int × Nat)) : Nat → Nat
  | 0 => 0
  | k + 1 => (Q.filter fun p => decide (L < p.2 + (k + 1))).length * 2 ^ k + wide L Q k
theorem filter_split {α : Type} (p : α → Bool) : ∀ l : List α, (l.filter p ++ l.filter fun x => !p x).Perm l
  | [] => List.Perm.refl _
  | x :: l => by
    cases h : p x with
    | true =>
      rw [List.filter_cons_of_pos h, List.filter_cons_of_neg (by simp [h])]
      exact (filter_split p l).cons x
    | false =>
      rw [List.filter_cons_of_neg (by simp [h]), List.filter_cons_of_pos (by simp [h])]
      exact List.perm_middle.trans ((filter_split p l).cons x)
theorem row_pays {L : Nat} {C : List Int} {Q : List (Int × Nat)} (hC : ∀ x ∈ C, 0 ≤ x) (hQ : (Q.map (·.1)).Perm C) : ∀ k, cnt L Q k ≤ (row C k).length ∧ ((row C k).take (cnt L Q k)).sum ≤ paid L Q k
  | 0 => ⟨Nat.zero_le _, by simp [row, paid]⟩
  | k + 1 => by
    obtain ⟨h1, h2⟩ := row_pays (L := L) hC hQ k
    have hhalf : cnt L Q k / 2 ≤ (pairs (row C k)).length := by rw [pairs_length]; omega
    have p1 : ((Q.filter fun p => decide (L < p.2 + (k + 1))).map (·.1) ++ (Q.filter fun p => !decide (L < p.2 + (k + 1))).map (·.1)).Perm C := by
      rw [← List.map_append]
      exact ((filter_split _ Q).map _).trans hQ
    have hlen : ((Q.filter fun p => decide (L < p.2 + (k + 1))).map (·.1) ++ (pairs (row C k)).take (cnt L Q k / 2)).length = cnt L Q (k + 1) := by
      rw [List.length_append, List.length_map, List.length_take, Nat.min_eq_left hhalf]
      rfl
    have p2 : (((Q.filter fun p => decide (L < p.2 + (k + 1))).map (·.1) ++ (pairs (row C k)).take (cnt L Q k / 2)) ++ ((Q.filter fun p => !decide (L < p.2 + (k + 1))).map (·.1) ++ (pairs (row C k)).drop (cnt L Q k / 2))).Perm (row C (k + 1)) := by
      have e1 : (C ++ pairs (row C k)).Perm (row C (k + 1)) := (isort_perm _).symm
      refine List.Perm.trans ?_ e1
      have e2 : (((Q.filter fun p => decide (L < p.2 + (k + 1))).map (·.1) ++ (Q.filter fun p => !decide (L < p.2 + (k + 1))).map (·.1)) ++ ((pairs (row C k)).take (cnt L Q k / 2) ++ (pairs (row C k)).drop (cnt L Q k / 2))).Perm (C ++ pairs (row C k)) := by
        rw [List.take_append_drop]
        exact p1.append_right _
      refine List.Perm.trans ?_ e2
      generalize (Q.filter fun p => decide (L < p.2 + (k + 1))).map (·.1) = A
      generalize (Q.filter fun p => !decide (L < p.2 + (k + 1))).map (·.1) = A'
      generalize (pairs (row C k)).take (cnt L Q k / 2) = B
      generalize (pairs (row C k)).drop (cnt L Q k / 2) = B'
      rw [List.append_assoc, List.append_assoc]
      refine List.Perm.append_left A ?_
      rw [← List.append_assoc, ← List.append_assoc]
      exact List.perm_append_comm.append_right B'
    have q := take_least (row_sorted C (k + 1)) p2
    rw [hlen] at q
    refine ⟨?_, Int.le_trans q ?_⟩
    · have z := p2.length_eq
      rw [List.length_append, hlen] at z
      omega
    · rw [List.sum_append, pairs_take _ _ (by omega)]
      have z := take_mono (l := row C k) (m := 2 * (cnt L Q k / 2)) (n := cnt L Q k) (row_nonneg hC k) (by omega)
      show _ ≤ ((Q.filter fun p => decide (L < p.2 + (k + 1))).map (·.1)).sum + paid L Q k
      omega
theorem wide_cnt (L : Nat) (Q : List (Int × Nat)) : ∀ k, wide L Q (k + 1) + 1 ≤ (cnt L Q (k + 1) + 1) * 2 ^ k
  | 0 => by simp [wide, cnt]
  | k + 1 => by
    have ih := wide_cnt L Q k
    have e0 : cnt L Q (k + 1) + 1 ≤ 2 * (cnt L Q (k + 1) / 2 + 1) := by omega
    have e1 : (cnt L Q (k + 1) + 1) * 2 ^ k ≤ 2 * (cnt L Q (k + 1) / 2 + 1) * 2 ^ k := Nat.mul_le_mul_right _ e0
    have e2 : 2 * (cnt L Q (k + 1) / 2 + 1) * 2 ^ k = (cnt L Q (k + 1) / 2 + 1) * 2 ^ (k + 1) := by
      rw [Nat.pow_succ, Nat.mul_comm 2, Nat.mul_assoc, Nat.mul_comm 2]
    show (Q.filter fun p => decide (L < p.2 + (k + 1 + 1))).length * 2 ^ (k + 1) + wide L Q (k + 1) + 1 ≤ ((Q.filter fun p => decide (L < p.2 + (k + 1 + 1))).length + cnt L Q (k + 1) / 2 + 1) * 2 ^ (k + 1)
    rw [Nat.add_assoc (Q.filter _).length, Nat.add_mul]
    omega
/-- what one item gives to the rows up to the k-th -/
theorem wide_cons (L : Nat) (p : Int × Nat) (Q : List (Int × Nat)) : ∀ k, wide L (p :: Q) k = wide L [p] k + wide L Q k
  | 0 => rfl
  | k + 1 => by
    have ih := wide_cons L p Q k
    simp only [wide]
    rw [ih]
    by_cases h : L < p.2 + (k + 1)
    · rw [List.filter_cons_of_pos (by simpa using h), List.filter_cons_of_pos (by simpa using h), List.length_cons]
      simp only [List.filter_nil, List.length_cons, List.length_nil, Nat.add_mul]
      omega
    · rw [List.filter_cons_of_neg (by simpa using h), List.filter_cons_of_neg (by simpa using h)]
      simp only [List.filter_nil, List.length_nil]
      omega
theorem paid_cons (L : Nat) (p : Int × Nat) (Q : List (Int × Nat)) : ∀ k, paid L (p :: Q) k = paid L [p] k + paid L Q k
  | 0 => by simp [paid]
  | k + 1 => by
    have ih := paid_cons L p Q k
    simp only [paid]
    rw [ih]
    by_cases h : L < p.2 + (k + 1)
    · rw [List.filter_cons_of_pos (by simpa using h), List.filter_cons_of_pos (by simpa using h)]
      simp only [List.filter_nil, List.map_cons, List.map_nil, List.sum_cons, List.sum_nil]
      omega
    · rw [List.filter_cons_of_neg (by simpa using h), List.filter_cons_of_neg (by simpa using h)]
      simp only [List.filter_nil, List.map_nil, List.sum_nil]
      omega
theorem wide_one {L : Nat} {w : Int} {l : Nat} (hl : l ≤ L) : ∀ k, k ≤ L → wide L [(w, l)] k + 2 ^ (min k (L - l)) = 2 ^ k
  | 0, _ => by simp [wide]
  | k + 1, hk => by
    have ih := wide_one (w := w) hl k (by omega)
    simp only [wide]
    by_cases h : L < l + (k + 1)
    · rw [List.filter_cons_of_pos (by simpa using h)]
      simp only [List.filter_nil, List.length_cons, List.length_nil]
      rw [Nat.min_eq_right (by omega)] at ih ⊢
      rw [Nat.pow_succ]; omega
    · rw [List.filter_cons_of_neg (by simpa using h)]
      simp only [List.filter_nil, List.length_nil]
      rw [Nat.min_eq_left (by omega)] at ih ⊢
      omega
theorem paid_one {L : Nat} {w : Int} {l : Nat} (hl : l ≤ L) : ∀ k, k ≤ L → paid L [(w, l)] k = w * ((k - (L - l) : Nat) : Int)
  | 0, _ => by simp [paid]
  | k + 1, hk => by
    have ih := paid_one (w := w) hl k (by omega)
    simp only [paid]
    rw [ih]
    by_cases h : L < l + (k + 1)
    · rw [List.filter_cons_of_pos (by simpa using h)]
      simp only [List.filter_nil, List.map_cons, List.map_nil, List.sum_cons, List.sum_nil]
      have e : ((k + 1 - (L - l) : Nat) : Int) = ((k - (L - l) : Nat) : Int) + 1 := by omega
      rw [e, Int.mul_add]; omega
    · rw [List.filter_cons_of_neg (by simpa using h)]
      simp only [List.filter_nil, List.map_nil, List.sum_nil]
      have e : (k + 1 - (L - l) : Nat) = (k - (L - l) : Nat) := by omega
      rw [e]; omega
theorem wide_all {L : Nat} : ∀ {Q : List (Int × Nat)}, (∀ q ∈ Q, q.2 ≤ L) → wide L Q L + kraft L Q = Q.length * 2 ^ L
  | [], _ => by
    have : ∀ k, wide L [] k = 0 := fun k => by induction k with
      | zero => rfl
      | succ k ih => simp [wide, ih]
    simp [this, kraft]
  | (w, l) :: Q, h => by
    have ih := wide_all (L := L) (Q := Q) fun q hq => h q (List.mem_cons_of_mem _ hq)
    have hl : l ≤ L := h (w, l) List.mem_cons_self
    have o := wide_one (w := w) hl L (Nat.le_refl _)
    rw [Nat.min_eq_right (by omega)] at o
    rw [wide_cons, kraft_cons, List.length_cons, Nat.add_mul]
    show wide L [(w, l)] L + wide L Q L + (2 ^ (L - l) + kraft L Q) = _
    omega
theorem paid_all {L : Nat} : ∀ {Q : List (Int × Nat)}, (∀ q ∈ Q, q.2 ≤ L) → paid L Q L = cost Q
  | [], _ => by
    have : ∀ k, paid L [] k = 0 := fun k => by induction k with
      | zero => rfl
      | succ k ih => simp [paid, ih]
    simp [this, cost]
  | (w, l) :: Q, h => by
    have ih := paid_all (L := L) (Q := Q) fun q hq => h q (List.mem_cons_of_mem _ hq)
    have hl : l ≤ L := h (w, l) List.mem_cons_self
    rw [paid_cons, cost_cons, ih, paid_one hl L (Nat.le_refl _)]
    show w * _ + _ = w * (l : Int) + _
    rw [show L - (L - l) = l by omega]
/-- THE LOWER BOUND -/
theorem fewest_le {L n : Nat} {C : List Int} {Q : List (Int × Nat)} (hL : 0 < L) (hn : C.length = n + 1) (hC : ∀ x ∈ C, 0 ≤ x) (hQ : (Q.map (·.1)).Perm C) (hl : ∀ q ∈ Q, q.2 ≤ L) (hk : kraft L Q ≤ 2 ^ L) : fewest C n L ≤ cost Q := by
  obtain ⟨h1, h2⟩ := row_pays (L := L) hC hQ L
  rw [paid_all hl] at h2
  have hlen : Q.length = n + 1 := by
    have := hQ.length_eq
    rw [List.length_map] at this
    omega
  have w1 := wide_all hl
  obtain ⟨k, rfl⟩ : ∃ k, L = k + 1 := ⟨L - 1, by omega⟩
  have w2 := wide_cnt (k + 1) Q k
  have w3 : n * 2 ^ (k + 1) ≤ wide (k + 1) Q (k + 1) := by rw [hlen, Nat.add_mul] at w1; omega
  have w4 : 2 * n * 2 ^ k < (cnt (k + 1) Q (k + 1) + 1) * 2 ^ k := by
    have : n * 2 ^ (k + 1) = 2 * n * 2 ^ k := by rw [Nat.pow_succ, Nat.mul_comm 2 n, Nat.mul_assoc, Nat.mul_comm 2]
    omega
  have w5 : 2 * n < cnt (k + 1) Q (k + 1) + 1 := Nat.lt_of_mul_lt_mul_right w4
  exact Int.le_trans (take_mono (row_nonneg hC _) (by omega)) h2
/-! ### the packages' own lengths -/
/-- how many of the first m entries are coins: the program's own loop, in plain words -/
structure Among (C B : List Int) (m t : Nat) : Prop where
  tC : t ≤ C.length
  tm : t ≤ m
  mB : m - t ≤ B.length
  coin : ∀ (x y : Int), 0 < t → C[t - 1]? = some x → B[m - t]? = some y → x ≤ y
  sum : ∀ (x y : Int), 0 < m - t → C[t]? = some x → B[m - t - 1]? = some y → y ≤ x
theorem Among.take {C B : List Int} {m t : Nat} (h : Among C B m t) (hC : Sorted C) (hB : Sorted B) : ((isort (C ++ B)).take m).sum = (C.take t).sum + (B.take (m - t)).sum := by
  have hl : (C.take t ++ B.take (m - t)).length = m := by
    have := h.tC; have := h.tm; have := h.mB
    rw [List.length_append, List.length_take, List.length_take]; omega
  have hp : ((C.take t ++ B.take (m - t)) ++ (C.drop t ++ B.drop (m - t))).Perm (isort (C ++ B)) := by
    refine List.Perm.trans ?_ (isort_perm _).symm
    have e : ((C.take t ++ C.drop t) ++ (B.take (m - t) ++ B.drop (m - t))) = C ++ B := by rw [List.take_append_drop, List.take_append_drop]
    rw [← e]
    generalize C.take t = A
    generalize C.drop t = A'
    generalize B.take (m - t) = D
    generalize B.drop (m - t) = D'
    rw [List.append_assoc, List.append_assoc]
    refine List.Perm.append_left A ?_
    rw [← List.append_assoc, ← List.append_assoc]
    exact List.perm_append_comm.append_right D'
  have q := take_split (isort_sorted _) hp fun x hx y hy => ?_
  · rw [hl, List.sum_append] at q
    exact q
  · have memT : ∀ {l : List Int} {n : Nat} {z : Int}, z ∈ l.take n → ∃ i, i < n ∧ l[i]? = some z := fun {l n z} hz => by
      obtain ⟨i, hi, e⟩ := List.mem_iff_getElem.mp hz
      rw [List.length_take] at hi
      refine ⟨i, by omega, ?_⟩
      rw [List.getElem_take] at e
      rw [← e, List.getElem?_eq_getElem]
    have memD : ∀ {l : List Int} {n : Nat} {z : Int}, z ∈ l.drop n → ∃ i, n ≤ i ∧ l[i]? = some z := fun {l n z} hz => by
      obtain ⟨i, hi, e⟩ := List.mem_iff_getElem.mp hz
      rw [List.getElem_drop] at e
      exact ⟨n + i, by omega, by rw [← e, List.getElem?_eq_getElem]⟩
    rcases List.mem_append.mp hx with hx | hx <;> rcases List.mem_append.mp hy with hy | hy
    · obtain ⟨i, hi, ei⟩ := memT hx
      obtain ⟨j, hj, ej⟩ := memD hy
      exact sorted_get hC ei ej (by omega)
    · obtain ⟨i, hi, ei⟩ := memT hx
      obtain ⟨j, hj, ej⟩ := memD hy
      have hjl := (List.getElem?_eq_some_iff.mp ej).1
      obtain ⟨y0, e0⟩ : ∃ y0, B[m - t]? = some y0 := ⟨_, List.getElem?_eq_getElem (by omega)⟩
      have htl : t ≤ C.length := h.tC
      obtain ⟨x0, f0⟩ : ∃ x0, C[t - 1]? = some x0 := ⟨_, List.getElem?_eq_getElem (by omega)⟩
      have c := h.coin x0 y0 (by omega) f0 e0
      have c1 := sorted_get hC ei f0 (by omega)
      have c2 := sorted_get hB e0 ej (by omega)
      omega
    · obtain ⟨i, hi, ei⟩ := memT hx
      obtain ⟨j, hj, ej⟩ := memD hy
      have hjl := (List.getElem?_eq_some_iff.mp ej).1
      obtain ⟨x0, f0⟩ : ∃ x0, C[t]? = some x0 := ⟨_, List.getElem?_eq_getElem (by omega)⟩
      have hB' := h.mB
      obtain ⟨y0, e0⟩ : ∃ y0, B[m - t - 1]? = some y0 := ⟨_, List.getElem?_eq_getElem (by omega)⟩
      have c := h.sum x0 y0 (by omega) f0 e0
      have c1 := sorted_get hB ei e0 (by omega)
      have c2 := sorted_get hC f0 ej (by omega)
      omega
    · obtain ⟨i, hi, ei⟩ := memT hx
      obtain ⟨j, hj, ej⟩ := memD hy
      exact sorted_get hB ei ej (by omega)
/-- what is taken of each row, the uppermost first: k rows stand, m entries of the uppermost are wanted -/
inductive Takes (C : List Int) : Nat → Nat → List Nat → Prop
  | nil (m : Nat) : Takes C 0 m []
  | cons {k m t : Nat} {ts : List Nat} : Among C (pairs (row C k)) m t → Takes C k (2 * (m - t)) ts → Takes C (k + 1) m (t :: ts)
theorem Takes.length {C : List Int} {k m : Nat} {ts : List Nat} (h : Takes C k m ts) : ts.length = k := by
  induction h with
  | nil m => rfl
  | cons _ _ ih => rw [List.length_cons, ih]
theorem Takes.sum {C : List Int} (hC : Sorted C) {k m : Nat} {ts : List Nat} (h : Takes C k m ts) : m ≤ (row C k).length → ((row C k).take m).sum = (ts.map fun t => (C.take t).sum).sum := by
  induction h with
  | nil m => intro _; simp [row]
  | @cons k m t ts a _ ih =>
    intro hm
    have e := a.take hC (pairs_ge _ (row_sorted C k))
    have h1 := a.mB
    rw [pairs_length] at h1
    rw [pairs_take _ _ (by omega), ih (by omega)] at e
    rw [List.map_cons, List.sum_cons]
    exact e
/-- the room that the rows have -/
def rooms : Nat → List Nat → Nat
  | _, [] => 0
  | k, t :: ts => t * 2 ^ (k - 1) + rooms (k - 1) ts
theorem Takes.rooms {C : List Int} {k m : Nat} {ts : List Nat} (h : Takes C k m ts) : m ≤ (row C k).length → 2 * rooms k ts = m * 2 ^ k := by
  induction h with
  | nil m => intro hm; simp [row] at hm; subst hm; simp [K23M.rooms]
  | @cons k m t ts a _ ih =>
    intro hm
    have h1 := a.mB
    have h2 := a.tm
    rw [pairs_length] at h1
    have q := ih (by omega)
    show 2 * (t * 2 ^ (k + 1 - 1) + K23M.rooms (k + 1 - 1) ts) = m * 2 ^ (k + 1)
    rw [Nat.add_sub_cancel, Nat.mul_add, q]
    have e : m = t + (m - t) := by omega
    rw [Nat.pow_succ]
    have e2 : m * (2 ^ k * 2) = (t + (m - t)) * (2 ^ k * 2) := by rw [← e]
    rw [e2, Nat.add_mul, Nat.mul_assoc 2 (m - t), Nat.mul_left_comm 2 t, Nat.mul_left_comm 2 (m - t), Nat.mul_comm 2]
/-- the length of coin i -/
def len (ts : List Nat) (i : Nat) : Nat := (ts.filter fun t => decide (i < t)).length
theorem len_cons (t : Nat) (ts : List Nat) (i : Nat) : len (t :: ts) i = (if i < t then 1 else 0) + len ts i := by
  unfold len
  by_cases h : i < t
  · rw [List.filter_cons_of_pos (by simpa using h), List.length_cons, if_pos h]; omega
  · rw [List.filter_cons_of_neg (by simpa using h), if_neg h]; omega
theorem len_le (ts : List Nat) (i : Nat) : len ts i ≤ ts.length := List.length_filter_le _ _
theorem len_anti (ts : List Nat) {i j : Nat} (h : i ≤ j) : len ts j ≤ len ts i := by
  induction ts with
  | nil => exact Nat.le_refl _
  | cons t ts ih => rw [len_cons, len_cons]; split <;> split <;> omega
/-- one bit for each row: what is taken and what is left -/
def bits (i : Nat) : Nat → List Nat → Nat
  | _, [] => 0
  | k, t :: ts => (if i < t then 2 ^ (k - 1) else 0) + bits i (k - 1) ts
theorem bits_room (i : Nat) : ∀ (ts : List Nat), bits i ts.length ts + 2 ^ (ts.length - len ts i) ≤ 2 ^ ts.length
  | [] => by simp [bits, len]
  | t :: ts => by
    have ih := bits_room i ts
    have hl := len_le ts i
    rw [len_cons, List.length_cons]
    show (if i < t then 2 ^ (ts.length + 1 - 1) else 0) + bits i (ts.length + 1 - 1) ts + _ ≤ _
    rw [Nat.add_sub_cancel, Nat.pow_succ]
    split
    · rw [show ts.length + 1 - (1 + len ts i) = ts.length - len ts i by omega]; omega
    · rw [show ts.length + 1 - (0 + len ts i) = (ts.length - len ts i) + 1 by omega, Nat.pow_succ]
      have : 2 ^ (ts.length - len ts i) ≤ 2 ^ ts.length := Nat.pow_le_pow_right (by omega) (by omega)
      omega
theorem sum_range_lt : ∀ (n t c : Nat), t ≤ n → ((List.range n).map fun i => if i < t then c else 0).sum = t * c
  | 0, t, c, h => by
    have e : t = 0 := by omega
    subst e
    simp
  | n + 1, t, c, h => by
    rw [List.range_succ, List.map_append, List.sum_append]
    by_cases e : t = n + 1
    · subst e
      have q := sum_range_lt n n c (Nat.le_refl _)
      have e2 : ((List.range n).map fun i => if i < n + 1 then c else 0) = ((List.range n).map fun i => if i < n then c else 0) := by
        refine List.map_congr_left fun i hi => ?_
        have := List.mem_range.mp hi
        rw [if_pos (by omega), if_pos this]
      rw [e2, q]
      simp [Nat.add_mul]
    · rw [sum_range_lt n t c (by omega)]
      simp [show ¬ n < t by omega]
theorem nat_sum_add {α : Type} (f g : α → Nat) : ∀ l : List α, (l.map fun i => f i + g i).sum = (l.map f).sum + (l.map g).sum
  | [] => rfl
  | x :: l => by simp only [List.map_cons, List.sum_cons, nat_sum_add f g l]; omega
theorem bits_all (n : Nat) : ∀ (ts : List Nat), (∀ t ∈ ts, t ≤ n) → ((List.range n).map fun i => bits i ts.length ts).sum = rooms ts.length ts
  | [], _ => by
    have : ∀ n, ((List.range n).map fun _ => (0 : Nat)).sum = 0 := fun n => by
      have q := sum_range_lt n 0 0 (by omega)
      simpa using q
    exact this n
  | t :: ts, h => by
    have ih := bits_all n ts fun x hx => h x (List.mem_cons_of_mem _ hx)
    show ((List.range n).map fun i => (if i < t then 2 ^ (ts.length + 1 - 1) else 0) + bits i (ts.length + 1 - 1) ts).sum = t * 2 ^ (ts.length + 1 - 1) + rooms (ts.length + 1 - 1) ts
    rw [Nat.add_sub_cancel, nat_sum_add, sum_range_lt n t _ (h t List.mem_cons_self), ih]
theorem nat_sum_le {α : Type} (f g : α → Nat) : ∀ l : List α, (∀ x ∈ l, f x ≤ g x) → (l.map f).sum ≤ (l.map g).sum
  | [], _ => Nat.le_refl _
  | x :: l, h => by
    have := h x List.mem_cons_self
    have := nat_sum_le f g l fun y hy => h y (List.mem_cons_of_mem _ hy)
    simp only [List.map_cons, List.sum_cons]; omega
theorem nat_sum_const {α : Type} (c : Nat) : ∀ l : List α, (l.map fun _ => c).sum = l.length * c
  | [] => by simp
  | x :: l => by simp only [List.map_cons, List.sum_cons, nat_sum_const c l, List.length_cons, Nat.add_mul]; omega
/-- the lengths have room -/
theorem len_kraft {n L : Nat} {ts : List Nat} (hL : ts.length = L) (ht : ∀ t ∈ ts, t ≤ n + 1) (hr : 2 * rooms L ts = 2 * n * 2 ^ L) : ((List.range (n + 1)).map fun i => 2 ^ (L - len ts i)).sum ≤ 2 ^ L := by
  subst hL
  have b := bits_all (n + 1) ts ht
  have q := nat_sum_le (fun i => bits i ts.length ts + 2 ^ (ts.length - len ts i)) (fun _ => 2 ^ ts.length) (List.range (n + 1)) fun i _ => bits_room i ts
  rw [nat_sum_add, nat_sum_const, List.length_range, b, Nat.add_mul] at q
  have e : 2 * n * 2 ^ ts.length = 2 * (n * 2 ^ ts.length) := Nat.mul_assoc _ _ _
  omega
theorem int_sum_add {α : Type} (f g : α → Int) : ∀ l : List α, (l.map fun i => f i + g i).sum = (l.map f).sum + (l.map g).sum
  | [] => rfl
  | x :: l => by simp only [List.map_cons, List.sum_cons, int_sum_add f g l]; omega
theorem take_as_sum : ∀ (C : List Int) (t : Nat), t ≤ C.length → (C.take t).sum = ((List.range C.length).map fun i => if i < t then C.getD i 0 else 0).sum
  | [], t, h => by simp
  | c :: C, 0, _ => by
    have : ∀ n, ((List.range n).map fun _ => (0 : Int)).sum = 0 := fun n => by
      induction n with
      | zero => rfl
      | succ n ih => rw [List.range_succ, List.map_append, List.sum_append, ih]; rfl
    simp [this]
  | c :: C, t + 1, h => by
    have ih := take_as_sum C t (by simpa using h)
    rw [List.take_succ_cons, List.sum_cons, List.length_cons, List.range_succ_eq_map, List.map_cons, List.map_map, List.sum_cons, ih]
    congr 1
    refine congrArg List.sum (List.map_congr_left fun i _ => ?_)
    show _ = if i + 1 < t + 1 then _ else _
    by_cases hi : i < t
    · rw [if_pos hi, if_pos (by omega)]; rfl
    · rw [if_neg hi, if_neg (by omega)]
theorem lens_cost {C : List Int} : ∀ (ts : List Nat), (∀ t ∈ ts, t ≤ C.length) → (ts.map fun t => (C.take t).sum).sum = ((List.range C.length).map fun i => C.getD i 0 * (len ts i : Int)).sum
  | [], _ => by
    have : ∀ n, ((List.range n).map fun _ => (0 : Int)).sum = 0 := fun n => by
      induction n with
      | zero => rfl
      | succ n ih => rw [List.range_succ, List.map_append, List.sum_append, ih]; rfl
    simp [len, this]
  | t :: ts, h => by
    have ih := lens_cost (C := C) ts fun x hx => h x (List.mem_cons_of_mem _ hx)
    rw [List.map_cons, List.sum_cons, ih, take_as_sum C t (h t List.mem_cons_self), ← int_sum_add]
    refine congrArg List.sum (List.map_congr_left fun i _ => ?_)
    rw [len_cons]
    split
    · rw [show ((1 + len ts i : Nat) : Int) = 1 + (len ts i : Int) by omega, Int.mul_add]; omega
    · simp
theorem Takes.le {C : List Int} {k m : Nat} {ts : List Nat} (h : Takes C k m ts) : ∀ t ∈ ts, t ≤ C.length := by
  induction h with
  | nil m => intro t ht; simp at ht
  | cons a _ ih =>
    intro t ht
    rcases List.mem_cons.mp ht with e | m
    · rw [e]; exact a.tC
    · exact ih t m
/-- coins and their lengths -/
def lens (C : List Int) (ts : List Nat) : List (Int × Nat) := (List.range C.length).map fun i => (C.getD i 0, len ts i)
theorem lens_fst (C : List Int) (ts : List Nat) : (lens C ts).map (·.1) = C := by
  unfold lens
  rw [List.map_map]
  apply List.ext_getElem
  · simp
  · intro i h1 h2
    simp [h2]
/-- THE UPPER BOUND: what the program takes are lengths that have room, with these bits -/
theorem takes_reach {C : List Int} {n L : Nat} {ts : List Nat} (hs : Sorted C) (hC : C.length = n + 1) (hn : n < 2 ^ L) (h0 : 0 < L) (h : Takes C L (2 * n) ts) :
    cost (lens C ts) = fewest C n L ∧ kraft L (lens C ts) ≤ 2 ^ L ∧ ∀ q ∈ lens C ts, q.2 ≤ L := by
  have hm := row_top hC hn h0
  have hlen := h.length
  have ht : ∀ t ∈ ts, t ≤ n + 1 := fun t ht => by rw [← hC]; exact h.le t ht
  refine ⟨?_, ?_, fun q hq => ?_⟩
  · show _ = ((row C L).take (2 * n)).sum
    rw [h.sum hs hm, lens_cost ts h.le]
    unfold cost lens
    rw [List.map_map]
    rfl
  · have q := len_kraft hlen ht (h.rooms hm)
    unfold kraft lens
    rw [List.map_map, hC]
    exact q
  · unfold lens at hq
    obtain ⟨i, _, rfl⟩ := List.mem_map.mp hq
    show len ts i ≤ L
    rw [← hlen]
    exact len_le ts i
/-- where no limit is felt, Huffman's bits are the packages' -/
theorem joins_fewest {C : List Int} {n L : Nat} {ts : List Nat} {P : List It} {F g : Int} (hs : Sorted C) (hC : C.length = n + 1) (hpos : ∀ x ∈ C, 0 ≤ x) (hn : n < 2 ^ L) (h0 : 0 < L) (h : Takes C L (2 * n) ts) (J : Joins P F g) (hP : (P.map (·.1)).Perm C) (hz : ∀ p ∈ P, p.2 = 0) (hg : g ≤ (L : Int)) : F = fewest C n L := by
  obtain ⟨c1, c2, c3⟩ := takes_reach hs hC hn h0 h
  apply Int.le_antisymm
  · rw [← c1]
    refine joins_least J (fun p hp => hpos _ (hP.mem_iff.mp (List.mem_map_of_mem hp))) L (lens C ts) ?_ c3 c2
    rw [lens_fst]
    exact hP.symm
  · obtain ⟨Q, q1, q2, q3, q4⟩ := joins_reach J fun p hp => by rw [hz p hp]; exact Int.le_refl _
    have q5 := q4 L hg
    have e : F = cost (Q.map fun q => (q.1.1, q.2)) := by
      rw [← q3]
      unfold cost
      rw [List.map_map]
      rfl
    rw [e]
    refine fewest_le h0 hC hpos ?_ (fun q hq => ?_) ?_
    · rw [List.map_map]
      have := (q1.map (·.1)).trans hP
      rw [List.map_map] at this
      exact this
    · obtain ⟨r, hr, rfl⟩ := List.mem_map.mp hq
      have a := q2 r hr
      have b := hz r.1 (q1.mem_iff.mp (List.mem_map_of_mem hr))
      show r.2 ≤ L
      omega
    · unfold kraft
      rw [List.map_map]
      exact Nat.le_of_eq q5
end K23M
set_option Elab.async false
set_option linter.all false
namespace K23M
theorem among_exists {C B : List Int} (hC : Sorted C) (hB : Sorted B) : ∀ m, m ≤ C.length + B.length → ∃ t, Among C B m t
  | 0, _ => ⟨0, ⟨Nat.zero_le _, Nat.le_refl _, Nat.zero_le _, fun _ _ h => absurd h (by decide), fun _ _ h => absurd h (by decide)⟩⟩
  | m + 1, hm => by
    obtain ⟨t, a⟩ := among_exists hC hB m (by omega)
    have tC := a.tC
    have tm := a.tm
    have mB := a.mB
    by_cases h : ∃ x, C[t]? = some x ∧ ∀ y, B[m - t]? = some y → x ≤ y
    · obtain ⟨x, hx, hy⟩ := h
      have hlt := (List.getElem?_eq_some_iff.mp hx).1
      refine ⟨t + 1, ⟨hlt, by omega, by omega, fun x' y _ hx' hy' => ?_, fun x' y h0 hx' hy' => ?_⟩⟩
      · rw [Nat.add_sub_cancel, hx] at hx'
        cases hx'
        exact hy y (by rw [show m - t = m + 1 - (t + 1) by omega]; exact hy')
      · have h1 := a.sum x y (by omega) hx (by rw [show m - t - 1 = m + 1 - (t + 1) - 1 by omega]; exact hy')
        exact Int.le_trans h1 (sorted_get hC hx hx' (by omega))
    · have hB2 : m - t + 1 ≤ B.length := by
        by_cases hlt : t < C.length
        · by_cases hg : m - t < B.length
          · omega
          · exact absurd ⟨C[t], List.getElem?_eq_getElem hlt, fun y hy => absurd (List.getElem?_eq_some_iff.mp hy).1 hg⟩ h
        · omega
      have eb : B[m - t]? = some (B[m - t]'(by omega)) := List.getElem?_eq_getElem (by omega)
      refine ⟨t, ⟨tC, by omega, by omega, fun x y h0 hx hy => ?_, fun x y h0 hx hy => ?_⟩⟩
      · exact Int.le_trans (a.coin x _ h0 hx eb) (sorted_get hB eb hy (by omega))
      · rw [show m + 1 - t - 1 = m - t by omega, eb] at hy
        cases hy
        have : ¬ x ≤ B[m - t]'(by omega) := fun z => h ⟨x, hx, fun y hy => by rw [eb] at hy; cases hy; exact z⟩
        omega
theorem takes_exists {C : List Int} (hC : Sorted C) : ∀ (k m : Nat), m ≤ (row C k).length → ∃ ts, Takes C k m ts
  | 0, m, _ => ⟨[], .nil m⟩
  | k + 1, m, hm => by
    have hl := row_length C k
    have hp := pairs_length (row C k)
    obtain ⟨t, a⟩ := among_exists hC (pairs_ge _ (row_sorted C k)) m (by omega)
    have mB := a.mB
    obtain ⟨ts, h⟩ := takes_exists hC k (2 * (m - t)) (by omega)
    exact ⟨t :: ts, .cons a h⟩
theorem opt_exists {C : List Int} {n L : Nat} (hC : Sorted C) (hn : C.length = n + 1) (hL : n < 2 ^ L) (h0 : 0 < L) : ∃ Q : List (Int × Nat), Q.map (·.1) = C ∧ cost Q = fewest C n L ∧ kraft L Q ≤ 2 ^ L ∧ ∀ q ∈ Q, q.2 ≤ L := by
  obtain ⟨ts, h⟩ := takes_exists hC L (2 * n) (row_top hn hL h0)
  obtain ⟨h1, h2, h3⟩ := takes_reach hC hn hL h0 h
  exact ⟨lens C ts, lens_fst C ts, h1, h2, h3⟩
theorem cost_nonneg : ∀ {Q : List (Int × Nat)}, (∀ q ∈ Q, 0 ≤ q.1) → 0 ≤ cost Q
  | [], _ => Int.le_refl _
  | q :: Q, h => by
    rw [cost_cons]
    have h1 := Int.mul_nonneg (h q List.mem_cons_self) (Int.natCast_nonneg q.2)
    have h2 := cost_nonneg (Q := Q) fun x hx => h x (List.mem_cons_of_mem _ hx)
    omega
theorem pick {Q : List (Int × Nat)} {w : Int} {D : List Int} (h : (Q.map (·.1)).Perm (w :: D)) : ∃ (l : Nat) (R : List (Int × Nat)), Q.Perm ((w, l) :: R) ∧ (R.map (·.1)).Perm D := by
  obtain ⟨q, hq, e⟩ := List.mem_map.mp (h.mem_iff.mpr List.mem_cons_self)
  obtain ⟨w', l⟩ := q
  have e : w' = w := e
  subst e
  have p := List.perm_cons_erase hq
  exact ⟨l, Q.erase (w', l), p, ((p.map (·.1)).symm.trans h).cons_inv⟩
/-- a symbol less never makes the bits more -/
theorem fewest_drop {C D : List Int} {w : Int} {n L : Nat} (hC : Sorted C) (hn : C.length = n + 1 + 1) (hL : n + 1 < 2 ^ L) (h0 : 0 < L) (hp : C.Perm (w :: D)) (hpos : ∀ x ∈ C, 0 ≤ x) (E : List Int) (hE : E.Perm D) : fewest E n L ≤ fewest C (n + 1) L := by
  obtain ⟨Q, e1, e2, e3, e4⟩ := opt_exists hC hn hL h0
  obtain ⟨l, R, p1, p2⟩ := pick (Q := Q) (w := w) (D := D) (by rw [e1]; exact hp)
  have c := cost_perm p1
  have k := kraft_perm (M := L) p1
  rw [cost_cons] at c
  rw [kraft_cons] at k
  have hw : 0 ≤ w * (l : Int) := Int.mul_nonneg (hpos w (hp.mem_iff.mpr List.mem_cons_self)) (Int.natCast_nonneg l)
  have hEl : E.length = n + 1 := by
    have h1 := hE.length_eq
    have h2 := hp.length_eq
    rw [List.length_cons] at h2
    omega
  refine Int.le_trans (fewest_le (Q := R) h0 hEl (fun x hx => hpos x (hp.mem_iff.mpr (List.mem_cons_of_mem _ (hE.mem_iff.mp hx)))) (p2.trans hE.symm) (fun q hq => e4 q (p1.mem_iff.mpr (List.mem_cons_of_mem _ hq))) (Nat.le_trans (by rw [k]; exact Nat.le_add_left _ _) e3)) ?_
  rw [← e2]
  have c' : cost Q = w * (l : Int) + cost R := c
  omega
/-- a greater weight never makes the bits less -/
theorem fewest_raise {C D : List Int} {w w' : Int} {n L : Nat} (hC : Sorted C) (hn : C.length = n + 1) (hL : n < 2 ^ L) (h0 : 0 < L) (hp : C.Perm (w :: D)) (hpos : ∀ x ∈ C, 0 ≤ x) (h' : 0 ≤ w') (hw : w' ≤ w) (E : List Int) (hE : E.Perm (w' :: D)) : fewest E n L ≤ fewest C n L := by
  obtain ⟨Q, e1, e2, e3, e4⟩ := opt_exists hC hn hL h0
  obtain ⟨l, R, p1, p2⟩ := pick (Q := Q) (w := w) (D := D) (by rw [e1]; exact hp)
  have c := cost_perm p1
  have k := kraft_perm (M := L) p1
  rw [cost_cons] at c
  rw [kraft_cons] at k
  have hEl : E.length = n + 1 := by
    have h1 := hE.length_eq
    have h2 := hp.length_eq
    rw [List.length_cons] at h1 h2
    omega
  refine Int.le_trans (fewest_le (Q := (w', l) :: R) h0 hEl (fun x hx => ?_) ?_ (fun q hq => ?_) ?_) ?_
  · rcases List.mem_cons.mp (hE.mem_iff.mp hx) with e | m
    · rw [e]; exact h'
    · exact hpos x (hp.mem_iff.mpr (List.mem_cons_of_mem _ m))
  · rw [List.map_cons]
    exact (p2.cons w').trans hE.symm
  · rcases List.mem_cons.mp hq with e | m
    · rw [e]; exact e4 (w, l) (p1.mem_iff.mpr List.mem_cons_self)
    · exact e4 q (p1.mem_iff.mpr (List.mem_cons_of_mem _ m))
  · rw [kraft_cons]; show 2 ^ (L - l) + kraft L R ≤ 2 ^ L
    have k' : kraft L Q = 2 ^ (L - l) + kraft L R := k
    omega
  · rw [cost_cons, ← e2]
    have c' : cost Q = w * (l : Int) + cost R := c
    have h1 : w' * (l : Int) ≤ w * (l : Int) := Int.mul_le_mul_of_nonneg_right hw (Int.natCast_nonneg l)
    show w' * (l : Int) + cost R ≤ cost Q
    omega
end K23M
set_option Elab.async false
set_option linter.all false
set_option maxRecDepth 100000
set_option maxHeartbeats 4000000
/-! rules of our own over the layer -/
namespace K23
open PySem PySem.Spec PyProof.Rows L2
section
variable {X : Cx}
/-! ### sorted(d), int keys, any number of them -/
def rSortedDN : List V → Hp → VK → Prop := fun xs H Q => ∃ (a : Addr) (kvs : List (Key × V)) (ks : List Int), xs = [.ref a] ∧ H a = some (.dK kvs) ∧ kvs.map (·.1) = ks.map Sum.inl ∧
    ∀ (ys : List Int) (p : Addr), ys.Perm ks → ys.Pairwise (· ≤ ·) → H p = none → Q (.ref p) (upd H p (.lst (ys.map V.int)))
theorem keys_ints {P : Program} {w : World} {vs : List (Key × Value)} {ks : List Int} {acc : Array Value} (hkeys : vs.map (·.1) = ks.map Sum.inl) (h1 : acc.size = vs.length)
    (h2 : ∀ (j : Nat) (v : Value), acc[j]? = some v → ∃ k x, vs[j]? = some (k, x) ∧ (mixKind P w).is k v = true) : IntsAre acc.toList ks := by
  have hl : vs.length = ks.length := by
    have e := congrArg List.length hkeys
    rw [List.length_map, List.length_map] at e
    exact e
  refine ints_each (by rw [Array.length_toList, h1, hl]) fun j v e => ?_
  obtain ⟨k, x, e1, e2⟩ := h2 j v (by rw [← Array.getElem?_toList]; exact e)
  have e3 : (vs.map (·.1))[j]? = some k := by rw [List.getElem?_map, e1]; rfl
  rw [hkeys, List.getElem?_map] at e3
  cases e4 : ks[j]? with
  | none => rw [e4] at e3; cases e3
  | some y =>
    rw [e4] at e3
    have e5 : Sum.inl y = k := Option.some.inj e3
    subst e5
    rcases keyIs_shape (show keyIs (Sum.inl y) v = true from e2) with ⟨i, t, ek, ev⟩ | ⟨z, t, ek, ev⟩
    · cases ek
      exact ⟨y, t, rfl, ev⟩
    · cases ek
theorem cr_sortedDN (hcalm : X.calm = true) : CallR X (.builtin "sorted") rSortedDN := by
  intro pins s σ H xs us Q I r q
  obtain ⟨a, kvs, ks, ex, hd, hks, q⟩ := q
  subst ex
  obtain ⟨u, eu, rx⟩ := vals1 r
  subst eu
  cases rx
  obtain ⟨z, lo, vs, rel, dd⟩ := dk_of I.hok hd
  obtain ⟨ep, hat⟩ := dd.dictAt
  have hkeys : vs.map (·.1) = ks.map Sum.inl := rel.keys.symm.trans hks
  have hl : vs.length = ks.length := by
    have e := congrArg List.length hkeys
    rw [List.length_map, List.length_map] at e
    exact e
  have h16 : vs.length ≤ sizeLine := by rw [← rel.length]; exact z
  refine Calls.call_function_entry PyProof.Rows.kind_sorted PyProof.Rows.plain_sorted PyProof.Rows.entry_sorted (PyProof.Rows.args_sorted1 _) ?_
  unfold Builtin.«sorted»
  refine wpAny_bind (m := checkCount "sorted" 1 1 _) (wpAny_pure ?_)
  refine wpAny_bind (PySem.W.kdu_collect (A := X.A.in1) (PySem.W.kdl_dict (knd := mixKind X.prog X.w) (kvs := vs) (ep := ep) lo) (I.ok.hd hcalm) hat h16 fun h' tk acc hk hacc => ?_)
  have hal : acc.toList.length = ks.length := by rw [Array.length_toList, hacc.1, hl]
  have hS : IntsAre acc.toList ks := keys_ints hkeys hacc.1 hacc.2
  have I1 : Inv X pins σ H { s with heap := h', toks := tk } := I.kept hk
  refine wpAny_bind (wpAny_newList ?_ (by rw [hal, ← hl]; exact h16))
  have hoL : (h'.push (seqObj "list" acc.toList.toArray 0)).get? h'.objs.size = some (seqObj "list" acc.toList.toArray 0) := Heap.get?_push_size _ rfl
  show wpAny _ _ _ _ _ { s with heap := h'.push (seqObj "list" acc.toList.toArray 0), toks := tk }
  refine wpAny_bind (wpAny_holding (wpAny_call_entry PyProof.Rows.slot_list_sort ⟨_, hoL, rfl⟩ PyProof.Rows.entry_list_sort
    (SrtO.list_sort_ord (s := { s with heap := h'.push (seqObj "list" acc.toList.toArray 0), toks := tk }) SrtO.swo_int hoL (by rw [hal, ← hl]; exact h16) (fun h2 => SrtO.ints_sortable hS h2) fun out g1 g2 => ⟨_, rfl, ?_⟩) (PyProof.Rows.args_list_sort _)))
  obtain ⟨k1, k2, k3⟩ := SrtO.ints_out hS g1 g2
  obtain ⟨e', he'⟩ := PyProof.Rows.sortedHeap_at (vs := acc.toList) (out := out.toArray) hoL
  have hlen : ((out.map SrtO.iv).map V.int).length ≤ sizeLine := by
    rw [List.length_map, k2.length_eq, ← hl]
    exact h16
  refine wpAny_pure ⟨_, rfl, .ref h'.objs.size, upd H h'.objs.size (.lst ((out.map SrtO.iv).map V.int)), I1.laid (t' := tk) (fun b u e => ?_) (Nat.le_refl _)
    (show ObjOk X.prog X.w _ _ _ (.lst ((out.map SrtO.iv).map V.int)) from ⟨hlen, out, e', vals_of_ints k1, he'⟩), rfl, q _ _ k2 k3 (I1.hok.fresh (Nat.le_refl _))⟩
  have hb : b < h'.objs.size := Heap.lt_size e
  show (PyProof.Rows.sortedHeap (h'.push (seqObj "list" acc.toList.toArray 0)) h'.objs.size acc.toList out.toArray).get? b = some u
  rw [PyProof.Rows.sortedHeap_old (Nat.ne_of_lt hb) (by rw [size_push']; exact Nat.lt_succ_of_lt hb)]
  exact Heap.get?_push_of_some _ e
/-! ### sorted(t), a tuple of ints -/
theorem collect_tup {prog : Program} {w : World} {A : Around} {E : Value → Shared → Prop} {s : Shared} {l : Addr} {vs : List Value} {Q : List Value → Shared → Prop} (hl : IsTup s.heap l vs.toArray)
    (h : Q vs { s with heap := (s.heap.push (seqObj "list" #[] 0)).update s.heap.objs.size (Obj.mapSeq (· ++ vs.toArray)) }) (hsz : vs.length ≤ sizeLine) :
    wpAny (model prog w) A (collect (.ref l)) Q E s := by
  obtain ⟨o, ho, hc, n, hd⟩ := id hl
  unfold collect
  refine wpAny_bind (wpAny_runValue (codeAny_builtin entry_proto_collect' ?_))
  show wpAny _ _ (do again (.builtin "list.__iadd__" ⟨[← newList [], .ref l], []⟩)) _ _ s
  refine wpAny_bind (wpAny_newList (wpAny_pure ⟨Code.quiet_builtin _ (by decide +kernel), codeAny_builtin entry_list_iadd' ?_⟩))
  show wpAny _ _ (Builtin.List.listExtendWith (.ref s.heap.objs.size) (.ref l) (.ref s.heap.objs.size)) _ _ { s with heap := s.heap.push (seqObj "list" #[] 0) }
  unfold Builtin.List.listExtendWith
  have ho' : (s.heap.push (seqObj "list" #[] 0)).get? l = some o := Heap.get?_push_of_some _ ho
  refine wpAny_bind (wpAny_typeOf (T := "tuple") ⟨o, ho', hc⟩ ?_)
  have ht : (Value.type "tuple" == Value.type "tuple") = true := by rfl
  rw [if_pos (by rw [ht]; simp)]
  refine wpAny_bind (listItems_at ho' hd ?_)
  refine wpAny_bind (listItems_at (xs := #[]) (n := 0) (Heap.get?_push_size _ rfl) rfl ?_)
  rw [if_neg (by simp)]
  refine wpAny_bind (listUpdate_at (xs := #[]) (n := 0) (Heap.get?_push_size _ rfl) rfl ?_ (Nat.zero_le _) (by show (#[] ++ vs.toArray).size ≤ sizeLine + 1; simp only [Array.size_append, List.size_toArray, List.length_nil]; omega))
  refine wpAny_pure ?_
  show wpAny (model prog w) A (do
      let o ← load s.heap.objs.size
      match o.data with
      | .seq xs _ => pure xs.toList
      | _ => unsupported "internal:collect") Q E { s with heap := (s.heap.push (seqObj "list" #[] 0)).update s.heap.objs.size (Obj.mapSeq (· ++ vs.toArray)) }
  refine wpAny_bind (wpAny_load (get?_update_seq (Heap.get?_push_size _ rfl) _) ?_)
  show wpAny _ _ (pure ((#[] : Array Value) ++ vs.toArray).toList) Q E _
  rw [show ((#[] : Array Value) ++ vs.toArray).toList = vs by simp]
  exact wpAny_pure h
def rSortedTN (K : PySem.W.Frag) : List V → Hp → VK → Prop := fun xs H Q => ∃ (a : Addr) (ns : List Int), xs = [.ref a] ∧ SqT K H a (ns.map V.int) ∧
    ∀ (ys : List Int) (p : Addr), ys.Perm ns → ys.Pairwise (· ≤ ·) → H p = none → Q (.ref p) (upd H p (.lst (ys.map V.int)))
theorem cr_sortedTN : CallR X (.builtin "sorted") (rSortedTN X.K) := by
  intro pins s σ H xs us Q I r q
  obtain ⟨a, ns, ex, hd, q⟩ := q
  subst ex
  obtain ⟨u, eu, rx⟩ := vals1 r
  subst eu
  cases rx
  obtain ⟨its, rv, hl, hz⟩ := I.tuple hd
  have hS : IntsAre its ns := rv.ints
  have h16 : its.length ≤ sizeLine := by rw [← rv.length]; exact hz
  refine Calls.call_function_entry PyProof.Rows.kind_sorted PyProof.Rows.plain_sorted PyProof.Rows.entry_sorted (PyProof.Rows.args_sorted1 _) ?_
  unfold Builtin.«sorted»
  refine wpAny_bind (m := checkCount "sorted" 1 1 _) (wpAny_pure ?_)
  refine wpAny_bind (collect_tup hl ?_ h16)
  generalize hh' : (s.heap.push (seqObj "list" #[] 0)).update s.heap.objs.size (Obj.mapSeq (· ++ its.toArray)) = h'
  have hk : ∀ b o, s.heap.get? b = some o → h'.get? b = some o := fun b o e => by
    rw [← hh', Heap.get?_update_ne _ _ _ _ (Nat.ne_of_lt (Heap.lt_size e))]
    exact Heap.get?_push_of_some _ e
  have I1 : Inv X pins σ H { s with heap := h' } := I.kept (t' := s.toks) hk
  refine wpAny_bind (wpAny_newList ?_ h16)
  have hoL : (h'.push (seqObj "list" its.toArray 0)).get? h'.objs.size = some (seqObj "list" its.toArray 0) := Heap.get?_push_size _ rfl
  show wpAny _ _ _ _ _ { s with heap := h'.push (seqObj "list" its.toArray 0) }
  refine wpAny_bind (wpAny_holding (wpAny_call_entry PyProof.Rows.slot_list_sort ⟨_, hoL, rfl⟩ PyProof.Rows.entry_list_sort
    (SrtO.list_sort_ord (s := { s with heap := h'.push (seqObj "list" its.toArray 0) }) SrtO.swo_int hoL h16 (fun h2 => SrtO.ints_sortable hS h2) fun out g1 g2 => ⟨_, rfl, ?_⟩) (PyProof.Rows.args_list_sort _)))
  obtain ⟨k1, k2, k3⟩ := SrtO.ints_out hS g1 g2
  obtain ⟨e', he'⟩ := PyProof.Rows.sortedHeap_at (vs := its) (out := out.toArray) hoL
  have hlen : ((out.map SrtO.iv).map V.int).length ≤ sizeLine := by
    rw [List.length_map, k2.length_eq]
    rw [List.length_map] at hz
    exact hz
  refine wpAny_pure ⟨_, rfl, .ref h'.objs.size, upd H h'.objs.size (.lst ((out.map SrtO.iv).map V.int)), I1.laid (t' := s.toks) (fun b u e => ?_) (Nat.le_refl _)
    (show ObjOk X.prog X.w _ _ _ (.lst ((out.map SrtO.iv).map V.int)) from ⟨hlen, out, e', vals_of_ints k1, he'⟩), rfl, q _ _ k2 k3 (I1.hok.fresh (Nat.le_refl _))⟩
  have hb : b < h'.objs.size := Heap.lt_size e
  show (PyProof.Rows.sortedHeap (h'.push (seqObj "list" its.toArray 0)) h'.objs.size its out.toArray).get? b = some u
  rw [PyProof.Rows.sortedHeap_old (Nat.ne_of_lt hb) (by rw [size_push']; exact Nat.lt_succ_of_lt hb)]
  exact Heap.get?_push_of_some _ e
/-! ### sum(t), a tuple of ints -/
def rSumT (K : PySem.W.Frag) : List V → Hp → VK → Prop := fun vs H Q => ∃ (a : Addr) (ns : List Int), vs = [V.ref a] ∧ SqT K H a (ns.map V.int) ∧ Q (.int ns.sum) H
theorem cr_sumT (hc : X.calm = true) : CallR X (.builtin "sum") (rSumT X.K) := by
  intro pins s σ H vs us Q I r h
  obtain ⟨a, ns, rfl, hs, q⟩ := h
  obtain ⟨its, rv, hl, _⟩ := I.tuple hs
  obtain ⟨u, eu, rx⟩ := vals1 r
  subst eu
  cases rx
  have hi : IntsAre its ns := rv.ints
  obtain ⟨xs, hx⟩ := hi.allInts.items
  have hn : numsOf its.toArray.toList = ns := by rw [show its.toArray.toList = its from rfl, hi.numsOf]
  have hl' : s.heap.IsTuple a its.toArray := hl
  rw [hx] at hl' hn
  rw [nums_intItems] at hn
  refine PySem.W.ktm_sumG (I.ok.hd hc) hl' fun h' tk t' hk => ⟨.int ns.sum, H, I.kept hk, ⟨t', ?_⟩, q⟩
  rw [preSum_eq, List.take_of_length_le (by simp), hn]
/-! ### max(d.values()) -/
def tMaxVals (td : TE) : TE := fun σ H Q => td σ H fun x H1 => ∃ a kvs is, x = V.ref a ∧ H1 a = some (.dK kvs) ∧ kvs.map (·.2) = is.map V.int ∧ is ≠ [] ∧ ∀ m, m ∈ is → (∀ j ∈ is, j ≤ m) → Q (.int m) H1
theorem pe_maxVals {o : Expr} {p pos apos mpos : Pos} {td : TE} (hc : X.calm = true) (hg : Gl X "max") (hm : X.mg "max" = none) (hd : PE X o td) (hbase : attributeBase o "values" X.env (eval o X.env) = eval o X.env := by rfl) (hline : (apos.endLine == mpos.line) = true := by rfl)
    (hse : starEach [Expr.Call (.Attribute o "values" apos) [] [] mpos] X.env = [(false, eval (Expr.Call (.Attribute o "values" apos) [] [] mpos) X.env)] := by rfl) :
    PE X (.Call (.Name "max" p) [.Call (.Attribute o "values" apos) [] [] mpos] [] pos) (tMaxVals td) := by
  refine ⟨fun pins s σ H Q I h => ?_⟩
  refine wpAny_Call_Name_kw (ld_blt I hg hm (u := .builtin "max") (by first | rfl | decide +kernel) ?_ (by first | decide +kernel | decide) (by first | decide +kernel | decide))
  rw [hse]
  refine PySem.callWith_builtin1 (wpAny_Call_method0_late hbase hline (thn (hd.run pins s σ H _ I h) fun v s1 ⟨x, H1, I1, r1, a, kvs, is, ex, ha, hv, hne, q⟩ => ?_))
  subst ex
  obtain rfl : v = Value.ref a := r1
  obtain ⟨_, hsys, vs, rel, dof⟩ := dk_of I1.hok ha
  obtain ⟨ep, dat⟩ := dof.dictAt
  have dat' := dat
  obtain ⟨ob, es, ho, ex, hdat, hko, hpr, hnd⟩ := dat'
  refine ⟨"dict", "dict.values", F.plainAttrs_dict, F.slot_dict_values, F.type_dict_values, ⟨ob, ho, ex.1⟩, fun b e => ?_, Calls.callWith_builtin rfl (PySem.evalArgs_none ?_)⟩
  · cases e
    exact ⟨ob, ho, ex.2.1⟩
  refine call_meetsIn F.slot_dict_values ⟨ob, ho, ex.1⟩ F.entry_dict_values (F.args_dict_values_1 _) (meets_dict_values (mixKind X.prog X.w) a hsys) ⟨⟨vs, dof⟩, ?_⟩
  have k1 : ∀ b u, s1.heap.get? b = some u → (s1.heap.push { cls := .type "dict_values", data := .fields #[.ref a] }).get? b = some u := fun b u e => Heap.get?_push_of_some _ e
  have dat1 : (s1.heap.push { cls := .type "dict_values", data := .fields #[.ref a] }).DictAt (mixKind X.prog X.w) a vs ep := dat.keep k1
  have hlv : vs.length = is.length := by
    have e1 := congrArg List.length hv
    rw [List.length_map, List.length_map] at e1
    rw [← e1]
    exact (KV.length rel).symm
  have hlen : 0 < vs.length := by
    rw [hlv]
    exact List.length_pos_iff.mpr hne
  have hval : ∀ (i : Nat) (v : Value), (∃ k, vs[i]? = some (k, v)) → ∃ t, v = Value.int (is.getD i 0) t := fun i v ⟨k, hk⟩ => by
    obtain ⟨x, h1, h2⟩ := KV.at' rel hk
    have e1 : (kvs.map (·.2))[i]? = some x := by rw [List.getElem?_map, h1] <;> rfl
    rw [hv, List.getElem?_map] at e1
    obtain ⟨j, hj, e2⟩ := Option.map_eq_some_iff.mp e1
    subst e2
    obtain ⟨t, e3⟩ := h2
    refine ⟨t, ?_⟩
    rw [e3, List.getD_eq_getElem?_getD, hj] <;> rfl
  refine call_max_walk (wpAny_pyIter_values (v := s1.heap.objs.size) (d := a) ⟨_, Heap.get?_push_size _ rfl, rfl, rfl⟩ dat1 ?_)
  have hlt : a < s1.heap.objs.size := Heap.lt_size ho
  have hsz : (s1.heap.push { cls := .type "dict_values", data := .fields #[.ref a] }).objs.size = s1.heap.objs.size + 1 := Heap.size_push _ _
  refine ⟨_, _, _, _, _, _, _, rfl, Walks.dictValues (knd := mixKind X.prog X.w) (A := X.A.in1) (I.ok.hd hc) (s1.heap.push { cls := .type "dict_values", data := .fields #[.ref a] }).objs.size a (by rw [hsz]; exact Nat.ne_of_lt (Nat.lt_succ_of_lt hlt)) vs ep,
    ⟨⟨_, Heap.get?_push_size _ rfl, rfl, rfl⟩, dat1.keep fun b u e => Heap.get?_push_of_some _ e⟩, fun b hb => ?_, hlen, CmpOf.ints_gt (fun i => is.getD i 0) hval, fun v h' tk hP hk => ?_⟩
  · show b < ((s1.heap.push _).push _).objs.size
    rw [Heap.size_push, Heap.size_push]
    rw [hsz] at hb
    rcases List.mem_cons.mp hb with e | hb
    · rw [e]
      exact Nat.lt_succ_self _
    · have e : b = a := List.mem_singleton.mp hb
      rw [e]
      exact Nat.lt_succ_of_lt (Nat.lt_succ_of_lt hlt)
  · obtain ⟨t, rfl⟩ := hval _ v hP
    obtain ⟨b1, b2⟩ := argBest_gt (fun i => is.getD i 0) (vs.length - 1)
    refine ⟨.int _, H1, I1.kept (t' := tk) fun b u e => hk b u (fun hmem => ?_) (Heap.get?_push_of_some _ (k1 b u e)), ⟨t, rfl⟩, q _ ?_ fun j hj => ?_⟩
    · have e1 : b = (s1.heap.push { cls := .type "dict_values", data := .fields #[.ref a] }).objs.size := List.mem_singleton.mp hmem
      have e2 := Heap.lt_size e
      rw [hsz] at e1
      rw [e1] at e2
      exact absurd e2 (Nat.not_lt.mpr (Nat.le_succ _))
    · have hb : argBest (fun i j => decide (is.getD i 0 > is.getD j 0)) (vs.length - 1) < is.length := by omega
      rw [List.getD_eq_getElem?_getD, List.getElem?_eq_getElem hb]
      exact List.getElem_mem hb
    · obtain ⟨i, hi, e⟩ := List.mem_iff_getElem.mp hj
      have e2 : is.getD i 0 = j := by rw [List.getD_eq_getElem?_getD, List.getElem?_eq_getElem hi, ← e] <;> rfl
      rw [← e2]
      exact b2 i (by omega)
end
end K23
set_option Elab.async false
set_option linter.all false
set_option maxRecDepth 100000
set_option maxHeartbeats 4000000
namespace K23
open PySem PySem.Spec PyProof.Rows L2
/-! ### enumerate(t), enumerate(t, start=k), t a tuple -/
def Itu (K : PySem.W.Frag) (a : Addr) (k : Int) : It :=
  ⟨fun i H => ∃ (xs : List V) (x : V), SqT K H a xs ∧ xs[i]? = some x, fun i H v H' => ∃ T x, v = .ref T ∧ H T = none ∧ H' = upd H T (.tup [.int (k + (i : Nat)), x]) ∧ ∀ xs, SqT K H a xs → xs[i]? = some x, fun i H => ∃ xs : List V, SqT K H a xs ∧ xs.length = i⟩
theorem tupIter_lt {h : Heap} {it a : Addr} {i : Nat} (hit : h.IsTupleIter it a i) : it < h.objs.size := by
  obtain ⟨_, q, _⟩ := hit
  exact Heap.lt_size q
theorem turn_enumT {P : Program} {w : World} {K : PySem.W.Frag} {elts : List Expr} {kk : Nat} {tpos : Pos} (a e it : Addr) (k : Int) :
    Turn P w K (.Tuple elts kk tpos) (Itu K a k) [e, it] e (fun i h => (∃ old, IsEnum h e it (k + (i : Nat)) old) ∧ h.IsTupleIter it a i ∧ e ≠ it ∧ a ≠ it ∧ a ≠ e) where
  mem := by simp
  obj := fun i h st b hb => by
    obtain ⟨⟨old, he⟩, ⟨o, ho, hc, hd⟩, _⟩ := st
    have e' : b = e ∨ b = it := by simpa using hb
    rcases e' with z | z
    · rw [z]; exact ⟨_, he, fun v q => nomatch q⟩
    · rw [z]; exact ⟨o, ho, fun v q => by rw [hd] at q; cases q⟩
  keep := fun i h h' st k => let ⟨⟨old, he⟩, hi, hne⟩ := st; ⟨⟨old, k e (by simp) _ he⟩, hi.at fun o q => k it (by simp) o q, hne⟩
  item := by
    intro X hP hw hK hc i pins s σ H E I hf st hg
    subst hP hw hK
    obtain ⟨⟨old, he⟩, hit, hne, hai, hae⟩ := st
    obtain ⟨xs, x, hq, hx⟩ := hg
    obtain ⟨its, rv, p, hz⟩ := I.tuple hq
    obtain ⟨u, hu, ru⟩ := rv.get hx
    have hel : e < s.heap.objs.size := Heap.lt_size he
    have hil : it < s.heap.objs.size := tupIter_lt hit
    have hilt : i < its.toArray.size := by
      have := (List.getElem?_eq_some_iff.mp hu).1
      simpa using this
    have D := Draws.tuple (prog := X.prog) (w := X.w) (A := X.A.in1) (I.ok.hd hc) it a hai its.toArray
    have hef : e ∉ [it, a] := by
      simp only [List.mem_cons, List.not_mem_nil, or_false, not_or]
      exact ⟨hne, fun z => hae z.symm⟩
    refine wpAny_pyNext_enum_itemC D he ⟨hit, p⟩ hilt hne hef fun y h' tk hy ho hit' hT hsz hk => ?_
    have ey : y = u := by
      have h1 : its[i]? = some y := by simpa using hy
      rw [hu] at h1
      exact (Option.some.inj h1).symm
    subst ey
    refine ⟨_, rfl, wpAny_letOwnedTupleGo_enum (s := { s with heap := h', toks := tk + 1 }) ho fun h'' he' sb => ?_⟩
    have hT2 : h''.get? s.heap.objs.size = some { cls := .type "tuple", data := .seq #[.int (k + (i : Nat)) tk, y] } := (sb.2 _ (Nat.ne_of_gt hel)).trans hT
    have new : ObjOk X.prog X.w (upd H s.heap.objs.size (.tup [.int (k + (i : Nat)), x])) h'' s.heap.objs.size (.tup [.int (k + (i : Nat)), x]) :=
      ⟨by show 2 ≤ sizeLine; decide, [.int (k + (i : Nat)) tk, y], .cons ⟨_, rfl⟩ (.cons ru .nil), ⟨_, hT2, rfl, _, rfl⟩⟩
    have I1 : Inv X pins σ (upd H s.heap.objs.size (.tup [.int (k + (i : Nat)), x])) { s with heap := h'', toks := tk + 1 } :=
      I.turnedNew (ch := [e, it]) (fun b ob hb q => (sb.2 b (fun z => hb (by simp [z]))).trans (hk b ob (fun z => hb (by simp [z])) (fun z => hb (by simp [z])) q)) hf (Nat.le_refl _) new
    refine ⟨.ref s.heap.objs.size, _, I1, rfl, ⟨_, x, rfl, I.hok.fresh (Nat.le_refl _), rfl, fun ys hy => by rw [I.tuple_inj hy hq]; exact hx⟩, ⟨⟨y, ?_⟩, hit'.1.at fun o q => (sb.2 it (Ne.symm hne)).trans q, hne, hai, hae⟩, fun b hb => ?_⟩
    · have e1 : k + ((i + 1 : Nat) : Int) = k + (i : Int) + 1 := by omega
      rw [e1]; exact he'
    · have hb' : b < s.heap.objs.size := by
        have e' : b = e ∨ b = it := by simpa using hb
        rcases e' with z | z
        · rw [z]; exact hel
        · rw [z]; exact hil
      rw [upd_ne (Nat.ne_of_lt hb')]
      exact (hf b hb).1
  done := by
    intro X hP hw hK hc i pins s σ H E I hf st hg
    subst hP hw hK
    obtain ⟨⟨old, he⟩, hit, hne, hai, hae⟩ := st
    obtain ⟨xs, hq, hx⟩ := hg
    obtain ⟨its, rv, p, hz⟩ := I.tuple hq
    obtain ⟨f0, f1, f2, f3, f4, f5⟩ := hf it (by simp)
    have hl := rv.length
    have D := Draws.tuple (prog := X.prog) (w := X.w) (A := X.A.in1) (I.ok.hd hc) it a hai its.toArray
    have hi : i = its.toArray.size := by simp; omega
    subst hi
    exact wpAny_pyNext_enum_endD D he ⟨hit, p⟩ fun h' eb => ⟨rfl, I.turned (t' := s.toks) (fun b o hb q => eb b o hb q) f0 f1 f3 f4 f5⟩
  self := fun A i s Q E st h => let ⟨⟨_, he⟩, _⟩ := st; wpAny_pyIter_enum he h
def iEnumT (K : PySem.W.Frag) (k : Int) (ta : TA) : TI := fun σ H R => ta σ H fun vs H1 => ∃ a xs, vs = [.ref a] ∧ SqT K H1 a xs ∧ R (Itu K a k) H1
section
variable {X : Cx} {e : Expr} {ta tk : TA} {p pos tpos : Pos} {elts : List Expr} {kk : Nat}
theorem enumT_go {pins : List (Addr × Obj)} {s1 : Shared} {σ : L2.St} {H1 : Hp} {R : It → Hp → Prop} {a : Addr} {xs : List V} {k : Int} {h' : Heap} (I1 : Inv X pins σ H1 s1) (hq : SqT X.K H1 a xs) (q : R (Itu X.K a k) H1)
    (he : IsEnum h' (s1.heap.objs.size + 1) s1.heap.objs.size k .none) (hit : h'.get? s1.heap.objs.size = some { cls := .type "tuple_iterator", data := .fields #[.ref a, .int 0 0] }) (hk : ∀ b o, s1.heap.get? b = some o → h'.get? b = some o) :
    wpAny (model X.prog X.w) X.A (pyIter (.ref (s1.heap.objs.size + 1))) (PIE X pins σ (.Tuple elts kk tpos) R) X.xe { s1 with heap := h' } := by
  obtain ⟨its, rv, p', hz⟩ := I1.tuple hq
  refine wpAny_pyIter_enum he ?_
  have I2 : Inv X pins σ H1 { s1 with heap := h' } := I1.kept (t' := s1.toks) hk
  have hal : a < s1.heap.objs.size := by
    obtain ⟨o, ho, _⟩ := p'
    exact Heap.lt_size ho
  refine ⟨s1.heap.objs.size + 1, [s1.heap.objs.size + 1, s1.heap.objs.size], _, _, H1, rfl, I2, turn_enumT a (s1.heap.objs.size + 1) s1.heap.objs.size k, ⟨⟨.none, ?_⟩, ⟨_, hit, rfl, rfl⟩, Nat.succ_ne_self _, Nat.ne_of_lt hal, Nat.ne_of_lt (Nat.lt_succ_of_lt hal)⟩, fun b hb => ?_, q⟩
  · have e1 : k + ((0 : Nat) : Int) = k := by simp
    rw [e1]; exact he
  · have e' : b = s1.heap.objs.size + 1 ∨ b = s1.heap.objs.size := by simpa using hb
    have hle : s1.heap.objs.size ≤ b := by
      rcases e' with z | z
      · rw [z]; exact Nat.le_add_right _ _
      · rw [z]; exact Nat.le_refl _
    exact I1.fpOk hle (I1.hok.fresh hle)
theorem callWith_typeKw {M : Model} {A : Around} {E : Value → Shared → Prop} {s : Shared} {env : Env} {pos : Pos} {T : String} {e : Expr} {rest : List Expr} {kws : List Keyword} {Q : Value → Shared → Prop}
    (h : wpAny M A (spliced (backTo pos (starEach (e :: rest) env))) (fun vs s₁ => wpAny M A (evalAll ((backToKw pos (keywordEach kws env)).map (·.2)))
      (fun kvs s₂ => wpAny M A (call (.type T) vs (((backToKw pos (keywordEach kws env)).filterMap (·.1)).zip kvs)) Q E s₂) E s₁) E s)
    (he : backTo pos (starEach (e :: rest) env) = (false, eval e env) :: backTo pos (starEach rest env))
    (hplain : (backTo pos (starEach (e :: rest) env)).any (·.1) = false)
    (hall : (backToKw pos (keywordEach kws env)).all (·.1.isSome) = true)
    (hkw : (backToKw pos (keywordEach kws env)).any (·.1.isNone) = false) :
    wpAny M A (callWith pos (.type T) [] (backTo pos (starEach (e :: rest) env)) (backToKw pos (keywordEach kws env))) Q E s := by
  have h2 : wpAny M A (evalArgs (.type T) true (backTo pos (starEach (e :: rest) env)) (backToKw pos (keywordEach kws env))) (fun a s₁ => wpAny M A (call (.type T) ([] ++ a.pos) a.kw) Q E s₁) E s := by
    rw [he] at h ⊢
    exact evalArgs_kwB hall h
  unfold callWith
  refine wpAny_bind (wpAny_holding (wpAny_mono h2 (fun a s₁ h₁ => wpAny_bind (wpAny_standAt ?_)) fun _ _ x => x))
  simp only [hplain, hkw, Bool.or_false]
  refine wpAny_bind (wpAny_pure ?_)
  exact wpAny_bind (wpAny_mono h₁ (fun r s₂ hr => wpAny_bind (wpAny_holding (wpAny_point (wpAny_pure hr)))) fun _ _ x => x)
theorem meets_enumerate_newT {v : Value} {o : Obj} {H : Heap → Prop} (B : Begins v o H) :
    Meets (Builtin.«enumerate.__new__» ⟨[.type "enumerate", v], []⟩) (fun _ R s => H s.heap ∧
      R (.ok (.ret (.ref (s.heap.push o).objs.size))) { s with heap := (s.heap.push o).push { cls := .type "enumerate", data := .fields #[.none, .bool false, .ref s.heap.objs.size, rawInt 0, .none, .none] } }) :=
  .of_wp fun prog w A R s h => by
    obtain ⟨hp, g, d, tk, os⟩ := s; obtain ⟨h1, h⟩ := h
    have hsub := sub_enumerate
    have q1 : ∀ {A' : Around} {E : Value → Shared → Prop} {Q : Value → Shared → Prop}, Q (.ref hp.objs.size) ⟨hp.push o, g, d, tk, os⟩ → wpAny (model prog w) A' (pyIter v) Q E ⟨hp, g, d, tk, os⟩ :=
      fun q => B.iter prog w _ _ ⟨hp, g, d, tk, os⟩ _ h1 q
    wp_walk using q1
    refine wpAny_stack_any fun st => wpAny_pure ?_
    split
    · rename_i c _ _ _ _ _
      cases (c == Value.type "enumerate")
      · wp_walk using q1
        exact ⟨_, rfl, h⟩
      · wp_walk using q1
        exact ⟨_, rfl, h⟩
    · wp_walk using q1
      exact ⟨_, rfl, h⟩
theorem call_enumerate_tup {prog : Program} {w : World} {A : Around} {E : Value → Shared → Prop} {s : Shared} {a : Addr} {items : Array Value} {Q : Value → Shared → Prop} (ht : s.heap.IsTuple a items)
    (h : ∀ h', IsEnum h' (s.heap.objs.size + 1) s.heap.objs.size 0 .none → h'.get? s.heap.objs.size = some { cls := .type "tuple_iterator", data := .fields #[.ref a, .int 0 0] } → (∀ b o, s.heap.get? b = some o → h'.get? b = some o) → Q (.ref (s.heap.objs.size + 1)) { s with heap := h' }) :
    wpAny (model prog w) A (call (.type "enumerate") [.ref a]) Q E s := by
  refine callType_new F.called_enumerate (by decide) (F.typeCall_enumerate_1 _) (F.newCall_enumerate_1 _) (fun obj => F.args_object_init_2 obj _) F.entry_enumerate_new
    (meets_enumerate_newT (begins_tuple a items)) ⟨ht, ?_⟩
  have hz : (s.heap.push { cls := .type "tuple_iterator", data := .fields #[.ref a, .int 0 0] }).objs.size = s.heap.objs.size + 1 := Heap.size_push ..
  show _ ∧ _
  rw [hz]
  have he : IsEnum ((s.heap.push { cls := .type "tuple_iterator", data := .fields #[.ref a, .int 0 0] }).push
      { cls := .type "enumerate", data := .fields #[.none, .bool false, .ref s.heap.objs.size, rawInt 0, .none, .none] }) (s.heap.objs.size + 1) s.heap.objs.size 0 .none := by
    have := Heap.get?_push_size (s.heap.push { cls := .type "tuple_iterator", data := .fields #[.ref a, .int 0 0] })
      (o := { cls := .type "enumerate", data := .fields #[.none, .bool false, .ref s.heap.objs.size, rawInt 0, .none, .none] }) rfl
    rw [hz] at this; exact this
  refine ⟨⟨_, he, rfl⟩, h _ he (Heap.get?_push_of_some _ (Heap.get?_push_size _ rfl)) fun b o x => Heap.get?_push_of_some _ (Heap.get?_push_of_some _ x)⟩
/-- for i, x in enumerate(t, start=k) -/
theorem pi_enumTK (hg : Gl X "enumerate") (hm : X.mg "enumerate" = none) (ha : PA X [e] ta) {j : Nat} {cpos kpos : Pos} {k : Int} (hk0 : -(2 ^ 63) ≤ k) (hk1 : k < 2 ^ 63)
    (he : backTo pos (starEach [e] X.env) = (false, eval e X.env) :: backTo pos (starEach [] X.env) := by rfl)
    (hpl : (backTo pos (starEach [e] X.env)).any (·.1) = false := by rfl)
    (hall : (backToKw pos (keywordEach [⟨some "start", .Constant (.int k) j cpos, kpos⟩] X.env)).all (·.1.isSome) = true := by rfl)
    (hkw : (backToKw pos (keywordEach [⟨some "start", .Constant (.int k) j cpos, kpos⟩] X.env)).any (·.1.isNone) = false := by rfl) 
    (hks : (backToKw pos (keywordEach [⟨some "start", .Constant (.int k) j cpos, kpos⟩] X.env)).filterMap (·.1) = [Str.ofString "start"] := by rfl) :
    PI X (.Tuple elts kk tpos) (.Call (.Name "enumerate" p) [e] [⟨some "start", .Constant (.int k) j cpos, kpos⟩] pos) (iEnumT X.K k ta) := by
  refine ⟨fun pins s σ H R I h => ?_⟩
  refine wpAny_Call_Name_kw (ld_blt I hg hm boot_enumerate ?_)
  refine callWith_typeKw (thn (ha.run pos pins s σ H _ I h) fun us s1 ⟨vs, H1, I1, r1, q1⟩ => ?_) he hpl hall hkw
  refine thn ((pk_cons pe_int pk_nil).run pos pins s1 σ H1 (fun zs H2 => zs = [.int k] ∧ H2 = H1) I1 ⟨rfl, rfl⟩) fun ws s2 ⟨zs, H2, I2, r2, ez, eH⟩ => ?_
  subst ez eH
  obtain ⟨a, xs, ex, hq, q⟩ := q1
  subst ex
  obtain ⟨u, eu, ru⟩ := vals1 r1
  subst eu
  cases ru
  obtain ⟨w1, ew, t, rw1⟩ := vals1 r2
  subst ew rw1
  rw [hks]
  obtain ⟨its, rv, p', hz⟩ := I2.tuple hq
  exact enum_begins_start (begins_tuple a its.toArray) p' hk0 hk1 fun h' he hit hsz hk => enumT_go I2 hq q he hit hk
/-- for i, x in enumerate(t) -/
theorem pi_enumT (hg : Gl X "enumerate") (hm : X.mg "enumerate" = none) (ha : PA X [e] ta) (hs : starEach [e] X.env = [(false, eval e X.env)] := by rfl) :
    PI X (.Tuple elts kk tpos) (.Call (.Name "enumerate" p) [e] [] pos) (iEnumT X.K 0 ta) := by
  refine ⟨fun pins s σ H R I h => ?_⟩
  refine Call_ (ld_blt I hg hm boot_enumerate (PyProof.Rows.callWith_type1 (thn (ha.run pos pins s σ H _ I h) fun us s1 ⟨vs, H1, I1, r1, q1⟩ => ?_) hs rfl))
  obtain ⟨a, xs, ex, hq, q⟩ := q1
  subst ex
  obtain ⟨u, eu, ru⟩ := vals1 r1
  subst eu
  cases ru
  obtain ⟨its, rv, p', hz⟩ := I1.tuple hq
  exact call_enumerate_tup p' fun h' he hit hk => enumT_go I1 hq q he hit hk
end
/-! ### f(k=v, ..), no positional argument -/
section
variable {X : Cx} {CX : CXT} {k : Nat} {f C : Addr} {fd : FuncData} {ps ks : List Str} {sp : Sp} {E : XK} {x m : Str} {p pos : Pos} {kws : List Keyword} {tk : TA} {g : List Value → List Value → List Value} {gV : List V → List V → List V}
theorem pe_callK0 (F : FnOk X.prog X.w X.K X.mg X.base CX k f fd ps sp) (hr : Room k X.A) (hg : Gl X x) (hm : X.mg x = some (.ref f)) (hk : PySem.W.keepIn X.K (.ref f) = true) (hb : KBinds X.K fd ps ks g gV) (hx : Passes CX X E)
    (hkw : PK X kws tk) (hall : (backToKw pos (keywordEach kws X.env)).all (·.1.isSome) = true := by rfl) (hks : (backToKw pos (keywordEach kws X.env)).filterMap (·.1) = ks := by rfl)
    (hdb : (x == ("__debug__" : Str)) = false := by decide)
    (hpl : ((backTo pos (starEach [] X.env)).any (·.1) || (backToKw pos (keywordEach kws X.env)).any (·.1.isNone)) = false := by rfl) :
    PE X (.Call (.Name x p) [] kws pos) (fun σ H Q => tk σ H fun zs H2 => sp (gV [] zs) H2 Q E) := by
  refine ⟨fun pins s σ H Q I h => ?_⟩
  refine wpAny_Call_Name_kw (ld_glob I hg hm ?_ hdb)
  refine PySem.W.callWith_KW0 (h₀ := X.base) I.ok.mod.kin hk hall (thn (hkw.run pos pins s σ H _ I h) fun ws s2 ⟨zs, H2, I2, rz, q2⟩ => ⟨I2.kIn, ?_⟩) hpl
  rw [hks]
  exact run_fnk (us := []) (vs := []) F hr hb hx I2 .nil rz q2
end
end K23
set_option Elab.async false
set_option linter.all false
set_option maxRecDepth 100000
set_option maxHeartbeats 4000000
namespace K23
open PySem PySem.Spec PyProof.Rows L2
/-! ### a lambda of one parameter, called -/
/-- one parameter p, the rest captured or global -/
structure LamP (sc scope : Scope) (p : Str) : Prop where
  kind : scope.kind = .function
  co : scope.isCoroutine = false
  gen : scope.isGenerator = false
  cell : ∀ y ∈ scope.names, y.2 ≠ .cell
  par : scope.names.lookup p = some .local
  free : ∀ y ∈ scope.names, y.2 = .free → sc.names.lookup y.1 = some .cell ∨ sc.names.lookup y.1 = some .free
abbrev lamE (q : Str) (scope : Scope) (L f c' : Addr) (cl : List (Str × Addr)) : Env := PySem.W.envX q scope L f (.ref c') cl
theorem lam_call1 {prog : Program} {w : World} {A : Around} {s : Shared} {sc scope : Scope} {p q : Str} {params : Arguments} {body : Expr} {cl : List (Str × Addr)} {pm ctv v : Value} {f c' : Addr} {Q : Value → Heap → Prop}
    (L : LamP sc scope p) (hdep : A.depth < recursionLimit) (hf : s.heap.get? f = some (PySem.W.kla_obj "<lambda>" q params body scope cl pm c' ctv)) (hrec : s.heap.CodeRec (.ref c') q) (hnl : s.heap.NoLimit)
    (hbind : bindArgs (PySem.W.kla_fn "<lambda>" q params body scope cl pm (.ref c') ctv) ⟨[v], []⟩ = pure [(p, v)])
    (hbody : ∀ h₁ : Heap, h₁.Ns s.heap.objs.size (fun y => ([(p, v)] : List (Str × Value)).lookup y) → (∀ b o, s.heap.get? b = some o → h₁.get? b = some o) →
      wpAny (model prog w) (A.deeper (lamE q scope s.heap.objs.size f c' cl)) (eval body (lamE q scope s.heap.objs.size f c' cl)) (fun u s' => ∃ h' tk, s' = { s with heap := h', toks := tk } ∧ (∀ b o, h₁.get? b = some o → h'.get? b = some o) ∧ Q u h') (fun _ _ => False) { s with heap := h₁, toks := s.toks + 1 }) :
    wpAny (model prog w) A (call (.ref f) [v]) (fun u s' => ∃ h' tk, s' = { s with heap := h', toks := tk } ∧ (∀ b o, s.heap.get? b = some o → h'.get? b = some o) ∧ Q u h') (fun _ _ => False) s := by
  refine wpAny_call (codeAny_mono (R := fun r s' => ∃ u, r = .ok (.ret u) ∧ ∃ h' tk, s' = { s with heap := h', toks := tk } ∧ (∀ b o, s.heap.get? b = some o → h'.get? b = some o) ∧ Q u h') ?_ fun r s' hq => ?_)
  · refine PySem.W.kla_callFunE hdep hf rfl L.co L.gen rfl hrec ?_
    rw [hbind]
    refine wpAny_pure (wpAny_newFunctionEnv (fun y hy => L.cell y hy) (fun y hy => ?_) (fun h₁ hns hsb => ⟨hnl.fresh _ hsb, ?_⟩) L.kind)
    · obtain rfl : y = (p, v) := by simpa using hy
      exact L.par
    · show codeAny _ _ (.expr body (lamE q scope s.heap.objs.size f c' cl)) _ _
      have kp : ∀ b o, s.heap.get? b = some o → h₁.get? b = some o := fun b o e => hsb.extBut b o (Nat.ne_of_lt (Heap.lt_size e)) (Heap.get?_push_of_some _ e)
      refine PySem.W.kla_codeExpr (wpAny_mono (hbody h₁ hns kp) (fun u s' hu => ?_) fun e s' he => he.elim)
      obtain ⟨h', tk, rfl, k2, hq⟩ := hu
      exact ⟨u, rfl, h', tk, rfl, fun b o e => k2 b o (kp b o e), hq⟩
  · obtain ⟨u, rfl, hq⟩ := hq
    exact hq
/-! ### sorted(d, key=f), int keys -/
section
variable {X : Cx} {pins : List (Addr × Obj)} {σ : L2.St} {H : Hp} {s : Shared}
theorem each_of_ints : ∀ {vs : List Value} {ns : List Int}, IntsAre vs ns → PySem.W.EachIs (fun v n => ∃ t, v = Value.int n t) vs ns
  | _, _, .nil => .nil
  | _, _, .cons n t r => .cons ⟨t, rfl⟩ (each_of_ints r)
theorem ints_of_each : ∀ {vs : List Value} {ns : List Int}, PySem.W.EachIs (fun v n => ∃ t, v = Value.int n t) vs ns → IntsAre vs ns
  | _, _, .nil => .nil
  | _, _, .cons ⟨t, e⟩ r => by subst e; exact .cons _ t (ints_of_each r)
theorem sorted_dict_key {a q : Addr} {kvs : List (Key × V)} {ks : List Int} {Q : VK} (hcalm : X.calm = true) (I : Inv X pins σ H s) (hd : H a = some (.dK kvs)) (hks : kvs.map (·.1) = ks.map Sum.inl) (kd : Int → PyData)
    (hal : PySem.W.AllAlike (ks.map kd)) (hsk : PySem.W.Sortable (ks.map kd)) (hu : ∀ x ∈ ks, X.A.units + 2 + (kd x).depth < cLine)
    (turn : ∀ (n : Int) (t : Tok), n ∈ ks → ∀ (h : Heap) (tk : Nat), (∀ b o, s.heap.get? b = some o → h.get? b = some o) →
      wpAny (model X.prog X.w) X.A.in1.in1 (call (.ref q) [.int n t]) (PySem.W.KeyPure (kd n) { s with heap := h, toks := tk }) (fun _ _ => False) { s with heap := h, toks := tk })
    (fin : ∀ p, H p = none → Q (.ref p) (upd H p (.lst ((ks.mergeSort (PySem.W.dataLe false kd)).map V.int)))) :
    wpAny (model X.prog X.w) X.A (call (.builtin "sorted") [.ref a] [(Str.ofString "key", .ref q)]) (EP X pins σ Q) X.xe s := by
  obtain ⟨z, lo, vs, rel, dd⟩ := dk_of I.hok hd
  obtain ⟨ep, hat⟩ := dd.dictAt
  have hkeys : vs.map (·.1) = ks.map Sum.inl := rel.keys.symm.trans hks
  have hl : vs.length = ks.length := by
    have e := congrArg List.length hkeys
    rw [List.length_map, List.length_map] at e
    exact e
  have h16 : vs.length ≤ sizeLine := by rw [← rel.length]; exact z
  refine call_function_entry_kw kind_sorted plain_sorted entry_sorted (ksk_s1 _ _) ?_
  unfold Builtin.«sorted»
  refine wpAny_bind (m := checkCount "sorted" 1 1 _) (wpAny_pure ?_)
  refine wpAny_bind (PySem.W.kdu_collect (A := X.A.in1) (PySem.W.kdl_dict (knd := mixKind X.prog X.w) (kvs := vs) (ep := ep) lo) (I.ok.hd hcalm) hat h16 fun h' tk acc hk hacc => ?_)
  have hal' : acc.toList.length = ks.length := by rw [Array.length_toList, hacc.1, hl]
  have hS : IntsAre acc.toList ks := keys_ints hkeys hacc.1 hacc.2
  have I1 : Inv X pins σ H { s with heap := h', toks := tk } := I.kept hk
  refine wpAny_bind (wpAny_newList ?_ (by rw [hal', ← hl]; exact h16))
  have hoL : (h'.push (seqObj "list" acc.toList.toArray 0)).get? h'.objs.size = some (seqObj "list" acc.toList.toArray 0) := Heap.get?_push_size _ rfl
  show wpAny _ _ _ _ _ { s with heap := h'.push (seqObj "list" acc.toList.toArray 0), toks := tk }
  refine wpAny_bind (wpAny_holding (wpAny_call_entry_kw PyProof.Rows.slot_list_sort ⟨_, hoL, rfl⟩ PyProof.Rows.entry_list_sort ?_ (ksk_l1 _ _)))
  rw [ksk_t1]
  have eI := each_of_ints hS
  have up : ∀ {g : Heap}, PySem.W.KeepsBut h'.objs.size (h'.push (seqObj "list" acc.toList.toArray 0)) g → ∀ b o, h'.get? b = some o → g.get? b = some o := fun {g} kp b o q =>
    kp b o (Nat.ne_of_lt (Heap.lt_size q)) (Heap.get?_push_of_some _ q)
  refine PySem.W.keyH_tree (kz := ks.map kd) (s := { s with heap := h'.push (seqObj "list" acc.toList.toArray 0), toks := tk }) hoL (by rw [List.length_map, hal']) (by rw [hal', ← hl]; exact h16) hal hsk (PySem.W.bound_map (A := X.A.in1.in1) hu)
    (PySem.W.keyH_turns (s := { s with heap := h'.push (seqObj "list" acc.toList.toArray 0), toks := tk }) eI fun v n hv hn h tk' kp => ?_) fun h2 tk2 out c kp hD ko => ?_
  · obtain ⟨t, rfl⟩ := hv
    exact turn n t hn h tk' fun b o e => up kp b o (hk b o e)
  · refine ⟨_, rfl, wpAny_pure ⟨_, rfl, ?_⟩⟩
    have eo := PySem.W.keyedOut_each kd ko eI
    have io := ints_of_each eo
    have pl : (ks.mergeSort (PySem.W.dataLe false kd)).Perm ks := List.mergeSort_perm _ _
    refine ⟨.ref h'.objs.size, upd H h'.objs.size (.lst ((ks.mergeSort (PySem.W.dataLe false kd)).map V.int)), I1.laid (t' := tk2) (fun b u e => up kp b u e) (Nat.le_refl _)
      (show ObjOk X.prog X.w _ _ _ (.lst _) from ⟨?_, out, c, vals_of_ints io, hD⟩), rfl, fin _ (I1.hok.fresh (Nat.le_refl _))⟩
    rw [List.length_map, pl.length_eq, ← hl]
    exact h16
end
/-! ### sorted(d, key=lambda p: ..) -/
section
variable {X : Cx} {p pos lpos kpos : Pos} {e body : Expr} {te : TE} {params : Arguments} {scope : Scope} {T : List (Addr × Str)} {c P : Addr} {pr : Str}
/-- what the lambda's calls give: in any heap that holds what stands, called on one of the keys -/
def LamGives (X : Cx) (params : Arguments) (body : Expr) (scope : Scope) (kd : Int → PyData) (ks : List Int) (pins : List (Addr × Obj)) (σ : L2.St) (H : Hp) : Prop :=
  ∀ (s : Shared) (f c' : Addr) (pm ctv : Value), Inv X pins σ H s → s.heap.get? f = some (PySem.W.kla_obj "<lambda>" (X.env.qual ++ "<lambda>") params body scope (cloFrom X.env.cells scope.names []) pm c' ctv) → s.heap.CodeRec (.ref c') (X.env.qual ++ "<lambda>") →
    ∀ (n : Int) (t : Tok), n ∈ ks → ∀ (h : Heap) (tk : Nat), (∀ b o, s.heap.get? b = some o → h.get? b = some o) →
      wpAny (model X.prog X.w) X.A.in1.in1 (call (.ref f) [.int n t]) (PySem.W.KeyPure (kd n) { s with heap := h, toks := tk }) (fun _ _ => False) { s with heap := h, toks := tk }
theorem pe_sortedLam {kd : Int → PyData} {ta : TA} {RD : L2.St → Hp → Addr → List Int → Prop} (hcalm : X.calm = true) (hg : Gl X "sorted") (hm : X.mg "sorted" = none) (ha : PA X [e] ta) (TB : LamX.TabB X.base X.mg c P) (hcode : X.env.code = .ref c)
    (hmT : (P, X.env.qual ++ "<lambda>") ∈ T) (huT : ∀ q ∈ T, q.1 = P → q.2 = X.env.qual ++ "<lambda>") (hdef : defaultsOf params X.env = ([], [])) (L : LamP X.env.scope scope pr)
    (hal : ∀ ks : List Int, PySem.W.AllAlike (ks.map kd)) (hsk : ∀ ks : List Int, PySem.W.Sortable (ks.map kd)) (hu : ∀ x, X.A.units + 2 + (kd x).depth < cLine)
    (hbody : ∀ (pins : List (Addr × Obj)) (σ : L2.St) (H : Hp) (a : Addr) (ks : List Int), RD σ H a ks → LamGives X params body scope kd ks pins σ H)
    (hRD : ∀ (σ : L2.St) (H H' : Hp) (a : Addr) (ks : List Int), RD σ H a ks → LamX.ExtN H H' → RD σ H' a ks)
    (he : backTo pos (starEach [e] X.env) = (false, eval e X.env) :: backTo pos (starEach [] X.env) := by rfl) (hpl : (backTo pos (starEach [e] X.env)).any (·.1) = false := by rfl)
    (hall : (backToKw pos (keywordEach [⟨some "key", .Lambda params body scope lpos, kpos⟩] X.env)).all (·.1.isSome) = true := by rfl)
    (hkw : (backToKw pos (keywordEach [⟨some "key", .Lambda params body scope lpos, kpos⟩] X.env)).any (·.1.isNone) = false := by rfl)
    (hks : (backToKw pos (keywordEach [⟨some "key", .Lambda params body scope lpos, kpos⟩] X.env)).filterMap (·.1) = [Str.ofString "key"] := by rfl) :
    PE X (.Call (.Name "sorted" p) [e] [⟨some "key", .Lambda params body scope lpos, kpos⟩] pos) (fun σ H Q => ta σ H fun vs H1 => ∃ (a : Addr) (kvs : List (Key × V)) (ks : List Int), vs = [.ref a] ∧ H1 a = some (.dK kvs) ∧ kvs.map (·.1) = ks.map Sum.inl ∧ RD σ H1 a ks ∧ LamX.Tabs T H1 ∧
      ∀ H2, LamX.ExtN H1 H2 → LamX.Tabs T H2 → ∀ p, H2 p = none → Q (.ref p) (upd H2 p (.lst ((ks.mergeSort (PySem.W.dataLe false kd)).map V.int)))) := by
  refine ⟨fun pins s σ H Q I h => ?_⟩
  refine wpAny_Call_Name_kw (ld_blt I hg hm (u := .builtin "sorted") (by decide +kernel) ?_)
  refine PyProof.Rows.callWith_kw (thn (ha.run pos pins s σ H _ I h) fun us s1 ⟨vs, H1, I1, r1, a, kvs, ks, ev, hd, hkeys, rd, hT, q⟩ => ?_) he hpl hall hkw
  subst ev
  obtain ⟨u, eu, ru⟩ := vals1 r1
  subst eu
  cases ru
  rw [hks]
  have hfree : ∀ y ∈ scope.names, y.2 = .free → ∃ c, X.env.cells.lookup y.1 = some c := fun y hy e => by
    rcases L.free y hy e with k | k
    · exact I.ok.has _ (.inl k)
    · exact I.ok.has _ (.inr k)
  show wpAny _ _ (evalAll ((do let v ← eval (.Lambda params body scope lpos) X.env; standAt pos; pure v) :: [])) _ _ s1
  refine wpAny_evalAll_cons (wpAny_bind (LamX.lam_make2 I1 TB hcode hmT huT hT hdef hfree fun f c' pm ctv H2 s2 I2 eN T2 hf hfn hfr hco => wpAny_bind (wpAny_standAt (wpAny_pure (wpAny_evalAll_nil ?_)))))
  have hd2 : H2 a = some (.dK kvs) := eN _ _ hd fun ps z => nomatch z
  have hrec : s2.heap.CodeRec (.ref c') (X.env.qual ++ "<lambda>") := by
    obtain ⟨⟨oc, vs, t, hoc, hdc, hvc⟩, _, _⟩ := I2.hok c' _ hco
    exact ⟨c', oc, vs, t, rfl, hoc, hdc, hvc⟩
  show wpAny _ _ (call (.builtin "sorted") [.ref a] [(Str.ofString "key", .ref f)]) _ _ s2
  exact sorted_dict_key hcalm I2 hd2 hkeys kd (hal ks) (hsk ks) (fun x _ => hu x) (fun n t hn h tk k => hbody pins σ H2 a ks (hRD σ H1 H2 a ks rd eN) s2 f c' pm ctv I2 hf hrec n t hn h tk k) fun p hp => q H2 eN T2 p hp
/-! ### the two bodies -/
theorem Cx.Ok.loc_cell {X : Cx} {pins : List (Addr × Obj)} {σ : L2.St} {H : Hp} {s : Shared} {scope : Scope} {pr : Str} (I : Inv X pins σ H s) (L : LamP X.env.scope scope pr) {i : Nat} {y : Str} {v : V} (hN : X.N[i]? = some y) (hs : σ[i]? = some (some v)) (hy : scope.names.lookup y = some .free) :
    ∃ c u, (cloFrom X.env.cells scope.names []).lookup y = some c ∧ s.heap.IsCell c (some u) ∧ RelV v u := by
  have hfree : ∀ y ∈ scope.names, y.2 = .free → ∃ c, X.env.cells.lookup y.1 = some c := fun y hy e => by
    rcases L.free y hy e with k | k
    · exact I.ok.has _ (.inl k)
    · exact I.ok.has _ (.inr k)
  have cm : ∀ {y c}, (cloFrom X.env.cells scope.names []).lookup y = some c → X.env.cells.lookup y = some c := fun {y c} e => by
    rcases cloFrom_mem (PySem.mem_of_lookup e) with hm | ⟨h1, h2⟩
    · cases hm
    · obtain ⟨c1, hc⟩ := hfree _ h1 rfl
      have hc : X.env.cells.lookup y = some c1 := hc
      have e2 : c = c1 := by
        rw [h2, hc] <;> rfl
      rw [e2]
      exact hc
  have hmem : (y, NameKind.free) ∈ scope.names := PySem.mem_of_lookup hy
  obtain ⟨c, hc⟩ := mem_lookup (cloFrom_has (cells := X.env.cells) (acc := []) hmem)
  have hvis : Vis X.env.scope y := (L.free _ hmem rfl).elim (fun k => .inr (.inl k)) (fun k => .inr (.inr k))
  obtain ⟨m, hn, hl⟩ := I.loc
  obtain ⟨u, r, q⟩ := hl i y v hN hs hvis
  rcases q with ⟨k', _⟩ | ⟨_, c3, e', z⟩
  · have k' : X.env.scope.names.lookup y = some .local := k'
    rcases L.free _ hmem rfl with k2 | k2 <;> rw [show X.env.scope.names.lookup y = _ from k2] at k' <;> cases k'
  · rw [cm hc] at e'
    cases e'
    exact ⟨c, u, hc, z, r⟩
theorem pair_lookup {p : Str} {v : Value} : ([(p, v)] : List (Str × Value)).lookup p = some v := by
  rw [List.lookup_cons, beq_self_eq_true]
/-- lambda one: repr(one) -/
theorem lam_repr {X : Cx} {pins : List (Addr × Obj)} {σ : L2.St} {H : Hp} {ks : List Int} {scope : Scope} {pr : Str} {params : Arguments} {p1 p2 p3 : Pos} (L : LamP X.env.scope scope pr) (hdep : X.A.depth + 5 < recursionLimit) (hb : ∀ k ∈ ks, k.natAbs.log2 < 1920)
    (hg : scope.names.lookup ("repr" : Str) = some .globalImplicit) (hm : X.mg "repr" = none) (hpr : (pr == ("__debug__" : Str)) = false)
    (hbind : ∀ (cl : List (Str × Addr)) (pm ctv cdv v : Value), bindArgs (PySem.W.kla_fn "<lambda>" (X.env.qual ++ "<lambda>") params (.Call (.Name "repr" p1) [.Name pr p2] [] p3) scope cl pm cdv ctv) ⟨[v], []⟩ = pure [(pr, v)]) :
    LamGives X params (.Call (.Name "repr" p1) [.Name pr p2] [] p3) scope (fun n => .str (toString n)) ks pins σ H := by
  intro s f c' pm ctv I hf hrec n t hn h tk kp
  have kb : ∀ b o, X.base.get? b = some o → h.get? b = some o := fun b o e => kp b o (I.bk b o e)
  refine wpAny_mono (lam_call1 (Q := fun u h' => Reads h' u (.str (toString n)) []) (s := { s with heap := h, toks := tk }) (sc := X.env.scope) L (by show X.A.depth < _; omega) (kp _ _ hf) ?_ (I.ok.mod.nolimit.keeps kb) (hbind _ _ _ _ _) fun h₁ hns k1 => ?_) (fun u s' hu => ?_) fun _ _ z => z
  · obtain ⟨c0, oc, vs, tq, e1, e2, e3, e4⟩ := hrec
    exact ⟨c0, oc, vs, tq, e1, kp _ _ e2, e3, e4⟩
  · have kb1 : ∀ b o, X.base.get? b = some o → h₁.get? b = some o := fun b o e => k1 b o (kb b o e)
    obtain ⟨mb, hb1, hb2⟩ := I.ok.mod.blt
    refine wpAny_Call_Name_kw (Calls.Name_function_global L.kind hg (Calls.loadGlobal_builtin (I.ok.mod.glob.keeps kb1) hm (hb1.keeps kb1) ((hb2 "repr" (by decide)).trans (by decide +kernel : bootBuiltins "repr" = some (.builtin "repr"))) ?_))
    refine PyProof.Rows.callWith_builtin1 (rest := []) (e := .Name pr p2) ?_ rfl rfl
    show wpAny _ _ (spliced ((false, eval (.Name pr p2) _) :: [])) _ _ _
    refine Calls.spliced_cons (wpAny_Name (wpAny_loadName_local L.kind L.par hns pair_lookup (Calls.spliced_nil ?_)) hpr)
    exact PySem.P.repr_of_int (hb n hn) ⟨h₁, _, rfl, fun _ _ e => e, .str _ _⟩
  · obtain ⟨h', tk', rfl, k2, r⟩ := hu
    exact ⟨h', tk', rfl, k2, r⟩
/-- lambda symbol: (-weights[symbol], symbol) -/
theorem lam_pair {X : Cx} {pins : List (Addr × Obj)} {σ : L2.St} {H : Hp} {ks : List Int} {scope : Scope} {pr dn : Str} {params : Arguments} {p1 p2 p3 p4 p5 p6 : Pos} {k0 i : Nat} {a : Addr} {kvs : List (Key × V)} {wt : Int → Int} (L : LamP X.env.scope scope pr) (hdep : X.A.depth + 5 < recursionLimit)
    (hN : X.N[i]? = some dn) (hs : σ[i]? = some (some (.ref a))) (hfr : scope.names.lookup dn = some .free) (hd : H a = some (.dK kvs)) (hw : ∀ k ∈ ks, valV kvs (Sum.inl k) = some (.int (wt k))) (hpr : (pr == ("__debug__" : Str)) = false) (hdn : (dn == ("__debug__" : Str)) = false) (hdc : (dn == ("__classdict__" : Str)) = false)
    (hbind : ∀ (cl : List (Str × Addr)) (pm ctv cdv v : Value), bindArgs (PySem.W.kla_fn "<lambda>" (X.env.qual ++ "<lambda>") params (.Tuple [.UnaryOp .USub (.Subscript (.Name dn p1) (.Name pr p2) p3) p4, .Name pr p5] k0 p6) scope cl pm cdv ctv) ⟨[v], []⟩ = pure [(pr, v)]) :
    LamGives X params (.Tuple [.UnaryOp .USub (.Subscript (.Name dn p1) (.Name pr p2) p3) p4, .Name pr p5] k0 p6) scope (fun n => .tuple [.int (-(wt n)), .int n]) ks pins σ H := by
  intro s f c' pm ctv I hf hrec n t hn h tk kp
  have kb : ∀ b o, X.base.get? b = some o → h.get? b = some o := fun b o e => kp b o (I.bk b o e)
  obtain ⟨c, u, hc, hcell, ru⟩ := Cx.Ok.loc_cell I L hN hs hfr
  obtain rfl : u = Value.ref a := ru
  obtain ⟨z, lo, vs, rel, dd⟩ := dk_of I.hok hd
  refine wpAny_mono (lam_call1 (Q := fun u h' => Reads h' u (.tuple [.int (-(wt n)), .int n]) []) (s := { s with heap := h, toks := tk }) (sc := X.env.scope) L (by show X.A.depth < _; omega) (kp _ _ hf) ?_ (I.ok.mod.nolimit.keeps kb) (hbind _ _ _ _ _) fun h₁ hns k1 => ?_) (fun u s' hu => ?_) fun _ _ z => z
  · obtain ⟨c0, oc, vs, tq, e1, e2, e3, e4⟩ := hrec
    exact ⟨c0, oc, vs, tq, e1, kp _ _ e2, e3, e4⟩
  · have ks1 : ∀ b o, s.heap.get? b = some o → h₁.get? b = some o := fun b o e => k1 b o (kp b o e)
    have cell1 : h₁.IsCell c (some (.ref a)) := by
      obtain ⟨o, ho, hod⟩ := hcell
      exact ⟨o, ks1 _ _ ho, hod⟩
    have dd1 : h₁.DictOf (mixKind X.prog X.w) a vs := by
      obtain ⟨o, es, ep, ho, r⟩ := dd
      exact ⟨o, es, ep, ks1 _ _ ho, r⟩
    obtain ⟨w', hw', rw'⟩ := RelO.some_of (v := V.int (wt n)) (o := valueAt vs (Sum.inl n)) (by rw [← hw n hn]; exact rel.val (Sum.inl n))
    obtain ⟨t', rfl⟩ := rw'
    refine wpAny_Tuple_spliced ?_
    show wpAny _ _ (spliced ((false, eval (.UnaryOp .USub (.Subscript (.Name dn p1) (.Name pr p2) p3) p4) _) :: (false, eval (.Name pr p5) _) :: [])) _ _ _
    refine Calls.spliced_cons (UnaryOp_ (subD_of PySem.F.slot_dict_getitem.lookup (fun _ _ => rfl) (wpAny_Name (wpAny_loadName_free L.kind hfr hc cell1 (wpAny_Name (wpAny_loadName_local L.kind L.par hns pair_lookup ⟨dd1.typeIs, ?_⟩) hpr) hdc) hdn)))
    refine wpAny_getItem_of (knd := mixKind X.prog X.w) (k := Sum.inl n) (key := Value.int n t) (keyIs_int n t) dd1.mapOf hw' ?_
    refine PyProof.Rows.neg_int ?_
    refine Calls.spliced_cons (wpAny_Name (wpAny_loadName_local L.kind L.par hns pair_lookup (Calls.spliced_nil ?_)) hpr)
    refine ⟨by show 2 ≤ sizeLine; decide, _, _, rfl, fun b o e => Heap.get?_push_of_some _ e, ?_⟩
    exact .tuple (Heap.get?_push_size _ rfl) rfl rfl (.cons (.int _ _) (.cons (.int _ _) .nil))
  · obtain ⟨h', tk', rfl, k2, r⟩ := hu
    exact ⟨h', tk', rfl, k2, r⟩
end
end K23
set_option Elab.async false
set_option linter.all false
set_option maxRecDepth 100000
set_option maxHeartbeats 4000000
/-! the text, its words -/
namespace K23
open PySem PySem.Spec PyProof.Rows L2
def topS (i : Nat) : Stmt := PySem.Challenge.pw_blockpics_k23_whole_least_tables_of_many.main.body.getD i (.Pass ⟨0, 0, 0, 0⟩)
/-- the built-ins are the built-ins, the constants stand -/
structure Txt (mg : Str → Option Value) : Prop where
  isi : mg "isinstance" = none
  len : mg "len" = none
  all : mg "all" = none
  sum : mg "sum" = none
  enum : mg "enumerate" = none
  set : mg "set" = none
  tup : mg "tuple" = none
  range : mg "range" = none
  sorted : mg "sorted" = none
  repr : mg "repr" = none
  int : mg "int" = none
  bool : mg "bool" = none
  dict : mg "dict" = none
  list : mg "list" = none
  max : mg "max" = none
  min : mg "min" = none
  longest : ∃ t, mg "LONGEST" = some (.int 16 t)
  whole : ∃ t, mg "WHOLE" = some (.int 65536 t)
  mostW : ∃ t, mg "MOST_WEIGHT" = some (.int 1000000000000000000 t)
theorem bt_isi : bootBuiltins "isinstance" = some (.builtin "isinstance") := by decide +kernel
theorem bt_len : bootBuiltins "len" = some (.builtin "len") := by decide +kernel
theorem bt_all : bootBuiltins "all" = some (.builtin "all") := by decide +kernel
theorem bt_sum : bootBuiltins "sum" = some (.builtin "sum") := by decide +kernel
theorem bt_sorted : bootBuiltins "sorted" = some (.builtin "sorted") := by decide +kernel
theorem bt_max : bootBuiltins "max" = some (.builtin "max") := by decide +kernel
theorem bt_min : bootBuiltins "min" = some (.builtin "min") := by decide +kernel
theorem bt_int : bootBuiltins "int" = some (.type "int") := by decide +kernel
theorem bt_bool : bootBuiltins "bool" = some (.type "bool") := by decide +kernel
theorem bt_dict : bootBuiltins "dict" = some (.type "dict") := by decide +kernel
theorem bt_list : bootBuiltins "list" = some (.type "list") := by decide +kernel
theorem bt_tup : bootBuiltins "tuple" = some (.type "tuple") := by decide +kernel
/-- the weights: symbols and weights, in the dict's order -/
def wK (ws : List (Int × Int)) : List (Key × V) := ws.map fun p => (Sum.inl p.1, V.int p.2)
structure WOk (ws : List (Int × Int)) : Prop where
  nd : (ws.map (·.1)).Nodup
  key : ∀ p ∈ ws, 0 ≤ p.1 ∧ p.1 ≤ 255
  wt : ∀ p ∈ ws, 1 ≤ p.2 ∧ p.2 ≤ 1000000000000000000
  len : ws.length ≤ 255
theorem same_upd {H : Hp} {p : Addr} {o : HO} (h : H p = none) : Same H (upd H p o) := fun b x e => by
  rw [upd_ne (ne_of_none e h)]
  exact e
theorem wK_keys (ws : List (Int × Int)) : (wK ws).map (·.1) = (ws.map (·.1)).map Sum.inl := by
  unfold wK
  rw [List.map_map, List.map_map]
  rfl
theorem wK_len (ws : List (Int × Int)) : (wK ws).length = ws.length := by unfold wK; rw [List.length_map]
theorem valV_nd : ∀ {ws : List (Int × Int)}, (ws.map (·.1)).Nodup → ∀ p ∈ ws, valV (wK ws) (Sum.inl p.1) = some (V.int p.2)
  | [], _, p, h => by simp at h
  | q :: ws, hn, p, h => by
    have hn : (q.1 :: ws.map (·.1)).Nodup := hn
    obtain ⟨h1, h2⟩ := List.nodup_cons.mp hn
    show valV ((Sum.inl q.1, V.int q.2) :: wK ws) _ = _
    rcases List.mem_cons.mp h with e | m
    · subst e
      simp [valV]
    · have ne : ¬ q.1 = p.1 := fun e => h1 (by rw [e]; exact List.mem_map_of_mem m)
      have ih := valV_nd h2 p m
      simp only [valV] at ih ⊢
      rw [List.find?_cons_of_neg (by simpa using ne)]
      exact ih
section
variable {P : Program} {w : World} {K : PySem.W.Frag} {mg : Str → Option Value} {base : Heap}
/-! ### is_integer -/
abbrev sIsInt : Stmt := topS 10
theorem scIsInt : FnScope ["value", "low", "high"] ["value", "low", "high"] (defScope sIsInt) := ⟨rfl, rfl, rfl, by decide +kernel, rfl, by decide +kernel, by decide +kernel⟩
def spIsInt : Sp := fun vs H Q _ => ∃ i lo hi : Int, vs = [.int i, .int lo, .int hi] ∧ Q (.bl (decide (lo ≤ i) && decide (i ≤ hi))) H
theorem ok_isInt {f : Addr} {fd : FuncData} (F : Fun K "is_integer" "is_integer" sIsInt f fd) (T : Txt mg) : FnOk P w K mg base CX0 1 f fd ["value", "low", "high"] spIsInt := by
  refine F.ok scIsInt (fun vs H Q E h => ?_) (fun cdv A outer s H vs Q E hr h => ?_)
  · obtain ⟨i, lo, hi, rfl, _⟩ := h
    rfl
  · obtain ⟨i, lo, hi, rfl, q⟩ := h
    refine ⟨_, pss_one (ps_ret (pe_and (pe_callB call_isi (by rfl) T.isi bt_isi (pa_cons (pv 0) (pa_cons (pe_bltn (v := .ty "int") (by rfl) T.int bt_int rfl) pa_nil)))
      (pe_and (pe_not (pe_callB call_isi (by rfl) T.isi bt_isi (pa_cons (pv 0) (pa_cons (pe_bltn (v := .ty "bool") (by rfl) T.bool bt_bool rfl) pa_nil))))
        (pe_one (pe_chain op_le op_le (pv 1) (pv 0) (pv 2)))))), ?_⟩
    refine ⟨_, rfl, .int i, .ty "int", .type "int", .type "int", true, rfl, .ty "int", .base (.int i), kit_ty (by decide +kernel), true, rfl, iteT ?_⟩
    refine ⟨_, rfl, .int i, .ty "bool", .type "int", .type "bool", false, rfl, .ty "bool", .base (.int i), kit_ty (by decide +kernel), false, rfl, true, rfl, iteT ?_⟩
    refine ⟨_, rfl, _, rfl, lo, i, rfl, rfl, decide (lo ≤ i), rfl, ?_⟩
    by_cases h1 : lo ≤ i
    · rw [decide_eq_true h1] at q ⊢
      refine iteT ⟨_, rfl, i, hi, rfl, rfl, ?_⟩
      simpa using q
    · rw [decide_eq_false h1] at q ⊢
      exact iteF (by simpa using q)
end
end K23
set_option Elab.async false
set_option linter.all false
set_option maxRecDepth 100000
set_option maxHeartbeats 4000000
/-! comprehensions in short -/
namespace K23
open PySem PySem.Spec PyProof.Rows L2
/-- what is walked gives these n items and changes nothing, wherever what stood in H1 stands -/
structure Plain (J : It) (xs : List V) (H1 : Hp) : Prop where
  go : ∀ (i : Nat) (H : Hp), Same H1 H → i < xs.length → J.go i H
  yld : ∀ (i : Nat) (H : Hp) (x : V) (H' : Hp), Same H1 H → i < xs.length → J.yld i H x H' → H' = H ∧ xs[i]? = some x
  stop : ∀ H : Hp, Same H1 H → J.stop xs.length H
theorem plain_list {K : PySem.W.Frag} {a : Addr} {xs : List V} {H1 : Hp} (h : SqL K H1 a xs) : Plain (Itl K a) xs H1 :=
  ⟨fun i H sm hi => ⟨xs, xs[i], sm.seq h, by simp [hi]⟩, fun i H x H' sm hi y => ⟨y.1, y.2 xs (sm.seq h)⟩, fun H sm => ⟨xs, sm.seq h, Nat.le_refl _⟩⟩
theorem same_tup {K : PySem.W.Frag} {H H' : Hp} {a : Addr} {xs : List V} (e : Same H H') (h : SqT K H a xs) : SqT K H' a xs := by
  rcases h with (h | ⟨o, h⟩) | h
  · exact .inl (.inl (e _ _ h))
  · exact .inl (.inr ⟨o, e _ _ h⟩)
  · exact .inr h
theorem plain_tup {K : PySem.W.Frag} {a : Addr} {xs : List V} {H1 : Hp} (h : SqT K H1 a xs) : Plain (Itt K a) xs H1 :=
  ⟨fun i H sm hi => ⟨xs, xs[i], same_tup sm h, by simp [hi]⟩, fun i H x H' sm hi y => ⟨y.1, y.2 xs (same_tup sm h)⟩, fun H sm => ⟨xs, same_tup sm h, Nat.le_refl _⟩⟩
theorem plain_range {lo : Int} {n : Nat} {H1 : Hp} : Plain (Itr lo n) ((List.range n).map fun (i : Nat) => V.int (lo + (i : Int))) H1 :=
  ⟨fun i H sm hi => by
    rw [List.length_map, List.length_range] at hi
    exact hi, fun i H x H' sm hi y => by
    rw [List.length_map, List.length_range] at hi
    obtain ⟨e1, e2⟩ := y
    refine ⟨e1, ?_⟩
    rw [List.getElem?_map, List.getElem?_range hi, e2]
    rfl, fun H sm => by
    show n ≤ _
    rw [List.length_map, List.length_range]; exact Nat.le_refl _⟩
theorem plain_rangeC {lo c : Int} {n : Nat} {H1 : Hp} : Plain (Itc lo c n) ((List.range n).map fun (i : Nat) => V.int (lo + (i : Int) * c)) H1 :=
  ⟨fun i H sm hi => by
    rw [List.length_map, List.length_range] at hi
    exact hi, fun i H x H' sm hi y => by
    rw [List.length_map, List.length_range] at hi
    obtain ⟨e1, e2⟩ := y
    refine ⟨e1, ?_⟩
    rw [List.getElem?_map, List.getElem?_range hi, e2]
    rfl, fun H sm => by
    show n ≤ _
    rw [List.length_map, List.length_range]; exact Nat.le_refl _⟩
theorem plain_keys {d : Addr} {o : Obj} {kvs : List (Key × V)} {H1 : Hp} (h : H1 d = some (.frz o (.dK kvs))) : Plain (Itk d o kvs) (kvs.map fun kv => kV kv.1) H1 :=
  ⟨fun i H sm hi => ⟨sm _ _ h, by rw [List.length_map] at hi; exact hi⟩, fun i H x H' sm hi y => by
    obtain ⟨e1, k, v, e2, e3⟩ := y
    refine ⟨e1, ?_⟩
    rw [List.getElem?_map, e2, e3]
    rfl, fun H sm => ⟨sm _ _ h, by rw [List.length_map]; exact Nat.le_refl _⟩⟩
/-- [e for x in ..]: each item's value, nothing else changed -/
theorem lc_map {J : It} {xs ys : List V} {g : TG} {te : TE} {vs : List Nat} {σ : L2.St} {H1 : Hp} {D : Addr} {Qd : Hp → Prop} (pl : Plain J xs H1) (nD : H1 D = none) (hlen : ys.length = xs.length) (hz : xs.length ≤ sizeLine)
    (hs : ∀ (i : Nat) (x y : V) (H : Hp) (Q : VK), xs[i]? = some x → ys[i]? = some y → Same H1 H → (∀ H4, Same H H4 → Q y H4) → g x (wipe σ vs) H fun σ2 H2 => wipe σ2 vs = wipe σ vs ∧ te σ2 H2 Q)
    (hd : ∀ H, Same H1 H → H D = some (.lst ys) → Qd H) :
    ∃ W : Nat → Nat → Hp → Prop, (∃ m, W 0 m (upd H1 D (.lst []))) ∧ ∀ i m H, W i m H →
      (J.stop i H ∧ Qd H) ∨ (J.go i H ∧ ∃ Nx : Hp → Prop, (∀ H', Nx H' → ∃ m', m' < m ∧ W (i + 1) m' H') ∧ ∀ x H', J.yld i H x H' → g x (wipe σ vs) H' fun σ2 H2 => wipe σ2 vs = wipe σ vs ∧ tYes σ2 H2 fun b H3 =>
        if b = true then te σ2 H3 fun y H4 => ∃ acc, H4 D = some (.lst acc) ∧ acc.length < sizeLine ∧ Nx (upd H4 D (.lst (acc ++ [y]))) else Nx H3) := by
  refine ⟨fun i m H => m = xs.length - i ∧ i ≤ xs.length ∧ Same H1 H ∧ H D = some (.lst (ys.take i)), ⟨xs.length, by simp, Nat.zero_le _, same_upd nD, upd_same⟩, ?_⟩
  rintro i m H ⟨rfl, hi, sm, hD⟩
  by_cases hlt : i < xs.length
  · refine .inr ⟨pl.go i H sm hlt, fun H' => Same H1 H' ∧ H' D = some (.lst (ys.take (i + 1))), fun H' p => ⟨xs.length - (i + 1), by omega, rfl, hlt, p⟩, fun x H' y => ?_⟩
    obtain ⟨rfl, ex⟩ := pl.yld i H x H' sm hlt y
    have ey : ys[i]? = some ys[i] := List.getElem?_eq_getElem (by omega)
    refine hs i x ys[i] H' _ ex ey sm fun H4 s4 => ?_
    refine ⟨ys.take i, s4 _ _ hD, ?_, fun b o e => ?_, ?_⟩
    · rw [List.length_take]; omega
    · rw [upd_ne (ne_of_none e nD)]
      exact s4 _ _ (sm _ _ e)
    · rw [upd_same, List.take_add_one, ey]
      rfl
  · have e : i = xs.length := by omega
    subst e
    refine .inl ⟨pl.stop H sm, hd H sm ?_⟩
    rw [hD, List.take_of_length_le (by omega)]
/-- [x for x in .. if t]: the kept items -/
theorem lc_filter {J : It} {xs : List V} {j : Nat} {te : TE} {tt : TT} {vs : List Nat} {σ : L2.St} {H1 : Hp} {D : Addr} {Qd : Hp → Prop} (p : V → Bool) (pl : Plain J xs H1) (nD : H1 D = none) (hz : xs.length ≤ sizeLine)
    (hw : ∀ x, wipe ((wipe σ vs).set j (some x)) vs = wipe σ vs)
    (ht : ∀ (x : V) (H : Hp) (Q : Bool → Hp → Prop), x ∈ xs → Same H1 H → (∀ H3, Same H H3 → Q (p x) H3) → tt ((wipe σ vs).set j (some x)) H Q)
    (he : ∀ (x : V) (H : Hp) (Q : VK), x ∈ xs → Same H1 H → (∀ H3, Same H H3 → Q x H3) → te ((wipe σ vs).set j (some x)) H Q)
    (hd : ∀ H, Same H1 H → H D = some (.lst (xs.filter p)) → Qd H) :
    ∃ W : Nat → Nat → Hp → Prop, (∃ m, W 0 m (upd H1 D (.lst []))) ∧ ∀ i m H, W i m H →
      (J.stop i H ∧ Qd H) ∨ (J.go i H ∧ ∃ Nx : Hp → Prop, (∀ H', Nx H' → ∃ m', m' < m ∧ W (i + 1) m' H') ∧ ∀ x H', J.yld i H x H' → gName j x (wipe σ vs) H' fun σ2 H2 => wipe σ2 vs = wipe σ vs ∧ tt σ2 H2 fun b H3 =>
        if b = true then te σ2 H3 fun y H4 => ∃ acc, H4 D = some (.lst acc) ∧ acc.length < sizeLine ∧ Nx (upd H4 D (.lst (acc ++ [y]))) else Nx H3) := by
  refine ⟨fun i m H => m = xs.length - i ∧ i ≤ xs.length ∧ Same H1 H ∧ H D = some (.lst ((xs.take i).filter p)), ⟨xs.length, by simp, Nat.zero_le _, same_upd nD, upd_same⟩, ?_⟩
  rintro i m H ⟨rfl, hi, sm, hD⟩
  by_cases hlt : i < xs.length
  · refine .inr ⟨pl.go i H sm hlt, fun H' => Same H1 H' ∧ H' D = some (.lst ((xs.take (i + 1)).filter p)), fun H' p => ⟨xs.length - (i + 1), by omega, rfl, hlt, p⟩, fun x H' y => ?_⟩
    obtain ⟨rfl, ex⟩ := pl.yld i H x H' sm hlt y
    have hx : x ∈ xs := List.mem_of_getElem? ex
    have et : (xs.take (i + 1)).filter p = (xs.take i).filter p ++ (if p x = true then [x] else []) := by
      rw [List.take_add_one, ex, List.filter_append]
      congr 1
      cases e : p x <;> simp [e]
    refine ⟨hw x, ht x H' _ hx sm fun H3 s3 => ?_⟩
    cases e : p x with
    | true =>
      rw [e] at et
      refine iteT (he x H3 _ hx (sm.trans s3) fun H4 s4 => ?_)
      refine ⟨(xs.take i).filter p, s4 _ _ (s3 _ _ hD), ?_, fun b o e => ?_, ?_⟩
      · have h1 := List.length_filter_le p (xs.take i)
        rw [List.length_take] at h1
        omega
      · rw [upd_ne (ne_of_none e nD)]
        exact s4 _ _ (s3 _ _ (sm _ _ e))
      · rw [upd_same, et]
        rfl
    | false =>
      rw [e] at et
      refine iteF ⟨sm.trans s3, ?_⟩
      rw [s3 _ _ hD, et]
      simp
  · have e : i = xs.length := by omega
    subst e
    refine .inl ⟨pl.stop H sm, hd H sm ?_⟩
    rw [hD, List.take_of_length_le (Nat.le_refl _)]
/-- [e for i, x in enumerate(t, ..)] -/
theorem lc_mapU {K : PySem.W.Frag} {a : Addr} {k : Int} {xs ys : List V} {g : TG} {te : TE} {vs : List Nat} {σ : L2.St} {H1 : Hp} {D : Addr} {Qd : Hp → Prop} (hS : SqT K H1 a xs) (nD : H1 D = none) (hlen : ys.length = xs.length) (hz : xs.length ≤ sizeLine)
    (hs : ∀ (i : Nat) (x y : V) (H : Hp) (U : Addr) (Q : VK), xs[i]? = some x → ys[i]? = some y → Same H1 H → H U = some (.tup [.int (k + (i : Nat)), x]) → (∀ H4, Same H H4 → Q y H4) → g (.ref U) (wipe σ vs) H fun σ2 H2 => wipe σ2 vs = wipe σ vs ∧ te σ2 H2 Q)
    (hd : ∀ H, Same H1 H → H D = some (.lst ys) → Qd H) :
    ∃ W : Nat → Nat → Hp → Prop, (∃ m, W 0 m (upd H1 D (.lst []))) ∧ ∀ i m H, W i m H →
      ((Itu K a k).stop i H ∧ Qd H) ∨ ((Itu K a k).go i H ∧ ∃ Nx : Hp → Prop, (∀ H', Nx H' → ∃ m', m' < m ∧ W (i + 1) m' H') ∧ ∀ x H', (Itu K a k).yld i H x H' → g x (wipe σ vs) H' fun σ2 H2 => wipe σ2 vs = wipe σ vs ∧ tYes σ2 H2 fun b H3 =>
        if b = true then te σ2 H3 fun y H4 => ∃ acc, H4 D = some (.lst acc) ∧ acc.length < sizeLine ∧ Nx (upd H4 D (.lst (acc ++ [y]))) else Nx H3) := by
  refine ⟨fun i m H => m = xs.length - i ∧ i ≤ xs.length ∧ Same H1 H ∧ H D = some (.lst (ys.take i)), ⟨xs.length, by simp, Nat.zero_le _, same_upd nD, upd_same⟩, ?_⟩
  rintro i m H ⟨rfl, hi, sm, hD⟩
  by_cases hlt : i < xs.length
  · refine .inr ⟨⟨xs, xs[i], same_tup sm hS, by simp [hlt]⟩, fun H' => Same H1 H' ∧ H' D = some (.lst (ys.take (i + 1))), fun H' p => ⟨xs.length - (i + 1), by omega, rfl, hlt, p⟩, fun x H' y => ?_⟩
    obtain ⟨U, z, rfl, nU, rfl, fz⟩ := y
    have ez : xs[i]? = some z := fz xs (same_tup sm hS)
    have ey : ys[i]? = some ys[i] := List.getElem?_eq_getElem (by omega)
    have smU : Same H (upd H U (.tup [.int (k + (i : Nat)), z])) := same_upd nU
    refine hs i z ys[i] _ U _ ez ey (sm.trans smU) upd_same fun H4 s4 => ?_
    refine ⟨ys.take i, s4 _ _ (smU _ _ hD), ?_, fun b o e => ?_, ?_⟩
    · rw [List.length_take]; omega
    · rw [upd_ne (ne_of_none e nD)]
      exact s4 _ _ (smU _ _ (sm _ _ e))
    · rw [upd_same, List.take_add_one, ey]
      rfl
  · have e : i = xs.length := by omega
    subst e
    refine .inl ⟨⟨xs, same_tup sm hS, rfl⟩, hd H sm ?_⟩
    rw [hD, List.take_of_length_le (by omega)]
/-- for i, x in enumerate(t, ..) -/
theorem for_itu {K : PySem.W.Frag} {a : Addr} {k : Int} {xs : List V} {g : TG} {tb : TS} {D : Ends} {σ : L2.St} {H : Hp} (Pv : Nat → L2.St → Hp → Prop) (h0 : Pv 0 σ H) (hl : ∀ i σ H, i ≤ xs.length → Pv i σ H → SqT K H a xs)
    (hs : ∀ (i : Nat) (x : V) (σ : L2.St) (H : Hp) (U : Addr), xs[i]? = some x → Pv i σ H → H U = none → g (.ref U) σ (upd H U (.tup [.int (k + (i : Nat)), x])) fun σ2 H2 => tb { D with nx := Pv (i + 1), ct := Pv (i + 1), bk := D.nx } σ2 H2) (hd : ∀ σ H, Pv xs.length σ H → D.nx σ H) :
    ∃ W : Nat → Nat → L2.St → Hp → Prop, (∃ m, W 0 m σ H) ∧ ∀ i m σ H, W i m σ H →
      ((Itu K a k).stop i H ∧ D.nx σ H) ∨ ((Itu K a k).go i H ∧ ∃ N : L2.St → Hp → Prop, (∀ σ' H', N σ' H' → ∃ m', m' < m ∧ W (i + 1) m' σ' H') ∧ ∀ x H', (Itu K a k).yld i H x H' → g x σ H' fun σ2 H2 => tb { D with nx := N, ct := N, bk := D.nx } σ2 H2) := by
  refine ⟨fun i m σ H => m = xs.length - i ∧ i ≤ xs.length ∧ Pv i σ H, ⟨xs.length, by simp, Nat.zero_le _, h0⟩, ?_⟩
  rintro i m σ H ⟨rfl, hi, p⟩
  have q := hl i σ H hi p
  by_cases hlt : i < xs.length
  · refine .inr ⟨⟨xs, xs[i], q, by simp [hlt]⟩, Pv (i + 1), fun σ' H' p' => ⟨xs.length - (i + 1), by omega, rfl, hlt, p'⟩, fun x H' y => ?_⟩
    obtain ⟨U, z, rfl, nU, rfl, fz⟩ := y
    exact hs i z σ H U (fz xs q) p nU
  · have e : i = xs.length := by omega
    subst e
    exact .inl ⟨⟨xs, q, rfl⟩, hd σ H p⟩
theorem same_unlock {H H' : Hp} {d : Addr} {od : Obj} {u : HO} (h : Same (upd H d (.frz od u)) H') (hd : H d = some u) : Same H (upd H' d u) := fun b o e => by
  by_cases hb : b = d
  · subst hb
    rw [hd] at e
    rw [upd_same, e]
  · rw [upd_ne hb]
    exact h b o (by rw [upd_ne hb]; exact e)
theorem same_locked {H H' : Hp} {d : Addr} {od : Obj} {u : HO} (h : Same (upd H d (.frz od u)) H') : H' d = some (.frz od u) := h _ _ upd_same
end K23
set_option Elab.async false
set_option linter.all false
set_option maxRecDepth 100000
set_option maxHeartbeats 4000000
namespace K23
open PySem PySem.Spec PyProof.Rows L2
/-- the room that counts take -/
def roomL (cs : List Int) : List Int := (List.range cs.length).map fun (i : Nat) => cs.getD i 0 * 2 ^ ((16 - (1 + (i : Int))) : Int).toNat
def roomI (cs : List Int) : Int := (roomL cs).sum
/-- the counts of a table -/
structure CntOk (cs : List Int) : Prop where
  len : cs.length = 16
  rng : ∀ c ∈ cs, 0 ≤ c ∧ c ≤ 255
theorem all_true {l : List Bool} (h : ∀ b ∈ l, b = true) : l.all id = true := List.all_eq_true.mpr fun b hb => h b hb
theorem bl_true (n : Nat) : (List.replicate n true).all id = true := all_true fun b hb => List.eq_of_mem_replicate hb
section
variable {P : Program} {w : World} {K : PySem.W.Frag} {mg : Str → Option Value} {base : Heap}
/-! ### room_taken -/
abbrev sRoom : Stmt := topS 12
theorem scRoom : FnScope ["counts", "length", "count"] ["counts"] (defScope sRoom) := ⟨rfl, rfl, rfl, by decide +kernel, rfl, by decide +kernel, by decide +kernel⟩
def spRoom (K : PySem.W.Frag) : Sp := fun vs H Q _ => ∃ (a : Addr) (cs : List Int), vs = [.ref a] ∧ SqT K H a (cs.map V.int) ∧ CntOk cs ∧ ∀ H', Same H H' → Q (.int (roomI cs)) H'
theorem ok_room {f : Addr} {fd : FuncData} (F : Fun K "room_taken" "room_taken" sRoom f fd) (T : Txt mg) : FnOk P w K mg base CX0 1 f fd ["counts"] (spRoom K) := by
  refine F.ok scRoom (fun vs H Q E h => ?_) (fun cdv A outer s H vs Q E hr h => ?_)
  · obtain ⟨a, cs, rfl, _⟩ := h
    rfl
  · obtain ⟨a, cs, rfl, hS, hc, q⟩ := h
    obtain ⟨tL, gL⟩ := T.longest
    refine ⟨_, pss_one (ps_ret (pe_callB (cr_sum rfl) (by rfl) T.sum bt_sum (pa_cons (pe_lc (own := [("length", 1), ("count", 2)]) (g := gTup K 2 (gCons (gName 1) (gCons (gName 2) gNil))) (tt := tYes) rfl scRoom.nd
      (pi_enumTK (by rfl) T.enum (pa_cons (pv 0) pa_nil) (by decide) (by decide)) (blkOk_by (N := ["counts", "length", "count"]) (sc := defScope sRoom) (by decide +kernel))
      (fun _ _ _ _ _ => pg_tup rfl (pgs_cons (pg_name (i := 1) scRoom.nd rfl (Or.inl rfl)) (pgs_cons (pg_name (i := 2) scRoom.nd rfl (Or.inl rfl)) pgs_nil)))
      (fun _ _ _ _ _ => pts_nil)
      (fun _ _ _ _ _ => pe_op op_shl (pv 2) (pe_op op_sub (pe_glob (v := .int 16) rfl gL ⟨_, rfl⟩) (pv 1)))) pa_nil))), ?_⟩
    have hlen := hc.len
    refine ⟨_, rfl, a, cs.map V.int, rfl, hS, fun D nD => lc_mapU (ys := (roomL cs).map V.int) hS nD ?_ ?_ ?_ ?_⟩
    · unfold roomL; simp
    · rw [List.length_map, hlen]; decide
    · intro i x y H1 U Q' ex ey sm eU q'
      rw [List.getElem?_map] at ex ey
      have hi : i < cs.length := by
        have := (List.getElem?_eq_some_iff.mp (show (cs.map V.int)[i]? = some x by rw [List.getElem?_map]; exact ex)).1
        simpa using this
      have e1 : cs[i]? = some cs[i] := List.getElem?_eq_getElem hi
      rw [e1] at ex
      cases ex
      unfold roomL at ey
      rw [List.getElem?_map, List.getElem?_range hi] at ey
      have ey' : V.int (cs.getD i 0 * 2 ^ ((16 - (1 + (i : Int))) : Int).toNat) = y := Option.some.inj ey
      have eg : cs.getD i 0 = cs[i] := by rw [List.getD_eq_getElem?_getD, e1]; rfl
      rw [eg] at ey'
      subst ey'
      have hr2 := hc.rng cs[i] (List.getElem_mem hi)
      refine ⟨U, _, rfl, SqT.of eU, rfl, _, _, rfl, _, _, rfl, rfl, rfl, ?_⟩
      refine ⟨_, rfl, _, rfl, 16, 1 + (i : Int), rfl, rfl, cs[i], 16 - (1 + (i : Int)), rfl, rfl, ⟨by omega, by omega, by omega⟩, q' _ (Same.refl _)⟩
    · intro H1 sm eD
      exact ⟨D, roomL cs, rfl, SqL.of eD, q H1 sm⟩
/-! ### are_counts -/
abbrev sAreC : Stmt := topS 11
theorem scAreC : FnScope ["value", "count"] ["value"] (defScope sAreC) := ⟨rfl, rfl, rfl, by decide +kernel, rfl, by decide +kernel, by decide +kernel⟩
def spAreC : Sp := fun vs H Q _ => ∃ (a : Addr) (cs : List Int), vs = [.ref a] ∧ H a = some (.tup (cs.map V.int)) ∧ CntOk cs ∧ roomI cs < 65536 ∧ ∀ H', Same H H' → Q (.bl true) H'
theorem ok_areC {f fI fR : Addr} {fd fdI fdR : FuncData} (F : Fun K "are_counts" "are_counts" sAreC f fd) (T : Txt mg) (FI : Fun K "is_integer" "is_integer" sIsInt fI fdI) (bI : Binds K fdI ["value", "low", "high"] []) (gI : mg "is_integer" = some (.ref fI))
    (FR : Fun K "room_taken" "room_taken" sRoom fR fdR) (bR : Binds K fdR ["counts"] []) (gR : mg "room_taken" = some (.ref fR)) : FnOk P w K mg base CX0 2 f fd ["value"] spAreC := by
  have GI : FnOk P w K mg base CX0 1 fI fdI ["value", "low", "high"] spIsInt := ok_isInt FI T
  have GR : FnOk P w K mg base CX0 1 fR fdR ["counts"] (spRoom K) := ok_room FR T
  refine F.ok scAreC (fun vs H Q E h => ?_) (fun cdv A outer s H vs Q E hr h => ?_)
  · obtain ⟨a, cs, rfl, _⟩ := h
    rfl
  · obtain ⟨a, cs, rfl, ha, hc, hlt, q⟩ := h
    obtain ⟨tL, gL⟩ := T.longest
    obtain ⟨tW, gW⟩ := T.whole
    have hlen := hc.len
    refine ⟨_, pss_cons (ps_if (PW.pt (pw_or (pt_not (pt_val (pe_callB call_isi (by rfl) T.isi bt_isi (pa_cons (pv 0) (pa_cons (pe_bltn (v := .ty "tuple") (by rfl) T.tup bt_tup rfl) pa_nil)))))
        (pw_or1 (pt_cmpR op_ne (pe_callB call_len_seq (by rfl) T.len bt_len (pa_cons (pv 0) pa_nil)) (pe_glob (v := .int 16) rfl gL ⟨_, rfl⟩) (nomark _)))))
        (pss_one (ps_ret pe_bl)) pss_nil)
      (pss_cons (ps_if (pt_not (pt_val (pe_callB (cr_all rfl) (by rfl) T.all bt_all (pa_cons (pe_lc (own := [("count", 1)]) (g := gName 1) (tt := tYes) rfl scAreC.nd (pi_tup (pv 0))
            (blkOk_by (N := ["value", "count"]) (sc := defScope sAreC) (by decide +kernel)) (fun _ _ _ _ _ => pg_name (i := 1) scAreC.nd rfl (Or.inl rfl)) (fun _ _ _ _ _ => pts_nil)
            (fun _ _ _ _ _ => pe_call GI hr (by rfl) gI FI.kp bI .nil pass0 (pa_cons (pv 1) (pa_cons pe_int (pa_cons pe_int pa_nil))))) pa_nil))))
        (pss_one (ps_ret pe_bl)) pss_nil)
      (pss_one (ps_ret (pe_cmpR op_lt (pe_call GR hr (by rfl) gR FR.kp bR .nil pass0 (pa_cons (pv 0) pa_nil)) (pe_glob (v := .int 65536) rfl gW ⟨_, rfl⟩) (nomark _))))), ?_⟩
    refine ⟨_, rfl, .ref a, .ty "tuple", .type "tuple", .type "tuple", true, rfl, .ty "tuple", .base (.tup ha), kit_ty (by decide +kernel), true, rfl, iteF ?_⟩
    refine ⟨_, rfl, a, _, rfl, .inr (SqT.of ha), rfl, _, rfl, iteNS (by rw [List.length_map, hlen]; rfl) ?_⟩
    refine ⟨_, rfl, a, rfl, ⟨_, SqT.of ha⟩, fun D nD => lc_map (ys := (List.replicate 16 true).map V.bl) (plain_tup (SqT.of ha)) nD ?_ ?_ ?_ ?_⟩
    · rw [List.length_map, List.length_map, List.length_replicate, hlen]
    · rw [List.length_map, hlen]; decide
    · intro i x y H1 Q' ex ey sm q'
      rw [List.getElem?_map] at ex ey
      obtain ⟨c, hc1, hc2⟩ := Option.map_eq_some_iff.mp ex
      obtain ⟨b, hb1, hb2⟩ := Option.map_eq_some_iff.mp ey
      have eb : b = true := List.eq_of_mem_replicate (List.mem_of_getElem? hb1)
      subst hc2 hb2 eb
      have hr2 := hc.rng c (List.mem_of_getElem? hc1)
      refine ⟨rfl, _, rfl, c, 0, 255, rfl, ?_⟩
      rw [decide_eq_true hr2.1, decide_eq_true hr2.2]
      exact q' _ (Same.refl _)
    · intro H1 sm eD
      refine ⟨D, List.replicate 16 true, rfl, SqL.of eD, _, rfl, ?_⟩
      rw [bl_true]
      refine iteF ⟨_, rfl, a, cs, rfl, SqT.of (sm _ _ ha), hc, fun H2 sm2 => ⟨_, _, rfl, rfl, ?_⟩⟩
      show Q (.bl (decide (roomI cs < 65536))) H2
      rw [decide_eq_true hlt]
      exact q _ (sm.trans sm2)
end
end K23
set_option Elab.async false
set_option linter.all false
set_option maxRecDepth 100000
set_option maxHeartbeats 4000000
namespace K23
open PySem PySem.Spec PyProof.Rows L2
/-! ### len(set(t)), a tuple of ints that differ -/
def tLenSetT (K : PySem.W.Frag) (ta : TE) : TE := fun σ H Q => ta σ H fun x H1 => ∃ (l : Addr) (ns : List Int), x = .ref l ∧ SqT K H1 l (ns.map V.int) ∧ ns.Nodup ∧ ns.length ≤ 1000 ∧ Q (.int (ns.length : Nat)) H1
theorem nodup_same_len {a b : List Int} (ha : a.Nodup) (hb : b.Nodup) (h : ∀ k, k ∈ a ↔ k ∈ b) : a.length = b.length := ((List.perm_ext_iff_of_nodup ha hb).mpr h).length_eq
theorem pe_lenSetT {X : Cx} {a : Expr} {ta : TE} {p p2 q pos : Pos} (hg : Gl X "len") (hm : X.mg "len" = none) (hg2 : Gl X "set") (hm2 : X.mg "set" = none) (ha : PE X a ta) (hc : X.calm = true := by rfl)
    (na : starEach [a] X.env = (false, eval a X.env) :: starEach [] X.env := by rfl) : PE X (.Call (.Name "len" p) [.Call (.Name "set" p2) [a] [] q] [] pos) (tLenSetT X.K ta) := by
  refine ⟨fun pins s σ H Q I h => ?_⟩
  refine Call_ (ld_blt I hg hm bt_len ?_)
  refine PyProof.Rows.callWith_builtin1 (PyProof.Rows.args_cons ?_ rfl) rfl rfl
  refine Call_ (ld_blt I hg2 hm2 PyProof.Rows.boot_set ?_)
  refine PyProof.Rows.callWith_type1 (PyProof.Rows.args_cons (thn (ha.run pins s σ H _ I h) fun v s1 ⟨x, H1, I1, r1, q1⟩ => PyProof.Rows.args_nil ?_) na) na rfl
  obtain ⟨l, ns, rfl, hq, hnd, hl, q1⟩ := q1
  cases r1
  obtain ⟨its, r, pl, hz⟩ := I1.tuple hq
  refine call_set_tupI ns (I1.ok.hd hc) (show s1.heap.IsTuple l its.toArray from pl) (by simpa using r.ints) (by unfold scanBound; omega) fun h' tk c R1 hcn k => ?_
  obtain ⟨o, es, ep, t, ho, hex, hdt, g, nd, hmem, hb, hf, hn, hr, hl2⟩ := R1
  refine PyProof.Rows.args_nil ?_
  have e1 : (es.toList.map keyOf).length = ns.length := nodup_same_len nd hnd fun k => by
    rw [← hmem k]
    exact decide_eq_true_iff
  rw [List.length_map, Array.length_toList] at e1
  have I2 : Inv X pins σ H1 { s1 with heap := h', toks := tk } := I1.kept k
  exact call_len_set ho hex hdt hf (by omega) ⟨.int ns.length, H1, I2.tok _, ⟨_, by rw [e1]⟩, q1⟩
/-- a table's symbols -/
structure SymOk (ss : List Int) : Prop where
  nd : ss.Nodup
  rng : ∀ s ∈ ss, 0 ≤ s ∧ s ≤ 255
  len : ss.length ≤ 255
section
variable {P : Program} {w : World} {K : PySem.W.Frag} {mg : Str → Option Value} {base : Heap}
/-! ### are_symbols -/
abbrev sAreS : Stmt := topS 13
theorem scAreS : FnScope ["value", "many", "symbol"] ["value", "many"] (defScope sAreS) := ⟨rfl, rfl, rfl, by decide +kernel, rfl, by decide +kernel, by decide +kernel⟩
def spAreS : Sp := fun vs H Q _ => ∃ (a : Addr) (ss : List Int), vs = [.ref a, .int ss.length] ∧ H a = some (.tup (ss.map V.int)) ∧ SymOk ss ∧ ∀ H', Same H H' → Q (.bl true) H'
theorem ok_areS {f fI : Addr} {fd fdI : FuncData} (F : Fun K "are_symbols" "are_symbols" sAreS f fd) (T : Txt mg) (FI : Fun K "is_integer" "is_integer" sIsInt fI fdI) (bI : Binds K fdI ["value", "low", "high"] []) (gI : mg "is_integer" = some (.ref fI)) : FnOk P w K mg base CX0 2 f fd ["value", "many"] spAreS := by
  have GI : FnOk P w K mg base CX0 1 fI fdI ["value", "low", "high"] spIsInt := ok_isInt FI T
  refine F.ok scAreS (fun vs H Q E h => ?_) (fun cdv A outer s H vs Q E hr h => ?_)
  · obtain ⟨a, ss, rfl, _⟩ := h
    rfl
  · obtain ⟨a, ss, rfl, ha, hs, q⟩ := h
    have hl := hs.len
    refine ⟨_, pss_cons (ps_if (PW.pt (pw_or (pt_cmpR op_ne (pe_callB call_len_seq (by rfl) T.len bt_len (pa_cons (pv 0) pa_nil)) (pv 1) (nomark _))
        (pw_or1 (pt_not (pt_val (pe_callB (cr_all rfl) (by rfl) T.all bt_all (pa_cons (pe_lc (own := [("symbol", 2)]) (g := gName 2) (tt := tYes) rfl scAreS.nd (pi_tup (pv 0))
            (blkOk_by (N := ["value", "many", "symbol"]) (sc := defScope sAreS) (by decide +kernel)) (fun _ _ _ _ _ => pg_name (i := 2) scAreS.nd rfl (Or.inl rfl)) (fun _ _ _ _ _ => pts_nil)
            (fun _ _ _ _ _ => pe_call GI hr (by rfl) gI FI.kp bI .nil pass0 (pa_cons (pv 2) (pa_cons pe_int (pa_cons pe_int pa_nil))))) pa_nil)))))))
        (pss_one (ps_ret pe_bl)) pss_nil)
      (pss_one (ps_ret (pe_cmpR op_eq (pe_lenSetT (by rfl) T.len (by rfl) T.set (pv 0)) (pv 1) (nomark _)))), ?_⟩
    refine ⟨_, rfl, a, _, rfl, .inr (SqT.of ha), _, rfl, rfl, _, rfl, ?_⟩
    have e1 : decide (V.int ((ss.map V.int).length : Int) = V.int (ss.length : Int)) = true := by rw [List.length_map, decide_eq_true rfl]
    rw [e1]
    refine iteF ?_
    refine ⟨_, rfl, a, rfl, ⟨_, SqT.of ha⟩, fun D nD => lc_map (ys := (List.replicate ss.length true).map V.bl) (plain_tup (SqT.of ha)) nD ?_ ?_ ?_ ?_⟩
    · rw [List.length_map, List.length_map, List.length_replicate]
    · rw [List.length_map]; exact Nat.le_trans hl (by decide)
    · intro i x y H1 Q' ex ey sm q'
      rw [List.getElem?_map] at ex ey
      obtain ⟨c, hc1, hc2⟩ := Option.map_eq_some_iff.mp ex
      obtain ⟨b, hb1, hb2⟩ := Option.map_eq_some_iff.mp ey
      have eb : b = true := List.eq_of_mem_replicate (List.mem_of_getElem? hb1)
      subst hc2 hb2 eb
      have hr2 := hs.rng c (List.mem_of_getElem? hc1)
      refine ⟨rfl, _, rfl, c, 0, 255, rfl, ?_⟩
      rw [decide_eq_true hr2.1, decide_eq_true hr2.2]
      exact q' _ (Same.refl _)
    · intro H1 sm eD
      refine ⟨D, List.replicate ss.length true, rfl, SqL.of eD, _, rfl, ?_⟩
      rw [bl_true]
      refine iteF ⟨_, rfl, a, ss, rfl, SqT.of (sm _ _ ha), hs.nd, Nat.le_trans hl (by decide), _, rfl, rfl, ?_⟩
      show Q (.bl (decide (V.int (ss.length : Int) = V.int (ss.length : Int)))) H1
      rw [decide_eq_true rfl]
      exact q _ sm
/-! ### table_fault, is_table, check_table -/
/-- a table as an object: a tuple of the two tuples -/
structure TabAt (H : Hp) (t a b : Addr) (cs ss : List Int) : Prop where
  top : H t = some (.tup [.ref a, .ref b])
  cnt : H a = some (.tup (cs.map V.int))
  sym : H b = some (.tup (ss.map V.int))
structure TabOk (cs ss : List Int) : Prop where
  cnt : CntOk cs
  room : roomI cs < 65536
  sym : SymOk ss
  sum : cs.sum = (ss.length : Int)
theorem TabAt.same {H H' : Hp} {t a b : Addr} {cs ss : List Int} (h : TabAt H t a b cs ss) (s : ∀ b o, H b = some o → (∀ ps, o ≠ .tbl ps) → H' b = some o) : TabAt H' t a b cs ss :=
  ⟨s _ _ h.top (fun _ z => nomatch z), s _ _ h.cnt (fun _ z => nomatch z), s _ _ h.sym (fun _ z => nomatch z)⟩
abbrev sFault : Stmt := topS 14
theorem scFault : FnScope ["value", "part"] ["value"] (defScope sFault) := ⟨rfl, rfl, rfl, by decide +kernel, rfl, by decide +kernel, by decide +kernel⟩
def spFault : Sp := fun vs H Q _ => ∃ (t a b : Addr) (cs ss : List Int), vs = [.ref t] ∧ TabAt H t a b cs ss ∧ TabOk cs ss ∧ ∀ H', Same H H' → Q (.str "") H'
theorem ok_fault {f fC fS : Addr} {fd fdC fdS : FuncData} (F : Fun K "table_fault" "table_fault" sFault f fd) (T : Txt mg) (GC : FnOk P w K mg base CX0 2 fC fdC ["value"] spAreC) (bC : Binds K fdC ["value"] []) (kC : PySem.W.keepIn K (.ref fC) = true) (gC : mg "are_counts" = some (.ref fC))
    (GS : FnOk P w K mg base CX0 2 fS fdS ["value", "many"] spAreS) (bS : Binds K fdS ["value", "many"] []) (kS : PySem.W.keepIn K (.ref fS) = true) (gS : mg "are_symbols" = some (.ref fS)) : FnOk P w K mg base CX0 3 f fd ["value"] spFault := by
  refine F.ok scFault (fun vs H Q E h => ?_) (fun cdv A outer s H vs Q E hr h => ?_)
  · obtain ⟨t, a, b, cs, ss, rfl, _⟩ := h
    rfl
  · obtain ⟨t, a, b, cs, ss, rfl, ht, ok, q⟩ := h
    have h1 := ht.top
    refine ⟨_, pss_cons (ps_if (PW.pt (pw_or (pt_not (pt_val (pe_callB call_isi (by rfl) T.isi bt_isi (pa_cons (pv 0) (pa_cons (pe_bltn (v := .ty "tuple") (by rfl) T.tup bt_tup rfl) pa_nil)))))
        (pw_or (pt_cmpR op_ne (pe_callB call_len_seq (by rfl) T.len bt_len (pa_cons (pv 0) pa_nil)) pe_int (nomark _))
        (pw_or1 (pt_not (pt_val (pe_callB (cr_all rfl) (by rfl) T.all bt_all (pa_cons (pe_lc (own := [("part", 1)]) (g := gName 1) (tt := tYes) rfl scFault.nd (pi_tup (pv 0))
            (blkOk_by (N := ["value", "part"]) (sc := defScope sFault) (by decide +kernel)) (fun _ _ _ _ _ => pg_name (i := 1) scFault.nd rfl (Or.inl rfl)) (fun _ _ _ _ _ => pts_nil)
            (fun _ _ _ _ _ => pe_callB (r := rIsi K) call_isi (by rfl) T.isi bt_isi (pa_cons (pv 1) (pa_cons (pe_bltn (v := .ty "tuple") (by rfl) T.tup bt_tup rfl) pa_nil)))) pa_nil))))))))
        (pss_one (ps_ret pe_str)) pss_nil)
      (pss_cons (ps_if (pt_not (pt_val (pe_call GC hr (by rfl) gC kC bC .nil pass0 (pa_cons (pe_ix ix_tup (pv 0) pe_int (fun _ _ => rfl)) pa_nil)))) (pss_one (ps_ret pe_str)) pss_nil)
      (pss_one (ps_ret (pe_ifExp (pt_val (pe_call GS hr (by rfl) gS kS bS .nil pass0 (pa_cons (pe_ix ix_tup (pv 0) pe_int (fun _ _ => rfl)) (pa_cons (pe_callB (cr_sumT rfl) (by rfl) T.sum bt_sum (pa_cons (pe_ix ix_tup (pv 0) pe_int (fun _ _ => rfl)) pa_nil)) pa_nil)))) pe_str pe_str)))), ?_⟩
    refine ⟨_, rfl, .ref t, .ty "tuple", .type "tuple", .type "tuple", true, rfl, .ty "tuple", .base (.tup h1), kit_ty (by decide +kernel), true, rfl, iteF ?_⟩
    refine ⟨_, rfl, t, _, rfl, .inr (SqT.of h1), rfl, _, rfl, iteF ?_⟩
    refine ⟨_, rfl, t, rfl, ⟨_, SqT.of h1⟩, fun D nD => lc_map (ys := (List.replicate 2 true).map V.bl) (plain_tup (SqT.of h1)) nD ?_ ?_ ?_ ?_⟩
    · rfl
    · show 2 ≤ sizeLine; decide
    · intro i x y H1 Q' ex ey sm q'
      match i with
      | 0 =>
        cases ex
        cases ey
        exact ⟨rfl, _, rfl, .ref a, .ty "tuple", .type "tuple", .type "tuple", true, rfl, .ty "tuple", .base (.tup (sm _ _ ht.cnt)), kit_ty (by decide +kernel), q' _ (Same.refl _)⟩
      | 1 =>
        cases ex
        cases ey
        exact ⟨rfl, _, rfl, .ref b, .ty "tuple", .type "tuple", .type "tuple", true, rfl, .ty "tuple", .base (.tup (sm _ _ ht.sym)), kit_ty (by decide +kernel), q' _ (Same.refl _)⟩
      | i + 2 => simp at ex
    · intro H1 sm eD
      refine ⟨D, List.replicate 2 true, rfl, SqL.of eD, _, rfl, iteF ?_⟩
      refine ⟨_, rfl, t, _, 0, .ref a, rfl, rfl, SqT.of (sm _ _ h1), atI_nat (j := 0) rfl, a, cs, rfl, sm _ _ ht.cnt, ok.cnt, ok.room, fun H2 sm2 => ⟨_, rfl, iteF ?_⟩⟩
      have s2 : Same H H2 := sm.trans sm2
      refine ⟨_, rfl, t, _, 1, .ref b, rfl, rfl, SqT.of (s2 _ _ h1), atI_nat (j := 1) rfl, _, rfl, t, _, 0, .ref a, rfl, rfl, SqT.of (s2 _ _ h1), atI_nat (j := 0) rfl, a, cs, rfl, SqT.of (s2 _ _ ht.cnt), ?_⟩
      refine ⟨b, ss, by rw [ok.sum]; rfl, s2 _ _ ht.sym, ok.sym, fun H3 sm3 => ⟨_, rfl, iteT ?_⟩⟩
      exact q _ (s2.trans sm3)
abbrev sIsTab : Stmt := topS 15
theorem scIsTab : FnScope ["value"] ["value"] (defScope sIsTab) := ⟨rfl, rfl, rfl, by decide +kernel, rfl, by decide +kernel, by decide +kernel⟩
def spIsTab : Sp := fun vs H Q _ => ∃ (t a b : Addr) (cs ss : List Int), vs = [.ref t] ∧ TabAt H t a b cs ss ∧ TabOk cs ss ∧ ∀ H', Same H H' → Q (.bl true) H'
theorem ok_isTab {f fF : Addr} {fd fdF : FuncData} (F : Fun K "is_table" "is_table" sIsTab f fd) (GF : FnOk P w K mg base CX0 3 fF fdF ["value"] spFault) (bF : Binds K fdF ["value"] []) (kF : PySem.W.keepIn K (.ref fF) = true) (gF : mg "table_fault" = some (.ref fF)) : FnOk P w K mg base CX0 4 f fd ["value"] spIsTab := by
  refine F.ok scIsTab (fun vs H Q E h => ?_) (fun cdv A outer s H vs Q E hr h => ?_)
  · obtain ⟨t, a, b, cs, ss, rfl, _⟩ := h
    rfl
  · obtain ⟨t, a, b, cs, ss, rfl, ht, ok, q⟩ := h
    refine ⟨_, pss_one (ps_ret (pe_cmpR op_eq (pe_call GF hr (by rfl) gF kF bF .nil pass0 (pa_cons (pv 0) pa_nil)) pe_str (nomark _))), ?_⟩
    refine ⟨_, rfl, t, a, b, cs, ss, rfl, ht, ok, fun H1 sm => ⟨rfl, ?_⟩⟩
    exact q _ sm
abbrev sChkT : Stmt := topS 16
theorem scChkT : FnScope ["table", "fault"] ["table"] (defScope sChkT) := ⟨rfl, rfl, rfl, by decide +kernel, rfl, by decide +kernel, by decide +kernel⟩
def spChkT : Sp := fun vs H Q _ => ∃ (t a b : Addr) (cs ss : List Int), vs = [.ref t] ∧ TabAt H t a b cs ss ∧ TabOk cs ss ∧ ∀ H', Same H H' → Q .non H'
theorem ok_chkT {f fF : Addr} {fd fdF : FuncData} (F : Fun K "check_table" "check_table" sChkT f fd) (GF : FnOk P w K mg base CX0 3 fF fdF ["value"] spFault) (bF : Binds K fdF ["value"] []) (kF : PySem.W.keepIn K (.ref fF) = true) (gF : mg "table_fault" = some (.ref fF)) : FnOk P w K mg base CX0 4 f fd ["table"] spChkT := by
  refine F.ok scChkT (fun vs H Q E h => ?_) (fun cdv A outer s H vs Q E hr h => ?_)
  · obtain ⟨t, a, b, cs, ss, rfl, _⟩ := h
    rfl
  · obtain ⟨t, a, b, cs, ss, rfl, ht, ok, q⟩ := h
    refine ⟨_, pss_cons (ps_set (i := 1) scChkT.nd rfl (.inl rfl) (pe_call GF hr (by rfl) gF kF bF .nil pass0 (pa_cons (pv 0) pa_nil)))
      (pss_one (ps_if (pt_cmpR op_ne (pv 1) pe_str (nomark _)) (pss_one ps_never) pss_nil)), ?_⟩
    refine ⟨_, rfl, t, a, b, cs, ss, rfl, ht, ok, fun H1 sm => ?_⟩
    refine ⟨_, rfl, rfl, _, rfl, iteF ?_⟩
    exact q _ sm
end
end K23
set_option Elab.async false
set_option linter.all false
set_option maxRecDepth 100000
set_option maxHeartbeats 4000000
namespace K23
open PySem PySem.Spec PyProof.Rows L2
/-! ### the lengths that counts tell -/
def expL : Nat → List Int → List Nat
  | _, [] => []
  | k, c :: cs => List.replicate c.toNat k ++ expL (k + 1) cs
def preN (cs : List Int) (i : Nat) : Nat := ((cs.take i).map Int.toNat).sum
theorem preN_succ {cs : List Int} {i : Nat} {c : Int} (h : cs[i]? = some c) : preN cs (i + 1) = preN cs i + c.toNat := by
  unfold preN
  rw [List.take_add_one, h]
  simp [List.sum_append]
theorem exp_at : ∀ (cs : List Int) (k i q : Nat) (c : Int), cs[i]? = some c → q < c.toNat → (expL k cs)[preN cs i + q]? = some (k + i)
  | [], _, _, _, _, h, _ => by simp at h
  | d :: cs, k, 0, q, c, h, hq => by
    have e : d = c := by simpa using h
    subst e
    show (List.replicate d.toNat k ++ expL (k + 1) cs)[preN (d :: cs) 0 + q]? = _
    have e0 : preN (d :: cs) 0 + q = q := by simp [preN]
    rw [e0, List.getElem?_append_left (by simpa using hq), List.getElem?_replicate]
    simp [hq]
  | d :: cs, k, i + 1, q, c, h, hq => by
    have ih := exp_at cs (k + 1) i q c (by simpa using h) hq
    show (List.replicate d.toNat k ++ expL (k + 1) cs)[preN (d :: cs) (i + 1) + q]? = _
    have e0 : preN (d :: cs) (i + 1) + q = d.toNat + (preN cs i + q) := by simp [preN]; omega
    rw [e0, List.getElem?_append_right (by simp), List.length_replicate, show d.toNat + (preN cs i + q) - d.toNat = preN cs i + q by omega, ih]
    congr 1
    omega
theorem exp_len : ∀ (cs : List Int) (k : Nat), (expL k cs).length = preN cs cs.length
  | [], _ => rfl
  | d :: cs, k => by
    have ih := exp_len cs (k + 1)
    show (List.replicate d.toNat k ++ expL (k + 1) cs).length = _
    rw [List.length_append, List.length_replicate, ih]
    simp [preN]
theorem preN_all {cs : List Int} (h : ∀ c ∈ cs, 0 ≤ c ∧ c ≤ 255) : (preN cs cs.length : Int) = cs.sum := by
  unfold preN
  rw [List.take_length]
  induction cs with
  | nil => rfl
  | cons c cs ih =>
    have h1 := h c List.mem_cons_self
    have h2 := ih fun x hx => h x (List.mem_cons_of_mem _ hx)
    rw [List.map_cons, List.sum_cons, List.sum_cons]
    omega
theorem preN_mono (cs : List Int) {i j : Nat} (h : i ≤ j) : preN cs i ≤ preN cs j := by
  unfold preN
  obtain ⟨k, rfl⟩ : ∃ k, j = i + k := ⟨j - i, by omega⟩
  rw [List.take_add, List.map_append, List.sum_append]
  exact Nat.le_add_right _ _
theorem preN_le_all (cs : List Int) (i : Nat) : preN cs i ≤ preN cs cs.length := by
  by_cases h : i ≤ cs.length
  · exact preN_mono cs h
  · unfold preN
    rw [List.take_of_length_le (by omega), List.take_length]
    exact Nat.le_refl _
section
variable {P : Program} {w : World} {K : PySem.W.Frag} {mg : Str → Option Value} {base : Heap}
/-! ### bits_as -/
abbrev sBits : Stmt := topS 17
theorem scBits : FnScope ["number", "length", "at"] ["number", "length"] (defScope sBits) := ⟨rfl, rfl, rfl, by decide +kernel, rfl, by decide +kernel, by decide +kernel⟩
def bitsL (n : Int) (l : Nat) : List V := (List.range l).map fun (i : Nat) => V.int (Builtin.bitAnd (n / 2 ^ ((l : Int) - 1 - (0 + (i : Int))).toNat) 1)
def spBits : Sp := fun vs H Q _ => ∃ (n : Int) (l : Nat), vs = [.int n, .int l] ∧ l ≤ 1000 ∧ ∀ H' p, Same H H' → H p = none → H' p = some (.tup (bitsL n l)) → Q (.ref p) H'
theorem ok_bits {f : Addr} {fd : FuncData} (F : Fun K "bits_as" "bits_as" sBits f fd) (T : Txt mg) : FnOk P w K mg base CX0 1 f fd ["number", "length"] spBits := by
  refine F.ok scBits (fun vs H Q E h => ?_) (fun cdv A outer s H vs Q E hr h => ?_)
  · obtain ⟨n, l, rfl, _⟩ := h
    rfl
  · obtain ⟨n, l, rfl, hl, q⟩ := h
    refine ⟨_, pss_one (ps_ret (pe_callTy call_tuple_of (by rfl) T.tup bt_tup (pa_cons (pe_lc (own := [("at", 2)]) (g := gName 2) (tt := tYes) rfl scBits.nd (pi_range1 (by rfl) T.range (pa_cons (pv 1) pa_nil))
      (blkOk_by (N := ["number", "length", "at"]) (sc := defScope sBits) (by decide +kernel)) (fun _ _ _ _ _ => pg_name (i := 2) scBits.nd rfl (Or.inl rfl)) (fun _ _ _ _ _ => pts_nil)
      (fun _ _ _ _ _ => pe_op op_and (pe_op op_shr (pv 0) (pe_op op_sub (pe_op op_sub (pv 1) pe_int) (pv 2))) pe_int)) pa_nil))), ?_⟩
    refine ⟨_, rfl, (l : Int), rfl, by omega, by omega, fun D nD => lc_map (ys := bitsL n l) plain_range nD ?_ ?_ ?_ ?_⟩
    · unfold bitsL; simp
    · simp only [List.length_map, List.length_range]; exact Nat.le_trans (by omega) (by decide : 1000 ≤ sizeLine)
    · intro i x y H1 Q' ex ey sm q'
      have hi : i < l := by
        have := (List.getElem?_eq_some_iff.mp ex).1
        simp only [List.length_map, List.length_range] at this
        omega
      rw [List.getElem?_map, List.getElem?_range (by omega)] at ex
      unfold bitsL at ey
      rw [List.getElem?_map, List.getElem?_range hi] at ey
      have ex' : V.int (0 + (i : Int)) = x := Option.some.inj ex
      have ey' := Option.some.inj ey
      subst ex' ey'
      refine ⟨rfl, _, rfl, _, rfl, _, _, rfl, rfl, _, rfl, _, _, rfl, rfl, _, _, rfl, rfl, ?_, _, _, rfl, rfl, ?_⟩
      · show 0 ≤ (l : Int) - 1 - (0 + (i : Int))
        omega
      · exact q' _ (Same.refl _)
    · intro H1 sm eD
      refine ⟨D, _, rfl, .inl ⟨SqL.of eD, fun p np => ?_⟩⟩
      exact q _ p (sm.trans (same_upd np)) (sm.free np) upd_same
/-! ### codes -/
abbrev sCodes : Stmt := topS 18
theorem scCodes : FnScope ["table", "found", "number", "at", "length", "count", "symbol"] ["table"] (defScope sCodes) := ⟨rfl, rfl, rfl, by decide +kernel, rfl, by decide +kernel, by decide +kernel⟩
theorem putK_le (c : List (Key × V)) (k : Key) (x : V) : (putK c k x).length ≤ c.length + 1 := by
  unfold putK
  split
  · rw [List.length_map]; exact Nat.le_succ _
  · rw [List.length_append]; exact Nat.le_refl _
/-- a part of a tuple, whether it is new or the whole -/
theorem rSlA_of {K : PySem.W.Frag} {H : Hp} {a : Addr} {xs : List V} {lo hi : Option Int} {Q : VK} (hS : SqT K H a xs) (key : ∀ r H4, Same H H4 → SqT K H4 r (cutV xs lo hi) → Q (.ref r) H4) : rSlA K (.ref a) lo hi H Q := by
  refine ⟨a, xs, rfl, hS, fun hw => ?_, fun _ p np => ?_⟩
  · refine key a H (Same.refl H) ?_
    have e : cutV xs lo hi = xs := by
      unfold cutV
      rw [hw.1, hw.2]
      simp
    rw [e]
    exact hS
  · exact key p _ (same_upd np) (SqT.of upd_same)
theorem cut_nat (xs : List V) (i j : Nat) (h : i + j ≤ xs.length) : cutV xs (some (i : Int)) (some ((i : Int) + (j : Int))) = (xs.drop i).take j := by
  unfold cutV
  have e : (i : Int) + (j : Int) = ((i + j : Nat) : Int) := by omega
  rw [e, HT.sIx_nat, HT.sIx_nat, Nat.min_eq_left h, Nat.min_eq_left (show i ≤ xs.length by omega), Nat.add_sub_cancel_left]
/-- the first n symbols have their codes -/
def CodesAt (H : Hp) (d : Addr) (ss : List Int) (ls : List Nat) (n : Nat) : Prop := ∃ kvs : List (Key × V), H d = some (.dK kvs) ∧ kvs.length ≤ n ∧ ∀ (p : Nat) (s : Int) (l : Nat), p < n → ss[p]? = some s → ls[p]? = some l →
  ∃ (q : Addr) (bs : List V), valV kvs (Sum.inl s) = some (.ref q) ∧ H q = some (.tup bs) ∧ bs.length = l
theorem CodesAt.same {H H' : Hp} {d : Addr} {ss : List Int} {ls : List Nat} {n : Nat} (h : CodesAt H d ss ls n) (s : Same H H') : CodesAt H' d ss ls n := by
  obtain ⟨kvs, e, hl, hp⟩ := h
  refine ⟨kvs, s _ _ e, hl, fun p sy l h1 h2 h3 => ?_⟩
  obtain ⟨q, bs, a, b, c⟩ := hp p sy l h1 h2 h3
  exact ⟨q, bs, a, s _ _ b, c⟩
theorem CodesAt.put {H : Hp} {d q : Addr} {ss : List Int} {ls : List Nat} {n : Nat} {sy : Int} {l : Nat} {bs : List V} {kvs : List (Key × V)} (hn : ss.Nodup) (e : H d = some (.dK kvs)) (hl : kvs.length ≤ n)
    (hp : ∀ (p : Nat) (s : Int) (l : Nat), p < n → ss[p]? = some s → ls[p]? = some l → ∃ (q : Addr) (bs : List V), valV kvs (Sum.inl s) = some (.ref q) ∧ H q = some (.tup bs) ∧ bs.length = l)
    (hs : ss[n]? = some sy) (hl2 : ls[n]? = some l) (hq : H q = some (.tup bs)) (hb : bs.length = l) : CodesAt (upd H d (.dK (putK kvs (Sum.inl sy) (.ref q)))) d ss ls (n + 1) := by
  have nd : ∀ {a : Addr} {xs : List V}, H a = some (.tup xs) → a ≠ d := fun {a xs} h => ne_of h e (by intro z; cases z)
  refine ⟨_, upd_same, Nat.le_trans (putK_le _ _ _) (Nat.succ_le_succ hl), fun p s l' h1 h2 h3 => ?_⟩
  rw [valV_put]
  by_cases hpn : p = n
  · subst hpn
    rw [hs] at h2
    rw [hl2] at h3
    cases h2
    cases h3
    exact ⟨q, bs, if_pos rfl, by rw [upd_ne (nd hq)]; exact hq, hb⟩
  · have hne : ¬ (Sum.inl s : Key) = Sum.inl sy := fun z => by
      have z' : s = sy := Sum.inl.inj z
      rw [z'] at h2
      exact hpn (nd_ix hn h2 hs)
    obtain ⟨q', bs', a, b, c⟩ := hp p s l' (by omega) h2 h3
    exact ⟨q', bs', by rw [if_neg hne]; exact a, by rw [upd_ne (nd b)]; exact b, c⟩
def spCodes : Sp := fun vs H Q _ => ∃ (t a b : Addr) (cs ss : List Int), vs = [.ref t] ∧ TabAt H t a b cs ss ∧ TabOk cs ss ∧ ∀ H' d, Same H H' → H d = none → CodesAt H' d ss (expL 1 cs) ss.length → Q (.ref d) H'
theorem ok_codes {f fC fB : Addr} {fd fdC fdB : FuncData} (F : Fun K "codes" "codes" sCodes f fd) (T : Txt mg) (GC : FnOk P w K mg base CX0 4 fC fdC ["table"] spChkT) (bC : Binds K fdC ["table"] []) (kC : PySem.W.keepIn K (.ref fC) = true) (gC : mg "check_table" = some (.ref fC))
    (GB : FnOk P w K mg base CX0 1 fB fdB ["number", "length"] spBits) (bB : Binds K fdB ["number", "length"] []) (kB : PySem.W.keepIn K (.ref fB) = true) (gB : mg "bits_as" = some (.ref fB)) : FnOk P w K mg base CX0 5 f fd ["table"] spCodes := by
  refine F.ok scCodes (fun vs H Q E h => ?_) (fun cdv A outer s H vs Q E hr h => ?_)
  · obtain ⟨t, a, b, cs, ss, rfl, _⟩ := h
    rfl
  · obtain ⟨t, a, b, cs, ss, rfl, ht, ok, q⟩ := h
    have hu := hu_of hr
    have hlen := ok.cnt.len
    have hsum : preN cs cs.length = ss.length := by
      have h1 := preN_all ok.cnt.rng
      have h2 := ok.sum
      omega
    refine ⟨_, pss_cons (ps_expr (pe_call GC hr (by rfl) gC kC bC .nil pass0 (pa_cons (pv 0) pa_nil)))
      (pss_cons (ps_par3 (i := 1) (j := 2) (l := 3) rfl scCodes.nd rfl rfl rfl (by decide) (by decide) (by decide) rfl rfl rfl (pa_cons pe_dnewK (pa_cons pe_int (pa_cons pe_int pa_nil))) rfl)
      (pss_cons (ps_for PassesOwn.never rfl (pi_enumTK (by rfl) T.enum (pa_cons (pe_ix ix_tup (pv 0) pe_int (fun _ _ => rfl)) pa_nil) (by decide) (by decide))
          (pg_tup rfl (pgs_cons (pg_name (i := 4) scCodes.nd rfl (.inl rfl)) (pgs_cons (pg_name (i := 5) scCodes.nd rfl (.inl rfl)) pgs_nil)))
          (pss_cons (ps_set (i := 2) scCodes.nd rfl (.inl rfl) (pe_op op_shl (pv 2) pe_int))
          (pss_cons (ps_for PassesOwn.never rfl (pi_tup (pe_slice sl_tupA (pe_ix ix_tup (pv 0) pe_int (fun _ _ => rfl)) (po_some (pv 3)) (po_some (pe_op op_add (pv 3) (pv 5))))) (pg_name (i := 6) scCodes.nd rfl (.inl rfl))
            (pss_cons (ps_dput hu (pv 1) (pv 6) (pe_call GB (hr.mono (by decide)) (by rfl) gB kB bB .nil pass0 (pa_cons (pv 2) (pa_cons (pv 4) pa_nil))) rfl)
            (pss_one (ps_aug (i := 2) scCodes.nd rfl (.inl rfl) pe_int ip_add))))
          (pss_one (ps_aug (i := 3) scCodes.nd rfl (.inl rfl) (pv 5) ip_add)))))
      (pss_one (ps_ret (pv 1))))), ?_⟩
    refine ⟨_, rfl, t, a, b, cs, ss, rfl, ht, ok, fun H1 sm1 => ?_⟩
    intro d nd
    refine ⟨_, _, _, rfl, ?_⟩
    have sm2 : Same H (upd H1 d (.dK [])) := sm1.trans (same_upd nd)
    have ndH : H d = none := sm1.free nd
    refine ⟨_, rfl, t, _, 0, .ref a, rfl, rfl, SqT.of (sm2 _ _ ht.top), atI_nat (j := 0) rfl, a, cs.map V.int, rfl, SqT.of (sm2 _ _ ht.cnt), ?_⟩
    refine for_itu (K := K) (a := a) (xs := cs.map V.int) (fun i σ H2 => ∃ (n : Int) (y4 y5 y6 : Option V), σ = [some (.ref t), some (.ref d), some (.int n), some (.int (preN cs i)), y4, y5, y6] ∧ 0 ≤ n ∧ n + 255 ≤ 255 * 2 ^ i ∧ Same H H2 ∧ CodesAt H2 d ss (expL 1 cs) (preN cs i))
      ⟨0, none, none, none, rfl, by decide, by decide, sm2, ⟨[], upd_same, Nat.zero_le _, fun p s l h1 => absurd h1 (by simp [preN])⟩⟩ (fun i σ H2 _ ⟨_, _, _, _, _, _, _, sm, _⟩ => SqT.of (sm _ _ ht.cnt)) ?_ ?_
    · rintro i x σ H2 U hx ⟨n, y4, y5, y6, rfl, hn0, hn1, sm, hc⟩ nU
      rw [List.getElem?_map] at hx
      obtain ⟨c, hc1, hc2⟩ := Option.map_eq_some_iff.mp hx
      subst hc2
      have hi : i < 16 := by
        have := (List.getElem?_eq_some_iff.mp hc1).1
        omega
      have hrc := ok.cnt.rng c (List.mem_of_getElem? hc1)
      have hpre := preN_succ hc1
      have hle : preN cs (i + 1) ≤ ss.length := by rw [← hsum]; exact preN_le_all cs (i + 1)
      have hsl := ok.sym.len
      have hpow : (2 : Int) ^ i ≤ 2 ^ 15 := by
        have : (2 : Nat) ^ i ≤ 2 ^ 15 := Nat.pow_le_pow_right (by decide) (by omega)
        exact_mod_cast this
      have smU : Same H2 (upd H2 U (.tup [.int (1 + (i : Int)), .int c])) := same_upd nU
      have s3 : Same H (upd H2 U (.tup [.int (1 + (i : Int)), .int c])) := sm.trans smU
      have hc3 := hc.same smU
      -- length, count
      refine ⟨U, _, rfl, SqT.of upd_same, rfl, _, _, rfl, _, _, rfl, rfl, ?_⟩
      -- number = number << 1
      refine ⟨_, rfl, n, 1, rfl, rfl, ⟨by decide, by decide, by omega⟩, ?_⟩
      -- the inner loop, over a tuple r of the symbols' part
      refine ⟨_, rfl, t, _, 1, .ref b, rfl, rfl, SqT.of (s3 _ _ ht.top), atI_nat (j := 1) rfl, _, rfl, (preN cs i : Int), rfl, _, rfl, _, rfl, preN cs i, c, rfl, rfl, _, rfl, rSlA_of (SqT.of (s3 _ _ ht.sym)) fun r H4 s4 hr4 => ?_⟩
      have ecut : cutV (ss.map V.int) (some (preN cs i : Int)) (some ((preN cs i : Int) + c)) = ((ss.drop (preN cs i)).take c.toNat).map V.int := by
        have e1 : c = ((c.toNat : Nat) : Int) := by omega
        have e2 := cut_nat (ss.map V.int) (preN cs i) c.toNat (by rw [List.length_map]; omega)
        rw [← e1] at e2
        rw [e2, List.map_take, List.map_drop]
      rw [ecut] at hr4
      refine ⟨r, rfl, ⟨_, hr4⟩, ?_⟩
      refine for_tup (K := K) (a := r) (xs := ((ss.drop (preN cs i)).take c.toNat).map V.int) (fun j σ H5 => ∃ y6 : Option V, σ = [some (.ref t), some (.ref d), some (.int (n * 2 + j)), some (.int (preN cs i)), some (.int (1 + (i : Int))), some (.int c), y6] ∧ Same H H5 ∧ SqT K H5 r (((ss.drop (preN cs i)).take c.toNat).map V.int) ∧ CodesAt H5 d ss (expL 1 cs) (preN cs i + j))
          ⟨y6, by simp, s3.trans s4, hr4, hc3.same s4⟩ (fun j σ H5 _ ⟨_, _, _, h, _⟩ => h) ?_ ?_
      · rintro j x σ H5 hx5 ⟨y6, rfl, sm5, hr5, hc5⟩
        rw [List.getElem?_map] at hx5
        obtain ⟨sy, hs1, hs2⟩ := Option.map_eq_some_iff.mp hx5
        subst hs2
        have hj : j < c.toNat := by
          have := (List.getElem?_eq_some_iff.mp hs1).1
          rw [List.length_take] at this
          omega
        have hsy : ss[preN cs i + j]? = some sy := by
          rw [List.getElem?_take, if_pos hj, List.getElem?_drop] at hs1
          exact hs1
        have hla : (expL 1 cs)[preN cs i + j]? = some (1 + i) := exp_at cs 1 i j c hc1 hj
        -- found[symbol] = bits_as(number, length)
        refine ⟨_, rfl, _, rfl, n * 2 + j, 1 + i, rfl, by omega, fun H6 p sm6 np ep => ?_⟩
        obtain ⟨kvs, ed, hkl, hkp⟩ := hc5.same sm6
        refine ⟨_, rfl, _, rfl, d, _, rfl, DPut.k (k := Sum.inl sy) ed ?_, ?_⟩
        · exact Nat.lt_of_le_of_lt hkl (small1000 (by omega))
        · -- number += 1
          refine ⟨_, rfl, _, _, rfl, rfl, some (.int sy), ?_, ?_, ?_, ?_⟩
          · show (_ : List (Option V)) = [some (.ref t), some (.ref d), some (.int (n * 2 + ((j + 1 : Nat) : Int))), some (.int (preN cs i)), some (.int (1 + (i : Int))), some (.int c), some (.int sy)]
            have e1 : n * 2 + ((j + 1 : Nat) : Int) = n * 2 + (j : Int) + 1 := by omega
            rw [e1]
            rfl
          · intro x o e
            rw [upd_ne (ne_of_none e ndH)]
            exact sm6 _ _ (sm5 _ _ e)
          · have := same_tup sm6 hr5
            rcases this with (h | ⟨o, h⟩) | h
            · exact .inl (.inl (by rw [upd_ne (ne_of h ed (by intro z; cases z))]; exact h))
            · exact .inl (.inr ⟨o, by rw [upd_ne (ne_of h ed (by intro z; cases z))]; exact h⟩)
            · exact .inr h
          · exact CodesAt.put ok.sym.nd ed hkl hkp hsy hla ep (by unfold bitsL; simp)
      · rintro σ H5 ⟨y6, rfl, sm5, hr5, hc5⟩
        have hl5 : (((ss.drop (preN cs i)).take c.toNat).map V.int).length = c.toNat := by
          rw [List.length_map, List.length_take, List.length_drop]
          omega
        rw [hl5] at hc5 ⊢
        -- at += count
        refine ⟨_, rfl, _, rfl, _, _, rfl, rfl, n * 2 + c, some (.int (1 + (i : Int))), some (.int c), y6, ?_, by omega, ?_, sm5, ?_⟩
        · have e1 : n * 2 + ((c.toNat : Nat) : Int) = n * 2 + c := by omega
          have e2 : ((preN cs (i + 1) : Nat) : Int) = (preN cs i : Int) + c := by omega
          rw [e1, e2]
          rfl
        · have e3 : (2 : Int) ^ (i + 1) = 2 ^ i * 2 := Int.pow_succ _ _
          omega
        · rw [hpre]; exact hc5
    · rintro σ H2 ⟨n, y4, y5, y6, rfl, hn0, hn1, sm, hc⟩
      rw [List.length_map] at hc
      rw [hsum] at hc
      exact ⟨_, rfl, q _ d sm ndH hc⟩
end
end K23
set_option Elab.async false
set_option linter.all false
set_option maxRecDepth 100000
set_option maxHeartbeats 4000000
namespace K23
open PySem PySem.Spec PyProof.Rows L2
/-- a def with its code object told, defaults or none -/
structure FunC (K : PySem.W.Frag) (x qual : Str) (st : Stmt) (c f : Addr) (fd : FuncData) : Prop where
  ex : ∃ (oc : Value) (od : Option Addr) (dV kV doc pm : Value) (an : Option Addr) (ct : Value) (osl : Array (Option Value)),
    fd = PySem.W.fnOf x qual (defArgs st) (defBody st) (defScope st) dV kV doc pm an (.ref c) ct ∧ K.lookup f = some ⟨oc, od, .func fd, osl⟩ ∧ PySem.W.codeIn K (.ref c) qual = true
theorem FunC.ok {P : Program} {w : World} {K : PySem.W.Frag} {mg : Str → Option Value} {base : Heap} {x qual : Str} {st : Stmt} {c f : Addr} {fd : FuncData} {N ps : List Str} {k : Nat} {sp : Sp} (F : FunC K x qual st c f fd) (S : FnScope N ps (defScope st)) (len : ∀ vs H Q E, sp vs H Q E → vs.length = ps.length)
    (hbody : ∀ (A : Around) (outer : List Env) (s : Shared) (H : Hp) (vs : List V) (Q : VK) (E : XK), Room k (A.deeper (envOfC qual (defScope st) s.heap.objs.size f (.ref c))) → sp vs H Q E →
      ∃ t, PSs (cxOf CX0 P w K mg base N qual (defScope st) f (.ref c) A outer s H E).nox (defBody st) t ∧ t { nx := fun _ H' => Q .non H', rt := Q } (start N vs) H) : FnOk P w K mg base CX0 (k + 1) f fd ps sp := by
  obtain ⟨oc, od, dV, kV, doc, pm, an, ct, osl, rfl, lk, hcd⟩ := F.ex
  refine fn_of lk hcd S len fun A outer s H vs Q E hr hsp => ?_
  obtain ⟨t, h, q⟩ := hbody A outer s H vs Q E hr hsp
  exact ⟨t, h.nox, q⟩
/-- what may change where tables of code objects fill -/
structure Ex (T : List (Addr × Str)) (H H' : Hp) : Prop where
  ext : LamX.ExtN H H'
  tab : LamX.Tabs T H → LamX.Tabs T H'
theorem Ex.refl {T : List (Addr × Str)} (H : Hp) : Ex T H H := ⟨.refl H, id⟩
theorem Ex.trans {T : List (Addr × Str)} {H H1 H2 : Hp} (a : Ex T H H1) (b : Ex T H1 H2) : Ex T H H2 := ⟨a.ext.trans b.ext, fun h => b.tab (a.tab h)⟩
theorem Ex.of {T : List (Addr × Str)} {H H' : Hp} (s : Same H H') : Ex T H H' := ⟨.of s, fun h => h.ext s⟩
theorem Ex.int {T : List (Addr × Str)} {H H' : Hp} (s : Ex T H H') {a : Addr} {o : HO} (h : H a = some o) (n : ∀ ps, o ≠ .tbl ps) : H' a = some o := s.ext _ _ h n
theorem Ex.tup {T : List (Addr × Str)} {H H' : Hp} (s : Ex T H H') {a : Addr} {xs : List V} (h : H a = some (.tup xs)) : H' a = some (.tup xs) := s.ext _ _ h fun _ z => nomatch z
theorem Ex.lst {T : List (Addr × Str)} {H H' : Hp} (s : Ex T H H') {a : Addr} {xs : List V} (h : H a = some (.lst xs)) : H' a = some (.lst xs) := s.ext _ _ h fun _ z => nomatch z
theorem Ex.dk {T : List (Addr × Str)} {H H' : Hp} (s : Ex T H H') {a : Addr} {kvs : List (Key × V)} (h : H a = some (.dK kvs)) : H' a = some (.dK kvs) := s.ext _ _ h fun _ z => nomatch z
theorem Ex.sqT {T : List (Addr × Str)} {K : PySem.W.Frag} {H H' : Hp} {a : Addr} {xs : List V} (e : Ex T H H') (h : SqT K H a xs) : SqT K H' a xs := by
  rcases h with (h | ⟨o, h⟩) | h
  · exact .inl (.inl (e.tup h))
  · exact .inl (.inr ⟨o, e.int h fun _ z => nomatch z⟩)
  · exact .inr h
theorem Ex.tabAt {T : List (Addr × Str)} {H H' : Hp} (s : Ex T H H') {t a b : Addr} {cs ss : List Int} (h : TabAt H t a b cs ss) : TabAt H' t a b cs ss := h.same fun b o e n => s.ext b o e n
theorem Ex.new {T : List (Addr × Str)} {H : Hp} {p : Addr} {o : HO} (h : H p = none) : Ex T H (upd H p o) := .of (same_upd h)
/-- a thing that was new is written -/
theorem Ex.write {T : List (Addr × Str)} {H H1 H2 : Hp} {d : Addr} {o o' : HO} (a : Ex T H H1) (n : H1 d = none) (b : Ex T H1 H2) (e : H2 d = some o) (ne : ∀ ps, o ≠ .tbl ps) (nc : ∀ c q, o ≠ LamX.CodeO c q) : Ex T H (upd H2 d o') := by
  refine ⟨fun x u hx hu => ?_, fun h p hp => ?_⟩
  · have h1 := a.ext x u hx hu
    have xd : x ≠ d := fun z => by rw [z, n] at h1; cases h1
    rw [upd_ne xd]
    exact b.ext x u h1 hu
  · obtain ⟨ps, e1, e2, e3⟩ := b.tab (a.tab h) p hp
    have nd : p.1 ≠ d := fun z => by
      rw [z, e] at e1
      exact ne ps (Option.some.inj e1)
    refine ⟨ps, by rw [upd_ne nd]; exact e1, e2, fun pos cv hc => ?_⟩
    obtain ⟨c, e4, e5⟩ := e3 pos cv hc
    have cd : c ≠ d := fun z => by
      rw [z, e] at e5
      exact nc _ _ (Option.some.inj e5)
    exact ⟨c, e4, by rw [upd_ne cd]; exact e5⟩
theorem alike_str (ks : List Int) : PySem.W.AllAlike (ks.map fun n : Int => PyData.str (toString n)) := PySem.W.AllAlike.of fun _ _ => rfl
theorem sortable_str (ks : List Int) : PySem.W.Sortable (ks.map fun n : Int => PyData.str (toString n)) := .inr fun d hd => by
  obtain ⟨x, _, rfl⟩ := List.mem_map.mp hd
  exact ⟨(fun z => nomatch z), fun _ z => nomatch z⟩
theorem alike_pair (wt : Int → Int) (ks : List Int) : PySem.W.AllAlike (ks.map fun n : Int => PyData.tuple [.int (-(wt n)), .int n]) := PySem.W.AllAlike.of fun _ _ => rfl
theorem sortable_pair (wt : Int → Int) (ks : List Int) : PySem.W.Sortable (ks.map fun n : Int => PyData.tuple [.int (-(wt n)), .int n]) := .inl fun d hd => by
  obtain ⟨x, _, rfl⟩ := List.mem_map.mp hd
  exact ⟨_, _, rfl⟩
theorem small_log2 {k : Int} (h0 : 0 ≤ k) (h : k ≤ 255) : k.natAbs.log2 < 1920 := by
  by_cases z : k.natAbs = 0
  · rw [z]; decide
  · exact (Nat.log2_lt z).mpr (Nat.lt_of_lt_of_le (show k.natAbs < 2 ^ 8 by omega) (Nat.pow_le_pow_right (by decide) (by decide)))
section
variable {P : Program} {w : World} {K : PySem.W.Frag} {mg : Str → Option Value} {base : Heap} {T : List (Addr × Str)}
/-! ### is_weight -/
abbrev sIsW : Stmt := topS 21
theorem scIsW : FnScope ["symbol", "weight"] ["symbol", "weight"] (defScope sIsW) := ⟨rfl, rfl, rfl, by decide +kernel, rfl, by decide +kernel, by decide +kernel⟩
def spIsW : Sp := fun vs H Q _ => ∃ i j : Int, vs = [.int i, .int j] ∧ (0 ≤ i ∧ i ≤ 255) ∧ (1 ≤ j ∧ j ≤ 1000000000000000000) ∧ Q (.bl true) H
theorem ok_isW {f fI : Addr} {fd fdI : FuncData} (F : Fun K "is_weight" "is_weight" sIsW f fd) (T : Txt mg) (FI : Fun K "is_integer" "is_integer" sIsInt fI fdI) (bI : Binds K fdI ["value", "low", "high"] []) (gI : mg "is_integer" = some (.ref fI)) : FnOk P w K mg base CX0 2 f fd ["symbol", "weight"] spIsW := by
  have GI : FnOk P w K mg base CX0 1 fI fdI ["value", "low", "high"] spIsInt := ok_isInt FI T
  refine F.ok scIsW (fun vs H Q E h => ?_) (fun cdv A outer s H vs Q E hr h => ?_)
  · obtain ⟨i, j, rfl, _⟩ := h
    rfl
  · obtain ⟨i, j, rfl, h1, h2, q⟩ := h
    obtain ⟨tM, gM⟩ := T.mostW
    refine ⟨_, pss_one (ps_ret (pe_and (pe_call GI hr (by rfl) gI FI.kp bI .nil pass0 (pa_cons (pv 0) (pa_cons pe_int (pa_cons pe_int pa_nil))))
      (pe_one (pe_call GI hr (by rfl) gI FI.kp bI .nil pass0 (pa_cons (pv 1) (pa_cons pe_int (pa_cons (pe_glob (v := .int 1000000000000000000) rfl gM ⟨_, rfl⟩) pa_nil))))))), ?_⟩
    refine ⟨_, rfl, i, 0, 255, rfl, ?_⟩
    rw [decide_eq_true h1.1, decide_eq_true h1.2]
    refine ⟨_, rfl, iteT ⟨_, rfl, j, 1, 1000000000000000000, rfl, ?_⟩⟩
    rw [decide_eq_true h2.1, decide_eq_true h2.2]
    exact q
/-! ### check_weights -/
abbrev sChkW : Stmt := topS 22
theorem scChkW : FnScope ["weights", "key"] ["weights"] (defScope sChkW) := ⟨rfl, rfl, rfl, by decide +kernel, rfl, by decide +kernel, by decide +kernel⟩
theorem lpChk : LamP (defScope sChkW) { kind := ScopeKind.function, names := [("one", NameKind.local), ("repr", NameKind.globalImplicit)], isGenerator := false, isCoroutine := false } "one" := ⟨rfl, rfl, rfl, by decide +kernel, rfl, by decide +kernel⟩
def spChkW (T : List (Addr × Str)) : Sp := fun vs H Q _ => ∃ (a : Addr) (ws : List (Int × Int)), vs = [.ref a] ∧ H a = some (.dK (wK ws)) ∧ WOk ws ∧ LamX.Tabs T H ∧ ∀ H', Ex T H H' → Q .non H'
theorem ok_chkW {f c P1 fW : Addr} {fd fdW : FuncData} (F : FunC K "check_weights" "check_weights" sChkW c f fd) (X : Txt mg) (TB : LamX.TabB base mg c P1) (hmT : (P1, ("check_weights.<locals>.<lambda>" : Str)) ∈ T) (huT : ∀ q ∈ T, q.1 = P1 → q.2 = "check_weights.<locals>.<lambda>")
    (GW : FnOk P w K mg base CX0 2 fW fdW ["symbol", "weight"] spIsW) (bW : Binds K fdW ["symbol", "weight"] []) (kW : PySem.W.keepIn K (.ref fW) = true) (gW : mg "is_weight" = some (.ref fW)) : FnOk P w K mg base CX0 3 f fd ["weights"] (spChkW T) := by
  refine F.ok scChkW (fun vs H Q E h => ?_) (fun A outer s H vs Q E hr h => ?_)
  · obtain ⟨a, ws, rfl, _⟩ := h
    rfl
  · obtain ⟨a, ws, rfl, ha, ok, hT, q⟩ := h
    have hu := hu_of hr
    have hd5 : (A.deeper (envOfC "check_weights" (defScope sChkW) s.heap.objs.size f (.ref c))).depth + 5 < recursionLimit := by have := hr.dp; omega
    have hu2 : (A.deeper (envOfC "check_weights" (defScope sChkW) s.heap.objs.size f (.ref c))).units + 2 + 0 < cLine := by have := hr.units; omega
    refine ⟨_, pss_cons (ps_if (pt_not (pt_val (pe_callB call_isi (by rfl) X.isi bt_isi (pa_cons (pv 0) (pa_cons (pe_bltn (v := .ty "dict") (by rfl) X.dict bt_dict rfl) pa_nil))))) (pss_one ps_never) pss_nil)
      (pss_one (ps_for PassesOwn.never rfl (pi_list (pe_sortedLam (T := T) (kd := fun n : Int => .str (toString n)) (RD := fun _ _ _ ks => ∀ k ∈ ks, k.natAbs.log2 < 1920) (pr := "one") rfl rfl X.sorted (pa_cons (pv 0) pa_nil) TB rfl hmT huT rfl
          lpChk alike_str sortable_str (fun x => hu2) (fun pins σ H a ks rd => lam_repr lpChk hd5 rd rfl X.repr (by decide) (fun _ _ _ _ _ => rfl)) (fun _ _ _ _ _ rd _ => rd)))
        (pg_name (i := 1) scChkW.nd rfl (.inl rfl))
        (pss_one (ps_if (pt_not (pt_val (pe_call GW hr (by rfl) gW kW bW .nil pass0 (pa_cons (pv 1) (pa_cons (pe_dget hu (pv 0) (pv 1) (fun _ _ => rfl)) pa_nil))))) (pss_one ps_never) pss_nil)))), ?_⟩
    · refine ⟨_, rfl, .ref a, .ty "dict", .type "dict", .type "dict", true, rfl, .ty "dict", .base (.dK ha), kit_ty (by decide +kernel), true, rfl, iteF ?_⟩
      refine ⟨_, rfl, a, wK ws, ws.map (·.1), rfl, ha, wK_keys ws, fun k hk => ?_, hT, fun H2 e2 t2 p np => ?_⟩
      · obtain ⟨p, hp, rfl⟩ := List.mem_map.mp hk
        exact small_log2 (ok.key p hp).1 (ok.key p hp).2
      · have ex2 : Ex T H H2 := ⟨e2, fun _ => t2⟩
        have smp : Same H2 (upd H2 p (.lst (((ws.map (·.1)).mergeSort (PySem.W.dataLe false fun n : Int => .str (toString n))).map V.int))) := same_upd np
        refine ⟨p, rfl, ⟨_, SqL.of upd_same⟩, ?_⟩
        refine for_list (K := K) (a := p) (xs := ((ws.map (·.1)).mergeSort (PySem.W.dataLe false fun n : Int => .str (toString n))).map V.int) (fun i σ H3 => ∃ y : Option V, σ = [some (.ref a), y] ∧ Same (upd H2 p (.lst (((ws.map (·.1)).mergeSort (PySem.W.dataLe false fun n : Int => .str (toString n))).map V.int))) H3) ⟨none, rfl, Same.refl _⟩ (fun i σ H3 _ ⟨y, e, sm⟩ => sm.seq (SqL.of upd_same)) ?_ ?_
        · rintro i x σ H3 hx ⟨y, rfl, sm⟩
          rw [List.getElem?_map] at hx
          obtain ⟨k, hk1, hk2⟩ := Option.map_eq_some_iff.mp hx
          subst hk2
          have hm : k ∈ ws.map (·.1) := (List.mergeSort_perm _ _).subset (List.mem_of_getElem? hk1)
          obtain ⟨pr, hp, rfl⟩ := List.mem_map.mp hm
          have e3 : H3 a = some (.dK (wK ws)) := sm _ _ (smp _ _ (ex2.dk ha))
          refine ⟨_, rfl, _, rfl, _, rfl, a, V.int pr.2, rfl, .inl ⟨wK ws, Sum.inl pr.1, .inl e3, rfl, (valV_nd ok.nd pr hp).symm⟩, ?_⟩
          refine ⟨pr.1, pr.2, rfl, ok.key pr hp, ok.wt pr hp, _, rfl, iteF ?_⟩
          exact ⟨_, rfl, sm⟩
        · rintro σ H3 ⟨y, rfl, sm⟩
          exact q _ (ex2.trans (.of (smp.trans sm)))
/-! ### check_limit, check_room, check_all -/
abbrev sChkL : Stmt := topS 23
theorem scChkL : FnScope ["limit"] ["limit"] (defScope sChkL) := ⟨rfl, rfl, rfl, by decide +kernel, rfl, by decide +kernel, by decide +kernel⟩
def spChkL : Sp := fun vs H Q _ => ∃ L : Nat, vs = [.int L] ∧ (1 ≤ L ∧ L ≤ 16) ∧ Q .non H
theorem ok_chkL {f fI : Addr} {fd fdI : FuncData} (F : Fun K "check_limit" "check_limit" sChkL f fd) (X : Txt mg) (FI : Fun K "is_integer" "is_integer" sIsInt fI fdI) (bI : Binds K fdI ["value", "low", "high"] []) (gI : mg "is_integer" = some (.ref fI)) : FnOk P w K mg base CX0 2 f fd ["limit"] spChkL := by
  have GI : FnOk P w K mg base CX0 1 fI fdI ["value", "low", "high"] spIsInt := ok_isInt FI X
  refine F.ok scChkL (fun vs H Q E h => ?_) (fun cdv A outer s H vs Q E hr h => ?_)
  · obtain ⟨L, rfl, _⟩ := h
    rfl
  · obtain ⟨L, rfl, h1, q⟩ := h
    obtain ⟨tL, gL⟩ := X.longest
    refine ⟨_, pss_one (ps_if (pt_not (pt_val (pe_call GI hr (by rfl) gI FI.kp bI .nil pass0 (pa_cons (pv 0) (pa_cons pe_int (pa_cons (pe_glob (v := .int 16) rfl gL ⟨_, rfl⟩) pa_nil)))))) (pss_one ps_never) pss_nil), ?_⟩
    refine ⟨_, rfl, L, 1, 16, rfl, ?_⟩
    rw [decide_eq_true (show (1 : Int) ≤ (L : Int) by omega), decide_eq_true (show (L : Int) ≤ 16 by omega)]
    exact ⟨_, rfl, iteF q⟩
abbrev sChkR : Stmt := topS 24
theorem scChkR : FnScope ["weights", "limit"] ["weights", "limit"] (defScope sChkR) := ⟨rfl, rfl, rfl, by decide +kernel, rfl, by decide +kernel, by decide +kernel⟩
def spChkR : Sp := fun vs H Q _ => ∃ (a : Addr) (ws : List (Int × Int)) (L : Nat), vs = [.ref a, .int L] ∧ H a = some (.dK (wK ws)) ∧ L ≤ 16 ∧ ws.length < 2 ^ L ∧ Q .non H
theorem ok_chkR {f : Addr} {fd : FuncData} (F : Fun K "check_room" "check_room" sChkR f fd) (X : Txt mg) : FnOk P w K mg base CX0 1 f fd ["weights", "limit"] spChkR := by
  refine F.ok scChkR (fun vs H Q E h => ?_) (fun cdv A outer s H vs Q E hr h => ?_)
  · obtain ⟨a, ws, L, rfl, _⟩ := h
    rfl
  · obtain ⟨a, ws, L, rfl, ha, h1, h2, q⟩ := h
    refine ⟨_, pss_one (ps_if (pt_cmpR op_ge (pe_callB call_lenD (by rfl) X.len bt_len (pa_cons (pv 0) pa_nil)) (pe_op op_shl pe_int (pv 1)) (nomark _)) (pss_one ps_never) pss_nil), ?_⟩
    refine ⟨_, rfl, a, wK ws, rfl, ha, _, rfl, 1, (L : Int), rfl, rfl, ⟨by omega, by omega, by decide⟩, _, _, rfl, rfl, ?_⟩
    have e : ¬ ((1 : Int) * 2 ^ (L : Int).toNat ≤ ((wK ws).length : Int)) := by
      rw [wK_len, Int.toNat_natCast]
      have : ((2 : Int) ^ L) = ((2 ^ L : Nat) : Int) := by simp
      omega
    refine ⟨_, rfl, ?_⟩
    rw [decide_eq_false e]
    exact iteF q
abbrev sChkA : Stmt := topS 25
theorem scChkA : FnScope ["weights", "limit"] ["weights", "limit"] (defScope sChkA) := ⟨rfl, rfl, rfl, by decide +kernel, rfl, by decide +kernel, by decide +kernel⟩
def spChkA (T : List (Addr × Str)) : Sp := fun vs H Q _ => ∃ (a : Addr) (ws : List (Int × Int)) (L : Nat), vs = [.ref a, .int L] ∧ H a = some (.dK (wK ws)) ∧ WOk ws ∧ (1 ≤ L ∧ L ≤ 16) ∧ ws.length < 2 ^ L ∧ LamX.Tabs T H ∧ ∀ H', Ex T H H' → Q .non H'
theorem ok_chkA {f fW fL fR : Addr} {fd fdW fdL fdR : FuncData} (F : Fun K "check_all" "check_all" sChkA f fd)
    (GW : FnOk P w K mg base CX0 3 fW fdW ["weights"] (spChkW T)) (bW : Binds K fdW ["weights"] []) (kW : PySem.W.keepIn K (.ref fW) = true) (gW : mg "check_weights" = some (.ref fW))
    (GL : FnOk P w K mg base CX0 2 fL fdL ["limit"] spChkL) (bL : Binds K fdL ["limit"] []) (kL : PySem.W.keepIn K (.ref fL) = true) (gL : mg "check_limit" = some (.ref fL))
    (GR : FnOk P w K mg base CX0 1 fR fdR ["weights", "limit"] spChkR) (bR : Binds K fdR ["weights", "limit"] []) (kR : PySem.W.keepIn K (.ref fR) = true) (gR : mg "check_room" = some (.ref fR)) : FnOk P w K mg base CX0 4 f fd ["weights", "limit"] (spChkA T) := by
  refine F.ok scChkA (fun vs H Q E h => ?_) (fun cdv A outer s H vs Q E hr h => ?_)
  · obtain ⟨a, ws, L, rfl, _⟩ := h
    rfl
  · obtain ⟨a, ws, L, rfl, ha, ok, h1, h2, hT, q⟩ := h
    refine ⟨_, pss_cons (ps_expr (pe_call GW hr (by rfl) gW kW bW .nil pass0 (pa_cons (pv 0) pa_nil)))
      (pss_cons (ps_expr (pe_call GL (hr.mono (by decide)) (by rfl) gL kL bL .nil pass0 (pa_cons (pv 1) pa_nil)))
      (pss_one (ps_expr (pe_call GR (hr.mono (by decide)) (by rfl) gR kR bR .nil pass0 (pa_cons (pv 0) (pa_cons (pv 1) pa_nil)))))), ?_⟩
    refine ⟨_, rfl, a, ws, rfl, ha, ok, hT, fun H1 x1 => ?_⟩
    refine ⟨_, rfl, L, rfl, h1, ?_⟩
    refine ⟨_, rfl, _, rfl, a, ws, L, rfl, x1.dk ha, h1.2, h2, ?_⟩
    exact q _ x1
end
end K23
set_option Elab.async false
set_option linter.all false
set_option maxRecDepth 100000
set_option maxHeartbeats 4000000
namespace K23
open PySem PySem.Spec PyProof.Rows L2
/-- the coins -/
def cC (ws : List (Int × Int)) : List Int := K23M.isort (0 :: ws.map (·.2))
theorem cC_len (ws : List (Int × Int)) : (cC ws).length = ws.length + 1 := by
  unfold cC
  rw [K23M.isort_length, List.length_cons, List.length_map]
theorem cC_sorted (ws : List (Int × Int)) : K23M.Sorted (cC ws) := K23M.isort_sorted _
theorem row_short {C : List Int} {n : Nat} (h : C.length = n + 1) : ∀ k, (K23M.row C k).length ≤ 2 * n + 2
  | 0 => by show 0 ≤ _; omega
  | k + 1 => by
    have ih := row_short h k
    rw [K23M.row_length]
    omega
theorem size2 (n : Nat) : Builtin.Range.rangeSize 0 ((n : Int) - 1) 2 = ((n / 2 : Nat) : Int) := by
  unfold Builtin.Range.rangeSize
  simp only [show (2 : Int) > 0 by decide, if_true]
  split <;> omega
theorem rg2 {n : Nat} (h : n ≤ 1000) : RgC 0 ((n : Int) - 1) 2 (n / 2) := by
  refine ⟨by decide, by decide, ?_, size2 n⟩
  unfold Builtin.Range.small
  rw [size2]
  simp only [Builtin.Range.rangeFitsLong, Bool.and_eq_true, Bool.or_eq_true, decide_eq_true_eq, beq_iff_eq, show (2 : Int) > 0 by decide, if_true]
  omega
section
variable {P : Program} {w : World} {K : PySem.W.Frag} {mg : Str → Option Value} {base : Heap} {T : List (Addr × Str)}
/-! ### coins_of -/
abbrev sCoins : Stmt := topS 26
theorem scCoins : FnScope ["weights", "symbol"] ["weights"] (defScope sCoins) := ⟨rfl, rfl, rfl, by decide +kernel, rfl, by decide +kernel, by decide +kernel⟩
def spCoins : Sp := fun vs H Q _ => ∃ (a : Addr) (ws : List (Int × Int)), vs = [.ref a] ∧ H a = some (.dK (wK ws)) ∧ WOk ws ∧ ∀ H' p, Same H H' → H p = none → H' p = some (.lst ((cC ws).map V.int)) → Q (.ref p) H'
theorem wK_at {ws : List (Int × Int)} {i : Nat} {x : V} (h : ((wK ws).map fun kv => kV kv.1)[i]? = some x) : ∃ p, ws[i]? = some p ∧ x = V.int p.1 := by
  unfold wK at h
  rw [List.map_map, List.getElem?_map] at h
  obtain ⟨p, h1, h2⟩ := Option.map_eq_some_iff.mp h
  exact ⟨p, h1, h2.symm⟩
theorem ok_coins {f : Addr} {fd : FuncData} (F : Fun K "coins_of" "coins_of" sCoins f fd) (X : Txt mg) : FnOk P w K mg base CX0 1 f fd ["weights"] spCoins := by
  refine F.ok scCoins (fun vs H Q E h => ?_) (fun cdv A outer s H vs Q E hr h => ?_)
  · obtain ⟨a, ws, rfl, _⟩ := h
    rfl
  · obtain ⟨a, ws, rfl, ha, ok, q⟩ := h
    have hu := hu_of hr
    have hlen := ok.len
    refine ⟨_, pss_one (ps_ret (pe_callB cr_sortedI (by rfl) X.sorted bt_sorted (pa_cons (pe_op op_cat (pe_lst (pa_cons pe_int pa_nil)) (pe_lock (pe_lc (own := [("symbol", 1)]) (g := gName 1) (tt := tYes) rfl scCoins.nd (pi_keys (pv 0))
        (blkOk_by (N := ["weights", "symbol"]) (sc := defScope sCoins) (by decide +kernel)) (fun _ _ _ _ _ => pg_name (i := 1) scCoins.nd rfl (Or.inl rfl)) (fun _ _ _ _ _ => pts_nil)
        (fun _ _ _ _ _ => pe_dget hu (pv 0) (pv 1) (fun _ _ => rfl))))) pa_nil))), ?_⟩
    refine ⟨by show 1 ≤ sizeLine; decide, fun D0 n0 => ?_⟩
    have s0 : Same H (upd H D0 (.lst [.int 0])) := same_upd n0
    refine ⟨a, _, s0 _ _ ha, trivial, fun od => ?_⟩
    refine ⟨_, rfl, a, od, rfl, .inl ⟨wK ws, upd_same, fun D nD => lc_map (ys := (ws.map (·.2)).map V.int) (plain_keys upd_same) nD ?_ ?_ ?_ ?_⟩⟩
    · rw [List.length_map, List.length_map, List.length_map, wK_len]
    · rw [List.length_map, wK_len]; exact Nat.le_trans hlen (by decide)
    · intro i x y H1 Q' ex ey sm q'
      obtain ⟨p, hp, rfl⟩ := wK_at ex
      rw [List.getElem?_map, List.getElem?_map, hp] at ey
      have ey' : V.int p.2 = y := Option.some.inj ey
      subst ey'
      refine ⟨rfl, _, rfl, _, rfl, a, V.int p.2, rfl, .inl ⟨wK ws, Sum.inl p.1, .inr ⟨od, sm _ _ upd_same⟩, rfl, (valV_nd ok.nd p (List.mem_of_getElem? hp)).symm⟩, q' _ (Same.refl _)⟩
    · intro H1 sm eD
      have hl1 : H1 a = some (.frz od (.dK (wK ws))) := same_locked sm
      have s1 : Same (upd H D0 (.lst [.int 0])) (upd H1 a (.dK (wK ws))) := same_unlock sm (s0 _ _ ha)
      have nDa : D ≠ a := fun z => by rw [z, upd_same] at nD; cases nD
      have eD1 : upd H1 a (.dK (wK ws)) D = some (.lst ((ws.map (·.2)).map V.int)) := by rw [upd_ne nDa]; exact eD
      refine ⟨hl1, D0, D, [.int 0], _, rfl, rfl, s1 _ _ upd_same, eD1, ?_, fun p np => ?_⟩
      · rw [List.length_map, List.length_map]
        exact Nat.le_trans (show 1 + ws.length ≤ 1000 by omega) (by decide)
      · refine ⟨p, 0 :: ws.map (·.2), rfl, SqL.of upd_same, fun ns' p2 hp hs np2 => ?_⟩
        have s2 := (s0.trans s1).trans (same_upd (o := .lst ([V.int 0] ++ (ws.map (·.2)).map V.int)) np)
        have e := K23M.isort_eq hp hs
        refine q _ p2 (s2.trans (same_upd np2)) (s2.free np2) ?_
        rw [upd_same, e]
        rfl
/-! ### pairs_of -/
abbrev sPairs : Stmt := topS 27
theorem scPairs : FnScope ["row", "at"] ["row"] (defScope sPairs) := ⟨rfl, rfl, rfl, by decide +kernel, rfl, by decide +kernel, by decide +kernel⟩
def spPairs : Sp := fun vs H Q _ => ∃ (a : Addr) (r : List Int), vs = [.ref a] ∧ H a = some (.lst (r.map V.int)) ∧ r.length ≤ 1000 ∧ ∀ H' p, Same H H' → H p = none → H' p = some (.lst ((K23M.pairs r).map V.int)) → Q (.ref p) H'
theorem ok_pairs {f : Addr} {fd : FuncData} (F : Fun K "pairs_of" "pairs_of" sPairs f fd) (X : Txt mg) : FnOk P w K mg base CX0 1 f fd ["row"] spPairs := by
  refine F.ok scPairs (fun vs H Q E h => ?_) (fun cdv A outer s H vs Q E hr h => ?_)
  · obtain ⟨a, r, rfl, _⟩ := h
    rfl
  · obtain ⟨a, r, rfl, ha, hl, q⟩ := h
    refine ⟨_, pss_one (ps_ret (pe_lc (own := [("at", 1)]) (g := gName 1) (tt := tYes) rfl scPairs.nd (pi_range3 (by rfl) X.range (pa_cons pe_int (pa_cons (pe_op op_sub (pe_callB call_len_seq (by rfl) X.len bt_len (pa_cons (pv 0) pa_nil)) pe_int) (pa_cons pe_int pa_nil))))
        (blkOk_by (N := ["row", "at"]) (sc := defScope sPairs) (by decide +kernel)) (fun _ _ _ _ _ => pg_name (i := 1) scPairs.nd rfl (Or.inl rfl)) (fun _ _ _ _ _ => pts_nil)
        (fun _ _ _ _ _ => pe_op op_add (pe_ix (r := rIxL K) ix_list (pv 0) (pv 1) (fun _ _ => rfl)) (pe_ix (r := rIxL K) ix_list (pv 0) (pe_op op_add (pv 1) pe_int) (fun _ _ => rfl))))), ?_⟩
    have hlm : ((r.map V.int).length : Int) = (r.length : Int) := by rw [List.length_map]
    refine ⟨_, rfl, a, _, rfl, .inl (SqL.of ha), _, _, rfl, rfl, 0, _, 2, r.length / 2, rfl, by rw [hlm]; exact rg2 hl, fun D nD => lc_map (ys := (K23M.pairs r).map V.int) plain_rangeC nD ?_ ?_ ?_ ?_⟩
    · rw [List.length_map, List.length_map, List.length_range, K23M.pairs_length]
    · simp only [List.length_map, List.length_range]; exact Nat.le_trans (show r.length / 2 ≤ 1000 by omega) (by decide)
    · intro i x y H1 Q' ex ey sm q'
      have hi : i < r.length / 2 := by
        have := (List.getElem?_eq_some_iff.mp ex).1
        simpa only [List.length_map, List.length_range] using this
      rw [List.getElem?_map, List.getElem?_range hi] at ex
      have ex' : V.int (0 + (i : Int) * 2) = x := Option.some.inj ex
      subst ex'
      have g1 : r[2 * i]? = some r[2 * i] := List.getElem?_eq_getElem (by omega)
      have g2 : r[2 * i + 1]? = some r[2 * i + 1] := List.getElem?_eq_getElem (by omega)
      rw [List.getElem?_map, K23M.pairs_get r i g1 g2] at ey
      have ey' := Option.some.inj ey
      subst ey'
      have e1 : 0 + (i : Int) * 2 = ((2 * i : Nat) : Int) := by omega
      have e2 : 0 + (i : Int) * 2 + 1 = ((2 * i + 1 : Nat) : Int) := by omega
      refine ⟨rfl, _, rfl, _, rfl, a, _, _, V.int r[2 * i], rfl, rfl, SqL.of (sm _ _ ha), ?_, ?_⟩
      · rw [e1]; exact atI_nat (by rw [List.getElem?_map, g1]; rfl)
      · refine ⟨_, rfl, _, rfl, _, _, rfl, rfl, a, _, _, V.int r[2 * i + 1], rfl, rfl, SqL.of (sm _ _ ha), ?_, ?_⟩
        · rw [e2]; exact atI_nat (by rw [List.getElem?_map, g2]; rfl)
        · exact ⟨_, _, rfl, rfl, q' _ (Same.refl _)⟩
    · intro H1 sm eD
      exact q _ D sm nD eD
/-! ### rows_of -/
abbrev sRows : Stmt := topS 28
theorem scRows : FnScope ["weights", "limit", "coins", "found"] ["weights", "limit"] (defScope sRows) := ⟨rfl, rfl, rfl, by decide +kernel, rfl, by decide +kernel, by decide +kernel⟩
/-- the rows, the uppermost first -/
def RowsAt (H : Hp) (g : Addr) (C : List Int) (L : Nat) : Prop := ∃ rs : List Addr, H g = some (.lst (rs.map V.ref)) ∧ rs.length = L ∧ ∀ (i : Nat) (r : Addr), rs[i]? = some r → H r = some (.lst ((K23M.row C (L - i)).map V.int))
theorem RowsAt.same {H H' : Hp} {g : Addr} {C : List Int} {L : Nat} (h : RowsAt H g C L) (s : Same H H') : RowsAt H' g C L := by
  obtain ⟨rs, e, l, r⟩ := h
  exact ⟨rs, s _ _ e, l, fun i x hx => s _ _ (r i x hx)⟩
def spRows : Sp := fun vs H Q _ => ∃ (a : Addr) (ws : List (Int × Int)) (L : Nat), vs = [.ref a, .int L] ∧ H a = some (.dK (wK ws)) ∧ WOk ws ∧ (1 ≤ L ∧ L ≤ 16) ∧ ∀ H' p, Same H H' → H p = none → RowsAt H' p (cC ws) L → Q (.ref p) H'
theorem ok_rows {f fC fP : Addr} {fd fdC fdP : FuncData} (F : Fun K "rows_of" "rows_of" sRows f fd) (X : Txt mg) (GC : FnOk P w K mg base CX0 1 fC fdC ["weights"] spCoins) (bC : Binds K fdC ["weights"] []) (kC : PySem.W.keepIn K (.ref fC) = true) (gC : mg "coins_of" = some (.ref fC))
    (GP : FnOk P w K mg base CX0 1 fP fdP ["row"] spPairs) (bP : Binds K fdP ["row"] []) (kP : PySem.W.keepIn K (.ref fP) = true) (gP : mg "pairs_of" = some (.ref fP)) : FnOk P w K mg base CX0 2 f fd ["weights", "limit"] spRows := by
  refine F.ok scRows (fun vs H Q E h => ?_) (fun cdv A outer s H vs Q E hr h => ?_)
  · obtain ⟨a, ws, L, rfl, _⟩ := h
    rfl
  · obtain ⟨a, ws, L, rfl, ha, ok, hL, q⟩ := h
    have hlen := ok.len
    have hcl := cC_len ws
    refine ⟨_, pss_cons (ps_set (i := 2) scRows.nd rfl (Or.inl rfl) (pe_call GC hr (by rfl) gC kC bC .nil pass0 (pa_cons (pv 0) pa_nil)))
      (pss_cons (ps_set (i := 3) scRows.nd rfl (Or.inl rfl) (pe_lst (pa_cons (pv 2) pa_nil)))
      (pss_cons (ps_while PassesOwn.never (pt_cmpR op_lt (pe_callB call_len_seq (by rfl) X.len bt_len (pa_cons (pv 3) pa_nil)) (pv 1) (nomark _))
        (pss_one (ps_expr (pe_bm PySem.F.plainAttrs_list PySem.F.slot_list_append PySem.F.type_list_append mt_append (pv 3)
          (pa_cons (pe_callB cr_sortedI (by rfl) X.sorted bt_sorted (pa_cons (pe_op op_cat (pv 2) (pe_call GP hr (by rfl) gP kP bP .nil pass0 (pa_cons (pe_ix ix_list (pv 3) (pe_un un_neg pe_int) (fun _ _ => rfl)) pa_nil))) pa_nil)) pa_nil)))))
      (pss_one (ps_ret (pe_revL (pv 3)))))), ?_⟩
    refine ⟨_, rfl, a, ws, rfl, ha, ok, fun H1 c s1 nc ec => ?_⟩
    refine ⟨_, rfl, by show 1 ≤ sizeLine; decide, fun fd0 nf => ?_⟩
    have s2 : Same H (upd H1 fd0 (.lst [.ref c])) := s1.trans (same_upd nf)
    have nfH : H fd0 = none := s1.free nf
    have cf : c ≠ fd0 := ne_of_none ec nf
    refine while_by (fun σ H2 => ∃ rs : List Addr, σ = [some (.ref a), some (.int L), some (.ref c), some (.ref fd0)] ∧ H2 fd0 = some (.lst (rs.map V.ref)) ∧ 1 ≤ rs.length ∧ rs.length ≤ L ∧ (∀ (i : Nat) (r : Addr), rs[i]? = some r → r ≠ fd0 ∧ H2 r = some (.lst ((K23M.row (cC ws) (i + 1)).map V.int))) ∧ Same H H2 ∧ H2 c = some (.lst ((cC ws).map V.int)))
      (fun σ H2 => match H2 fd0 with | some (.lst xs) => L - xs.length | _ => 0) ?_ ?_ ?_
    · refine ⟨[c], rfl, upd_same, Nat.le_refl _, hL.1, fun i r hi => ?_, s2, by rw [upd_ne cf]; exact ec⟩
      match i with
      | 0 =>
        cases hi
        refine ⟨cf, ?_⟩
        rw [upd_ne cf, ec, K23M.row_one (cC_sorted ws)]
      | i + 1 => simp at hi
    · rintro σ H2 ⟨rs, rfl, ef, l1, l2, hrs, sm, ecc⟩
      refine ⟨_, rfl, fd0, _, rfl, .inl (SqL.of ef), _, rfl, _, _, rfl, rfl, _, rfl, ?_⟩
      rw [List.length_map]
      by_cases hlt : rs.length < L
      · rw [decide_eq_true (show ((rs.length : Nat) : Int) < (L : Int) by omega)]
        refine iteT ?_
        obtain ⟨rs', r, rfl⟩ : ∃ rs' r, rs = rs' ++ [r] := ⟨rs.dropLast, rs.getLast (by intro z; rw [z] at l1; simp at l1), (List.dropLast_concat_getLast _).symm⟩
        rw [List.length_append, List.length_singleton] at hlt l2
        obtain ⟨rf, er⟩ := hrs rs'.length r (by simp)
        have erow : K23M.row (cC ws) (rs'.length + 1 + 1) = K23M.isort (cC ws ++ K23M.pairs (K23M.row (cC ws) (rs'.length + 1))) := rfl
        have hshort := row_short hcl (rs'.length + 1)
        have hpl := K23M.pairs_length (K23M.row (cC ws) (rs'.length + 1))
        refine ⟨_, rfl, .inl ⟨rfl, _, SqL.of ef⟩, ?_⟩
        refine ⟨_, rfl, _, rfl, 1, rfl, fd0, _, -1, V.ref r, rfl, rfl, SqL.of ef, by rw [List.map_append]; exact atI_last _ _, ?_⟩
        refine ⟨r, _, rfl, er, by omega, fun H3 p s3 np ep => ?_⟩
        refine ⟨c, p, _, _, rfl, rfl, s3 _ _ ecc, ep, ?_, fun p2 np2 => ?_⟩
        · rw [List.length_map, List.length_map]
          exact Nat.le_trans (show (cC ws).length + (K23M.pairs (K23M.row (cC ws) (rs'.length + 1))).length ≤ 1000 by omega) (by decide)
        · refine ⟨p2, cC ws ++ K23M.pairs (K23M.row (cC ws) (rs'.length + 1)), rfl, SqL.of (by rw [upd_same, List.map_append]), fun ns' p3 hp hs np3 => ?_⟩
          have e := K23M.isort_eq hp hs
          rw [← erow] at e
          subst e
          have sA : Same H2 (upd (upd H3 p2 (.lst ((cC ws).map V.int ++ (K23M.pairs (K23M.row (cC ws) (rs'.length + 1))).map V.int))) p3 (.lst ((K23M.row (cC ws) (rs'.length + 1 + 1)).map V.int))) := (s3.trans (same_upd np2)).trans (same_upd np3)
          have p3f : p3 ≠ fd0 := Ne.symm (ne_of_none ((s3.trans (same_upd (o := .lst ((cC ws).map V.int ++ (K23M.pairs (K23M.row (cC ws) (rs'.length + 1))).map V.int)) np2)) _ _ ef) np3)
          refine ⟨fd0, _, _, rfl, rfl, sA _ _ ef, ?_, ?_⟩
          · rw [List.length_map, List.length_append, List.length_singleton]
            exact small1000 (by omega)
          · refine ⟨⟨(rs' ++ [r]) ++ [p3], rfl, by rw [upd_same]; simp, by simp, by simp; omega, fun i x hx => ?_, fun b o e => ?_, by rw [upd_ne cf]; exact sA _ _ ecc⟩, ?_⟩
            · by_cases hi : i < (rs' ++ [r]).length
              · rw [List.getElem?_append_left hi] at hx
                obtain ⟨h1, h2⟩ := hrs i x hx
                exact ⟨h1, by rw [upd_ne h1]; exact sA _ _ h2⟩
              · rw [List.getElem?_append_right (by omega)] at hx
                have e0 : i - (rs' ++ [r]).length = 0 := by
                  have := (List.getElem?_eq_some_iff.mp hx).1
                  simp only [List.length_singleton] at this
                  omega
                rw [e0] at hx
                cases hx
                have ei : i = rs'.length + 1 := by
                  rw [List.length_append, List.length_singleton] at hi e0
                  omega
                exact ⟨p3f, by rw [upd_ne p3f, upd_same, ei]⟩
            · rw [upd_ne (ne_of_none e nfH)]
              exact sA _ _ (sm _ _ e)
            · show (match upd _ fd0 _ fd0 with | some (.lst xs) => L - xs.length | _ => 0) < _
              rw [upd_same, ef]
              show L - _ < L - _
              simp only [List.length_append, List.length_map, List.length_singleton]
              omega
      · rw [decide_eq_false (show ¬ ((rs.length : Nat) : Int) < (L : Int) by omega)]
        refine iteF ?_
        have hll : rs.length = L := by omega
        refine ⟨_, rfl, fd0, _, rfl, SqL.of ef, fun p np => ?_⟩
        have sB : Same H2 (upd H2 p (.lst (rs.map V.ref).reverse)) := same_upd np
        refine q _ p (sm.trans sB) (sm.free np) ⟨rs.reverse, by rw [upd_same, List.map_reverse], by rw [List.length_reverse, hll], fun i x hx => ?_⟩
        have hi : i < rs.length := by
          have := (List.getElem?_eq_some_iff.mp hx).1
          simpa using this
        rw [List.getElem?_reverse hi] at hx
        have := (hrs _ _ hx).2
        rw [show rs.length - 1 - i + 1 = L - i by omega] at this
        exact sB _ _ this
    · intro σ H2 Q1 Q2 h z
      obtain ⟨v, e0, p, ys, e1, hs, v2, e2, i, j, e3, e4, b, e5, q5⟩ := z
      exact ⟨v, e0, p, ys, e1, hs, v2, e2, i, j, e3, e4, b, e5, h _ _ q5⟩
/-! ### fewest_bits, least_bits -/
abbrev sFew : Stmt := topS 29
theorem scFew : FnScope ["weights", "limit"] ["weights", "limit"] (defScope sFew) := ⟨rfl, rfl, rfl, by decide +kernel, rfl, by decide +kernel, by decide +kernel⟩
def few (ws : List (Int × Int)) (L : Nat) : Int := K23M.fewest (cC ws) ws.length L
def spFew : Sp := fun vs H Q _ => ∃ (a : Addr) (ws : List (Int × Int)) (L : Nat), vs = [.ref a, .int L] ∧ H a = some (.dK (wK ws)) ∧ WOk ws ∧ (1 ≤ L ∧ L ≤ 16) ∧ ∀ H', Same H H' → Q (.int (few ws L)) H'
theorem cut_to (xs : List V) (n : Nat) : cutV xs none (some (n : Int)) = xs.take n := by
  unfold cutV
  rw [HT.sIx_nat, show HT.sIx xs.length 0 none = 0 from rfl, List.drop_zero, Nat.sub_zero]
  rcases Nat.le_total n xs.length with h | h
  · rw [Nat.min_eq_left h]
  · rw [Nat.min_eq_right h, List.take_length, List.take_of_length_le h]
theorem ok_few {f fR : Addr} {fd fdR : FuncData} (F : Fun K "fewest_bits" "fewest_bits" sFew f fd) (X : Txt mg) (GR : FnOk P w K mg base CX0 2 fR fdR ["weights", "limit"] spRows) (bR : Binds K fdR ["weights", "limit"] []) (kR : PySem.W.keepIn K (.ref fR) = true) (gR : mg "rows_of" = some (.ref fR)) : FnOk P w K mg base CX0 3 f fd ["weights", "limit"] spFew := by
  refine F.ok scFew (fun vs H Q E h => ?_) (fun cdv A outer s H vs Q E hr h => ?_)
  · obtain ⟨a, ws, L, rfl, _⟩ := h
    rfl
  · obtain ⟨a, ws, L, rfl, ha, ok, hL, q⟩ := h
    refine ⟨_, pss_one (ps_ret (pe_callB (cr_sum rfl) (by rfl) X.sum bt_sum (pa_cons (pe_slice sl_list (pe_ix ix_list (pe_call GR hr (by rfl) gR kR bR .nil pass0 (pa_cons (pv 0) (pa_cons (pv 1) pa_nil))) pe_int (fun _ _ => rfl)) po_none (po_some (pe_op op_mul pe_int (pe_callB call_lenD (by rfl) X.len bt_len (pa_cons (pv 0) pa_nil))))) pa_nil))), ?_⟩
    refine ⟨_, rfl, _, rfl, a, ws, L, rfl, ha, ok, hL, fun H1 p s1 np hR => ?_⟩
    obtain ⟨rs, e1, l1, hr1⟩ := hR
    have h0 : rs[0]? = some rs[0] := List.getElem?_eq_getElem (by omega)
    refine ⟨p, _, 0, .ref rs[0], rfl, rfl, SqL.of e1, atI_nat (j := 0) (by rw [List.getElem?_map, h0]; rfl), ?_⟩
    refine ⟨_, rfl, a, wK ws, rfl, s1 _ _ ha, 2, _, rfl, rfl, .inl ⟨by decide, by decide⟩, _, rfl, ?_⟩
    refine ⟨rs[0], _, rfl, SqL.of (hr1 0 _ h0), fun p2 np2 => ?_⟩
    have e2 : (2 : Int) * ((wK ws).length : Int) = ((2 * ws.length : Nat) : Int) := by rw [wK_len]; omega
    refine ⟨p2, (K23M.row (cC ws) L).take (2 * ws.length), rfl, SqL.of ?_, q _ (s1.trans (same_upd np2))⟩
    rw [upd_same, e2, cut_to, List.map_take]
    rfl
abbrev sLb : Stmt := topS 30
theorem scLb : FnScope ["weights", "limit"] ["weights", "limit"] (defScope sLb) := ⟨rfl, rfl, rfl, by decide +kernel, rfl, by decide +kernel, by decide +kernel⟩
def spLb (T : List (Addr × Str)) : Sp := fun vs H Q _ => ∃ (a : Addr) (ws : List (Int × Int)) (L : Nat), vs = [.ref a, .int L] ∧ H a = some (.dK (wK ws)) ∧ WOk ws ∧ (1 ≤ L ∧ L ≤ 16) ∧ ws.length < 2 ^ L ∧ LamX.Tabs T H ∧ ∀ H', Ex T H H' → Q (.int (few ws L)) H'
theorem ok_lb {f fA fF : Addr} {fd fdA fdF : FuncData} (F : FunD K "least_bits" "least_bits" (defArgs sLb) (defBody sLb) (defScope sLb) [.int 16] [] f fd)
    (GA : FnOk P w K mg base CX0 4 fA fdA ["weights", "limit"] (spChkA T)) (bA : Binds K fdA ["weights", "limit"] []) (kA : PySem.W.keepIn K (.ref fA) = true) (gA : mg "check_all" = some (.ref fA))
    (GF : FnOk P w K mg base CX0 3 fF fdF ["weights", "limit"] spFew) (bF : Binds K fdF ["weights", "limit"] []) (kF : PySem.W.keepIn K (.ref fF) = true) (gF : mg "fewest_bits" = some (.ref fF)) : FnOk P w K mg base CX0 5 f fd ["weights", "limit"] (spLb T) := by
  refine F.ok scLb (fun vs H Q E h => ?_) (fun cdv A outer s H vs Q E hr h => ?_)
  · obtain ⟨a, ws, L, rfl, _⟩ := h
    rfl
  · obtain ⟨a, ws, L, rfl, ha, ok, hL, hn, hT, q⟩ := h
    refine ⟨_, PSs.nox (pss_cons (ps_expr (pe_call GA hr (by rfl) gA kA bA .nil pass0 (pa_cons (pv 0) (pa_cons (pv 1) pa_nil))))
      (pss_one (ps_ret (pe_call GF (hr.mono (by decide)) (by rfl) gF kF bF .nil pass0 (pa_cons (pv 0) (pa_cons (pv 1) pa_nil)))))), ?_⟩
    refine ⟨_, rfl, _, rfl, a, ws, L, rfl, ha, ok, hL, hn, hT, fun H1 x1 => ?_⟩
    refine ⟨_, rfl, _, rfl, a, ws, L, rfl, x1.dk ha, ok, hL, fun H2 s2 => ?_⟩
    exact q _ (x1.trans (.of s2))
end
end K23
set_option Elab.async false
set_option linter.all false
set_option maxRecDepth 100000
set_option maxHeartbeats 4000000
namespace K23
open PySem PySem.Spec PyProof.Rows L2
section
variable {P : Program} {w : World} {K : PySem.W.Frag} {mg : Str → Option Value} {base : Heap} {T : List (Addr × Str)}
/-! ### coins_among -/
abbrev sAmong : Stmt := topS 31
theorem scAmong : FnScope ["coins", "pairs", "many", "taken", "ahead"] ["coins", "pairs", "many"] (defScope sAmong) := ⟨rfl, rfl, rfl, by decide +kernel, rfl, by decide +kernel, by decide +kernel⟩
def spAmong : Sp := fun vs H Q _ => ∃ (c b : Addr) (C B : List Int) (m : Nat), vs = [.ref c, .ref b, .int m] ∧ H c = some (.lst (C.map V.int)) ∧ H b = some (.lst (B.map V.int)) ∧ K23M.Sorted C ∧ K23M.Sorted B ∧ m ≤ C.length + B.length ∧ ∀ t : Nat, K23M.Among C B m t → ∀ H', Same H H' → Q (.int t) H'
/-- the outer loop's word -/
structure Am (C B : List Int) (m t g : Nat) : Prop where
  tC : t ≤ C.length
  gB : g ≤ B.length
  le : t + g ≤ m
  hi : ∀ x y, 0 < t → C[t - 1]? = some x → B[g]? = some y → x ≤ y
  lo : ∀ (j : Nat) (x y : Int), j < g → C[t]? = some x → B[j]? = some y → y ≤ x
theorem Am.done {C B : List Int} {m t g : Nat} (h : Am C B m t g) (hB : K23M.Sorted B) (ht : t = C.length) (hm : m ≤ C.length + B.length) : K23M.Among C B m t := by
  have h1 := h.le
  refine ⟨h.tC, by omega, by omega, fun x y ht0 hx hy => ?_, fun x y _ hx hy => ?_⟩
  · have hl := (List.getElem?_eq_some_iff.mp hy).1
    have e : B[g]? = some B[g] := List.getElem?_eq_getElem (by omega)
    exact Int.le_trans (h.hi x _ ht0 hx e) (K23M.sorted_get hB e hy (by omega))
  · have := (List.getElem?_eq_some_iff.mp hx).1
    omega
theorem Am.stop {C B : List Int} {m t g g' : Nat} (h : Am C B m t g) (hB : K23M.Sorted B) (hg : g' ≤ B.length) (hm : m ≤ t + g') (lo : ∀ (j : Nat) (x y : Int), j < g' → C[t]? = some x → B[j]? = some y → y ≤ x) : K23M.Among C B m t := by
  have h1 := h.le
  refine ⟨h.tC, by omega, by omega, fun x y ht0 hx hy => ?_, fun x y h0 hx hy => lo _ x y (by omega) hx hy⟩
  have hl := (List.getElem?_eq_some_iff.mp hy).1
  have e : B[g]? = some B[g] := List.getElem?_eq_getElem (by omega)
  exact Int.le_trans (h.hi x _ ht0 hx e) (K23M.sorted_get hB e hy (by omega))
theorem ok_among {f : Addr} {fd : FuncData} (F : Fun K "coins_among" "coins_among" sAmong f fd) (X : Txt mg) : FnOk P w K mg base CX0 1 f fd ["coins", "pairs", "many"] spAmong := by
  refine F.ok scAmong (fun vs H Q E h => ?_) (fun cdv A outer s H vs Q E hr h => ?_)
  · obtain ⟨c, b, C, B, m, rfl, _⟩ := h
    rfl
  · obtain ⟨c, b, C, B, m, rfl, hc0, hb0, sC, sB, hm, q⟩ := h
    refine ⟨_, pss_cons (ps_asg (pe_tup (pa_cons pe_int (pa_cons pe_int pa_nil))) (pg_tup rfl (pgs_cons (pg_name (i := 3) scAmong.nd rfl (.inl rfl)) (pgs_cons (pg_name (i := 4) scAmong.nd rfl (.inl rfl)) pgs_nil))))
      (pss_cons (ps_while PassesOwn.never (pt_cmpR op_lt (pv 3) (pe_callB call_len_seq (by rfl) X.len bt_len (pa_cons (pv 0) pa_nil)) (nomark _))
        (pss_cons (ps_while PassesOwn.never (PW.pt (pw_and (pt_cmpR op_lt (pv 4) (pe_callB call_len_seq (by rfl) X.len bt_len (pa_cons (pv 1) pa_nil)) (nomark _))
            (pw_and1 (pt_cmpR op_lt (pe_ix ix_list (pv 1) (pv 4) (fun _ _ => rfl)) (pe_ix ix_list (pv 0) (pv 3) (fun _ _ => rfl)) (nomark _)))))
            (pss_one (ps_aug (i := 4) scAmong.nd rfl (.inl rfl) pe_int ip_add)))
        (pss_cons (ps_if (pt_cmpR op_ge (pe_op op_add (pv 3) (pv 4)) (pv 2) (nomark _)) (pss_one ps_break) pss_nil)
        (pss_one (ps_aug (i := 3) scAmong.nd rfl (.inl rfl) pe_int ip_add)))))
      (pss_one (ps_ret (pv 3)))), ?_⟩
    refine ⟨by show 2 ≤ sizeLine; decide, fun p0 np0 => ?_⟩
    refine ⟨p0, _, rfl, SqT.of upd_same, rfl, _, _, rfl, _, _, rfl, rfl, ?_⟩
    have sH : Same H (upd H p0 (.tup [.int 0, .int 0])) := same_upd np0
    have hc := sH _ _ hc0
    have hb := sH _ _ hb0
    refine while_by (fun σ H2 => H2 = upd H p0 (.tup [.int 0, .int 0]) ∧ ∃ t g : Nat, σ = [some (.ref c), some (.ref b), some (.int m), some (.int t), some (.int g)] ∧ Am C B m t g) (fun σ _ => match σ with | [_, _, _, some (.int t), _] => C.length - t.toNat | _ => 0) ?_ ?_ ?_
    · exact ⟨rfl, 0, 0, rfl, ⟨Nat.zero_le _, Nat.zero_le _, Nat.zero_le _, fun _ _ h => absurd h (by decide), fun _ _ _ h => absurd h (by omega)⟩⟩
    · rintro σ H2 ⟨rfl, t, g, rfl, am⟩
      refine ⟨_, rfl, _, rfl, c, _, rfl, .inl (SqL.of hc), _, _, rfl, rfl, _, rfl, ?_⟩
      rw [List.length_map]
      by_cases hlt : t < C.length
      · rw [decide_eq_true (show (t : Int) < ((C.length : Nat) : Int) by omega)]
        refine iteT ?_
        have ec : C[t]? = some C[t] := List.getElem?_eq_getElem hlt
        refine while_by (fun σ H3 => H3 = upd H p0 (.tup [.int 0, .int 0]) ∧ ∃ g' : Nat, σ = [some (.ref c), some (.ref b), some (.int m), some (.int t), some (.int g')] ∧ g ≤ g' ∧ g' ≤ B.length ∧ ∀ (j : Nat) (x y : Int), j < g' → C[t]? = some x → B[j]? = some y → y ≤ x)
          (fun σ _ => match σ with | [_, _, _, _, some (.int g')] => B.length - g'.toNat | _ => 0) ⟨rfl, g, rfl, Nat.le_refl _, am.gB, am.lo⟩ ?_ ?_
        · rintro σ H3 ⟨rfl, g', rfl, h1, h2, lo⟩
          refine ⟨_, rfl, _, rfl, b, _, rfl, .inl (SqL.of hb), _, _, rfl, rfl, _, rfl, ?_⟩
          rw [List.length_map]
          by_cases hg : g' < B.length
          · rw [decide_eq_true (show (g' : Int) < ((B.length : Nat) : Int) by omega)]
            refine iteT ?_
            have eb : B[g']? = some B[g'] := List.getElem?_eq_getElem hg
            refine ⟨_, rfl, _, rfl, b, _, _, V.int B[g'], rfl, rfl, SqL.of hb, atI_nat (by rw [List.getElem?_map, eb]; rfl), _, rfl, _, rfl, c, _, _, V.int C[t], rfl, rfl, SqL.of hc, atI_nat (by rw [List.getElem?_map, ec]; rfl), _, _, rfl, rfl, _, rfl, ?_⟩
            by_cases hbc : B[g'] < C[t]
            · rw [decide_eq_true hbc]
              refine iteT ?_
              refine ⟨_, rfl, _, _, rfl, rfl, ⟨rfl, g' + 1, by rw [Int.natCast_add]; rfl, by omega, hg, fun j x y hj hx hy => ?_⟩, ?_⟩
              · by_cases hjg : j = g'
                · rw [ec] at hx
                  rw [hjg, eb] at hy
                  cases hx
                  cases hy
                  omega
                · exact lo j x y (by omega) hx hy
              · show B.length - ((g' : Int) + 1).toNat < B.length - (g' : Int).toNat
                omega
            · rw [decide_eq_false hbc]
              refine iteF ?_
              have hyy : ∀ y, B[g']? = some y → C[t] ≤ y := fun y hy => by
                rw [eb] at hy
                cases hy
                omega
              -- if taken + ahead >= many: break
              refine ⟨_, rfl, _, rfl, _, _, rfl, rfl, _, rfl, _, _, rfl, rfl, _, rfl, ?_⟩
              by_cases hge : m ≤ t + g'
              · rw [decide_eq_true (show (m : Int) ≤ (t : Int) + (g' : Int) by omega)]
                refine iteT ?_
                exact ⟨_, rfl, q t (am.stop sB h2 hge lo) _ sH⟩
              · rw [decide_eq_false (show ¬ (m : Int) ≤ (t : Int) + (g' : Int) by omega)]
                refine iteF ?_
                refine ⟨_, rfl, _, _, rfl, rfl, ⟨rfl, t + 1, g', by rw [Int.natCast_add]; rfl, ⟨hlt, h2, by omega, fun x y _ hx hy => ?_, fun j x y hj hx hy => ?_⟩⟩, ?_⟩
                · rw [Nat.add_sub_cancel, ec] at hx
                  cases hx
                  exact hyy y hy
                · exact Int.le_trans (lo j _ y hj ec hy) (K23M.sorted_get sC ec hx (Nat.le_succ t))
                · show C.length - ((t : Int) + 1).toNat < C.length - (t : Int).toNat
                  omega
          · rw [decide_eq_false (show ¬ (g' : Int) < ((B.length : Nat) : Int) by omega)]
            refine iteF (iteF ?_)
            have hyy : ∀ y, B[g']? = some y → C[t] ≤ y := fun y hy => absurd (List.getElem?_eq_some_iff.mp hy).1 (by omega)
            -- if taken + ahead >= many: break
            refine ⟨_, rfl, _, rfl, _, _, rfl, rfl, _, rfl, _, _, rfl, rfl, _, rfl, ?_⟩
            by_cases hge : m ≤ t + g'
            · rw [decide_eq_true (show (m : Int) ≤ (t : Int) + (g' : Int) by omega)]
              refine iteT ?_
              exact ⟨_, rfl, q t (am.stop sB h2 hge lo) _ sH⟩
            · rw [decide_eq_false (show ¬ (m : Int) ≤ (t : Int) + (g' : Int) by omega)]
              refine iteF ?_
              refine ⟨_, rfl, _, _, rfl, rfl, ⟨rfl, t + 1, g', by rw [Int.natCast_add]; rfl, ⟨hlt, h2, by omega, fun x y _ hx hy => ?_, fun j x y hj hx hy => ?_⟩⟩, ?_⟩
              · rw [Nat.add_sub_cancel, ec] at hx
                cases hx
                exact hyy y hy
              · exact Int.le_trans (lo j _ y hj ec hy) (K23M.sorted_get sC ec hx (Nat.le_succ t))
              · show C.length - ((t : Int) + 1).toNat < C.length - (t : Int).toNat
                omega
        · intro σ H2 Q1 Q2 h z
          obtain ⟨v, e0, v2, e1, p, ys, e2, hs, i, j, e3, e4, b, e5, q5⟩ := z
          refine ⟨v, e0, v2, e1, p, ys, e2, hs, i, j, e3, e4, b, e5, ?_⟩
          by_cases hb : b = true
          · rw [if_pos hb] at q5 ⊢
            obtain ⟨v, e0, v2, e1, p, xs, i, x, e2, e3, hs, ha, v', e0', v2', e1', p', xs', i', x', e2', e3', hs', ha', k, l, f1, f2, b', f3, q6⟩ := q5
            exact ⟨v, e0, v2, e1, p, xs, i, x, e2, e3, hs, ha, v', e0', v2', e1', p', xs', i', x', e2', e3', hs', ha', k, l, f1, f2, b', f3, h _ _ q6⟩
          · rw [if_neg hb] at q5 ⊢
            exact h _ _ q5
      · rw [decide_eq_false (show ¬ (t : Int) < ((C.length : Nat) : Int) by omega)]
        refine iteF ?_
        have := am.tC
        exact ⟨_, rfl, q t (am.done sB (by omega) hm) _ sH⟩
    · intro σ H2 Q1 Q2 h z
      obtain ⟨v, e0, v2, e1, p, ys, e2, hs, i, j, e3, e4, b, e5, q5⟩ := z
      exact ⟨v, e0, v2, e1, p, ys, e2, hs, i, j, e3, e4, b, e5, h _ _ q5⟩
/-! ### coins_taken -/
abbrev sTaken : Stmt := topS 32
theorem scTaken : FnScope ["weights", "limit", "coins", "rows", "found", "many", "below", "taken"] ["weights", "limit"] (defScope sTaken) := ⟨rfl, rfl, rfl, by decide +kernel, rfl, by decide +kernel, by decide +kernel⟩
def tsV (ts : List Nat) : List V := ts.map fun t : Nat => V.int (t : Int)
def spTaken : Sp := fun vs H Q _ => ∃ (a : Addr) (ws : List (Int × Int)) (L : Nat), vs = [.ref a, .int L] ∧ H a = some (.dK (wK ws)) ∧ WOk ws ∧ (1 ≤ L ∧ L ≤ 16) ∧ ws.length < 2 ^ L ∧ ∀ H' p ts, Same H H' → H p = none → K23M.Takes (cC ws) L (2 * ws.length) ts → H' p = some (.lst (tsV ts)) → Q (.ref p) H'
theorem ok_taken {f fC fR fA fP : Addr} {fd fdC fdR fdA fdP : FuncData} (F : Fun K "coins_taken" "coins_taken" sTaken f fd) (X : Txt mg) (GC : FnOk P w K mg base CX0 1 fC fdC ["weights"] spCoins) (bC : Binds K fdC ["weights"] []) (kC : PySem.W.keepIn K (.ref fC) = true) (gC : mg "coins_of" = some (.ref fC))
    (GR : FnOk P w K mg base CX0 2 fR fdR ["weights", "limit"] spRows) (bR : Binds K fdR ["weights", "limit"] []) (kR : PySem.W.keepIn K (.ref fR) = true) (gR : mg "rows_of" = some (.ref fR))
    (GA : FnOk P w K mg base CX0 1 fA fdA ["coins", "pairs", "many"] spAmong) (bA : Binds K fdA ["coins", "pairs", "many"] []) (kA : PySem.W.keepIn K (.ref fA) = true) (gA : mg "coins_among" = some (.ref fA))
    (GP : FnOk P w K mg base CX0 1 fP fdP ["row"] spPairs) (bP : Binds K fdP ["row"] []) (kP : PySem.W.keepIn K (.ref fP) = true) (gP : mg "pairs_of" = some (.ref fP)) : FnOk P w K mg base CX0 3 f fd ["weights", "limit"] spTaken := by
  refine F.ok scTaken (fun vs H Q E h => ?_) (fun cdv A outer s H vs Q E hr h => ?_)
  · obtain ⟨a, ws, L, rfl, _⟩ := h
    rfl
  · obtain ⟨a, ws, L, rfl, ha, ok, hL, hn, q⟩ := h
    have hlen := ok.len
    have hcl := cC_len ws
    refine ⟨_, pss_cons (ps_par (i := 2) (j := 3) rfl scTaken.nd rfl rfl (by decide) rfl rfl (pa_cons (pe_call GC (hr.mono (by decide)) (by rfl) gC kC bC .nil pass0 (pa_cons (pv 0) pa_nil)) (pa_cons (pe_call GR hr (by rfl) gR kR bR .nil pass0 (pa_cons (pv 0) (pa_cons (pv 1) pa_nil))) pa_nil)) rfl)
      (pss_cons (ps_par (i := 4) (j := 5) rfl scTaken.nd rfl rfl (by decide) rfl rfl (pa_cons (pe_lst pa_nil) (pa_cons (pe_op op_mul pe_int (pe_callB call_lenD (by rfl) X.len bt_len (pa_cons (pv 0) pa_nil))) pa_nil)) rfl)
      (pss_cons (ps_for PassesOwn.never rfl (pi_list (pe_op op_cat (pe_slice sl_list (pv 3) (po_some pe_int) po_none) (pe_lst (pa_cons (pe_lst pa_nil) pa_nil)))) (pg_name (i := 6) scTaken.nd rfl (.inl rfl))
        (pss_cons (ps_set (i := 7) scTaken.nd rfl (.inl rfl) (pe_call GA (hr.mono (by decide)) (by rfl) gA kA bA .nil pass0 (pa_cons (pv 2) (pa_cons (pe_call GP (hr.mono (by decide)) (by rfl) gP kP bP .nil pass0 (pa_cons (pv 6) pa_nil)) (pa_cons (pv 5) pa_nil)))))
        (pss_cons (ps_expr (pe_bm PySem.F.plainAttrs_list PySem.F.slot_list_append PySem.F.type_list_append mt_append (pv 4) (pa_cons (pv 7) pa_nil)))
        (pss_one (ps_set (i := 5) scTaken.nd rfl (.inl rfl) (pe_op op_mul pe_int (pe_op op_sub (pv 5) (pv 7))))))))
      (pss_one (ps_ret (pv 4))))), ?_⟩
    refine ⟨_, rfl, a, ws, rfl, ha, ok, fun H1 c s1 nc ec => ?_⟩
    refine ⟨_, rfl, _, rfl, a, ws, L, rfl, s1 _ _ ha, ok, hL, fun H2 g s2 ng hR => ?_⟩
    refine ⟨_, _, rfl, ?_⟩
    refine ⟨Nat.zero_le _, fun fo nfo => ?_⟩
    have s3 : Same H (upd H2 fo (.lst [])) := (s1.trans s2).trans (same_upd nfo)
    have nfoH : H fo = none := (s1.trans s2).free nfo
    have hR3 := hR.same (same_upd (o := .lst []) nfo)
    have ec3 : upd H2 fo (.lst []) c = some (.lst ((cC ws).map V.int)) := (s2.trans (same_upd nfo)) _ _ ec
    have cfo : c ≠ fo := ne_of_none (s2 _ _ ec) nfo
    refine ⟨_, rfl, a, wK ws, rfl, s3 _ _ ha, 2, _, rfl, rfl, .inl ⟨by decide, by decide⟩, ?_⟩
    refine ⟨_, _, rfl, ?_⟩
    obtain ⟨rs, eg, lrs, hrs⟩ := hR3
    have hrs' : ∀ (i : Nat) (r : Addr), rs[i]? = some r → r ≠ fo := fun i r hi => by
      obtain ⟨rs2, eg2, _, hrs2⟩ := hR
      have gfo : g ≠ fo := ne_of_none eg2 nfo
      rw [upd_ne gfo, eg2] at eg
      have e : rs2 = rs := by
        have := HO.lst.inj (Option.some.inj eg)
        exact (List.map_inj_right (fun a b h => V.ref.inj h)).mp this
      rw [e] at hrs2
      exact ne_of_none (hrs2 i r hi) nfo
    refine ⟨_, rfl, 1, rfl, g, _, rfl, SqL.of eg, fun g2 ng2 => ?_⟩
    have ecut : cutV (rs.map V.ref) (some (1 : Int)) none = (rs.drop 1).map V.ref := by
      unfold cutV
      rw [show (1 : Int) = ((1 : Nat) : Int) from rfl, HT.sIx_nat, show HT.sIx (rs.map V.ref).length (rs.map V.ref).length none = (rs.map V.ref).length from rfl, List.length_map, Nat.min_eq_left (by omega), ← List.map_drop, ← List.length_drop]
      have : ((rs.drop 1).map V.ref).length = (rs.drop 1).length := List.length_map _
      rw [← this, List.take_length]
    rw [ecut]
    refine ⟨Nat.zero_le _, fun e0 ne0 => ?_⟩
    refine ⟨by show 1 ≤ sizeLine; decide, fun g3 ng3 => ?_⟩
    have s4 : Same (upd H2 fo (.lst [])) (upd (upd (upd (upd H2 fo (.lst [])) g2 (.lst ((rs.drop 1).map V.ref))) e0 (.lst [])) g3 (.lst [.ref e0])) := ((same_upd ng2).trans (same_upd ne0)).trans (same_upd ng3)
    have eg2 : (upd (upd (upd (upd H2 fo (.lst [])) g2 (.lst ((rs.drop 1).map V.ref))) e0 (.lst [])) g3 (.lst [.ref e0])) g2 = some (.lst ((rs.drop 1).map V.ref)) := ((same_upd ne0).trans (same_upd ng3)) _ _ upd_same
    have ee0 : (upd (upd (upd (upd H2 fo (.lst [])) g2 (.lst ((rs.drop 1).map V.ref))) e0 (.lst [])) g3 (.lst [.ref e0])) e0 = some (.lst []) := (same_upd ng3) _ _ upd_same
    have e0fo : e0 ≠ fo := Ne.symm (ne_of_none ((same_upd (o := .lst ((rs.drop 1).map V.ref)) ng2) _ _ (upd_same (H := H2) (a := fo) (o := .lst []))) ne0)
    have eg3 : (upd (upd (upd (upd H2 fo (.lst [])) g2 (.lst ((rs.drop 1).map V.ref))) e0 (.lst [])) g3 (.lst [.ref e0])) g3 = some (.lst [.ref e0]) := upd_same
    generalize (upd (upd (upd (upd H2 fo (.lst [])) g2 (.lst ((rs.drop 1).map V.ref))) e0 (.lst [])) g3 (.lst [.ref e0])) = H5 at s4 eg2 ee0 eg3 ⊢
    refine ⟨g2, g3, _, _, rfl, rfl, eg2, eg3, ?_, fun g4 ng4 => ?_⟩
    · rw [List.length_map, List.length_drop]
      exact Nat.le_trans (show rs.length - 1 + 1 ≤ 1000 by omega) (by decide)
    have s5 : Same (upd H2 fo (.lst [])) (upd H5 g4 (.lst ((rs.drop 1).map V.ref ++ [.ref e0]))) := s4.trans (same_upd ng4)
    have eg4 : (upd H5 g4 (.lst ((rs.drop 1).map V.ref ++ [V.ref e0]))) g4 = some (.lst ((rs.drop 1).map V.ref ++ [V.ref e0])) := upd_same
    have ee1 : (upd H5 g4 (.lst ((rs.drop 1).map V.ref ++ [V.ref e0]))) e0 = some (.lst []) := (same_upd ng4) _ _ ee0
    have g4fo : g4 ≠ fo := Ne.symm (ne_of_none (s4 _ _ (upd_same (H := H2) (a := fo) (o := .lst []))) ng4)
    generalize (upd H5 g4 (.lst ((rs.drop 1).map V.ref ++ [V.ref e0]))) = H6 at s5 eg4 ee1 ⊢
    have lxs : ((rs.drop 1).map V.ref ++ [V.ref e0]).length = L := by
      rw [List.length_append, List.length_map, List.length_drop, List.length_singleton]
      omega
    have hxs : ∀ (i : Nat) (x : V), ((rs.drop 1).map V.ref ++ [V.ref e0])[i]? = some x → ∃ r, x = V.ref r ∧ r ≠ fo ∧ H6 r = some (.lst ((K23M.row (cC ws) (L - (i + 1))).map V.int)) := fun i x hx => by
      have hi : i < L := by
        have := (List.getElem?_eq_some_iff.mp hx).1
        omega
      by_cases hlast : i = L - 1
      · rw [List.getElem?_append_right (by rw [List.length_map, List.length_drop]; omega), List.length_map, List.length_drop, show i - (rs.length - 1) = 0 by omega] at hx
        cases hx
        refine ⟨e0, rfl, e0fo, ?_⟩
        rw [show L - (i + 1) = 0 by omega]
        exact ee1
      · rw [List.getElem?_append_left (by rw [List.length_map, List.length_drop]; omega), List.getElem?_map, List.getElem?_drop] at hx
        obtain ⟨r, h1, h2⟩ := Option.map_eq_some_iff.mp hx
        refine ⟨r, h2.symm, hrs' _ r h1, ?_⟩
        have := s5 _ _ (hrs _ r h1)
        rw [show 1 + i = i + 1 by omega] at this
        exact this
    generalize ((rs.drop 1).map V.ref ++ [V.ref e0]) = xs at lxs hxs eg4 ⊢
    refine ⟨g4, rfl, ⟨_, SqL.of eg4⟩, ?_⟩
    refine for_list (K := K) (a := g4) (xs := xs) (fun i σ H' => ∃ (m : Nat) (ts : List Nat) (y6 y7 : Option V), σ = [some (.ref a), some (.int L), some (.ref c), some (.ref g), some (.ref fo), some (.int m), y6, y7] ∧ (∀ b o, b ≠ fo → H6 b = some o → H' b = some o) ∧ H' fo = some (.lst (tsV ts)) ∧ ts.length = i ∧ m ≤ (K23M.row (cC ws) (L - i)).length ∧ ∀ us, K23M.Takes (cC ws) (L - i) m us → K23M.Takes (cC ws) L (2 * ws.length) (ts ++ us))
      ⟨2 * ws.length, [], none, none, by rw [wK_len, Int.natCast_mul]; rfl, fun b o _ e => e, s5 _ _ upd_same, rfl, K23M.row_top hcl hn (by omega), fun us h => h⟩ (fun i σ H' _ ⟨m, ts, y6, y7, _, kp, _⟩ => SqL.of (kp _ _ g4fo eg4)) ?_ ?_
    · rintro i x σ H' hx ⟨m, ts, y6, y7, rfl, kp, efo, hts, hm, hT⟩
      have hi : i < L := by
        have := (List.getElem?_eq_some_iff.mp hx).1
        omega
      obtain ⟨r, rfl, rfo, er⟩ := hxs i x hx
      have er' := kp _ _ rfo er
      have ec' := kp _ _ cfo (s5 _ _ ec3)
      have hshort := row_short hcl (L - (i + 1))
      have hpl := K23M.pairs_length (K23M.row (cC ws) (L - (i + 1)))
      have hrl := K23M.row_length (cC ws) (L - (i + 1))
      rw [show L - (i + 1) + 1 = L - i by omega] at hrl
      refine ⟨_, rfl, _, rfl, r, _, rfl, er', by omega, fun H7 p s7 np ep => ?_⟩
      refine ⟨_, rfl, c, p, cC ws, _, m, rfl, s7 _ _ ec', ep, cC_sorted ws, K23M.pairs_ge _ (K23M.row_sorted _ _), by omega, fun t am H8 s8 => ?_⟩
      have tm := am.tm
      have tB := am.mB
      have efo8 := s8 _ _ (s7 _ _ efo)
      refine ⟨_, rfl, .inl ⟨rfl, _, SqL.of efo8⟩, _, rfl, fo, _, _, rfl, rfl, efo8, ?_, ?_⟩
      · unfold tsV
        rw [List.length_map, hts]
        exact small1000 (by omega)
      · refine ⟨_, rfl, _, rfl, _, _, rfl, rfl, 2, (m : Int) - (t : Int), rfl, rfl, .inl ⟨by decide, by decide⟩, 2 * (m - t), ts ++ [t], some (.ref r), some (.int t), ?_, fun b o hb e => ?_, ?_, ?_, ?_, fun us hu => ?_⟩
        · have e : (2 : Int) * ((m : Int) - (t : Int)) = ((2 * (m - t) : Nat) : Int) := by omega
          show ([some (.ref a), some (.int L), some (.ref c), some (.ref g), some (.ref fo), some (.int (2 * ((m : Int) - (t : Int)))), some (.ref r), some (.int t)] : List (Option V)) = _
          rw [e]
        · rw [upd_ne hb]
          exact s8 _ _ (s7 _ _ (kp _ _ hb e))
        · rw [upd_same]
          unfold tsV
          rw [List.map_append]
          rfl
        · rw [List.length_append, hts]
          rfl
        · omega
        · rw [List.append_assoc]
          refine hT _ ?_
          have := K23M.Takes.cons am hu
          rw [show L - (i + 1) + 1 = L - i by omega] at this
          exact this
    · rintro σ H' ⟨m, ts, y6, y7, rfl, kp, efo, hts, hm, hT⟩
      refine ⟨_, rfl, q H' fo ts (fun b o e => kp b o (ne_of_none e nfoH) (s5 _ _ (s3 _ _ e))) nfoH ?_ efo⟩
      have := hT [] (by rw [lxs, Nat.sub_self]; exact .nil m)
      rw [List.append_nil] at this
      exact this
end
end K23
set_option Elab.async false
set_option linter.all false
set_option maxRecDepth 100000
set_option maxHeartbeats 4000000
namespace K23
open PySem PySem.Spec PyProof.Rows L2
/-- the lengths that the packages give, by falling weight -/
def lensL (n : Nat) (ts : List Nat) : List Nat := (List.range n).map fun i => K23M.len ts (1 + i)
/-- how many have each length -/
def cnts (n : Nat) (ts : List Nat) : List Int := (List.range 16).map fun l => (((lensL n ts).filter fun x => decide (x = 1 + l)).length : Int)
/-- a symbol's weight -/
def wtO (ws : List (Int × Int)) (k : Int) : Int := ((ws.find? fun p => decide (p.1 = k)).map (·.2)).getD 0
def keyD (ws : List (Int × Int)) (n : Int) : PyData := .tuple [.int (-(wtO ws n)), .int n]
def syms (ws : List (Int × Int)) : List Int := (ws.map (·.1)).mergeSort (PySem.W.dataLe false (keyD ws))
theorem wtO_mem {ws : List (Int × Int)} (hn : (ws.map (·.1)).Nodup) {p : Int × Int} (h : p ∈ ws) : wtO ws p.1 = p.2 := by
  induction ws with
  | nil => simp at h
  | cons q ws ih =>
    have hn' : (q.1 :: ws.map (·.1)).Nodup := hn
    obtain ⟨h1, h2⟩ := List.nodup_cons.mp hn'
    unfold wtO
    rcases List.mem_cons.mp h with e | m
    · subst e
      rw [List.find?_cons_of_pos (by simp)]
      rfl
    · have ne : ¬ q.1 = p.1 := fun e => h1 (by rw [e]; exact List.mem_map_of_mem m)
      rw [List.find?_cons_of_neg (by simpa using ne)]
      exact ih h2 m
theorem valV_wtO {ws : List (Int × Int)} (hn : (ws.map (·.1)).Nodup) : ∀ k ∈ ws.map (·.1), valV (wK ws) (Sum.inl k) = some (V.int (wtO ws k)) := fun k hk => by
  obtain ⟨p, hp, rfl⟩ := List.mem_map.mp hk
  rw [valV_nd hn p hp, wtO_mem hn hp]
def bI (i t : Nat) : Int := if i < t then 1 else 0
theorem len_sum (ts : List Nat) (i : Nat) : (ts.map fun t => bI i t).sum = (K23M.len ts i : Int) := by
  induction ts with
  | nil => rfl
  | cons t ts ih =>
    rw [List.map_cons, List.sum_cons, ih, K23M.len_cons]
    unfold bI
    split <;> omega
theorem tsV_len (ts : List Nat) : (tsV ts).length = ts.length := List.length_map _
theorem tsV_get {ts : List Nat} {i : Nat} {x : V} (h : (tsV ts)[i]? = some x) : ∃ t, ts[i]? = some t ∧ x = V.int (t : Int) := by
  unfold tsV at h
  rw [List.getElem?_map] at h
  obtain ⟨t, h1, h2⟩ := Option.map_eq_some_iff.mp h
  exact ⟨t, h1, h2.symm⟩
theorem lensL_len (n : Nat) (ts : List Nat) : (lensL n ts).length = n := by unfold lensL; rw [List.length_map, List.length_range]
theorem cnt_filter (l : List Nat) (k : Nat) : ((l.map fun x : Nat => V.int (x : Int)).filter fun v => decide (v = V.int (1 + (k : Int)))).length = (l.filter fun x => decide (x = 1 + k)).length := by
  induction l with
  | nil => rfl
  | cons x l ih =>
    rw [List.map_cons]
    by_cases h : x = 1 + k
    · have h' : V.int (x : Int) = V.int (1 + (k : Int)) := by rw [h, Int.natCast_add]; rfl
      rw [List.filter_cons_of_pos (by simp only [decide_eq_true_eq]; exact h'), List.filter_cons_of_pos (by simpa using h), List.length_cons, List.length_cons, ih]
    · have h' : ¬ V.int (x : Int) = V.int (1 + (k : Int)) := fun z => h (by have := V.int.inj z; omega)
      rw [List.filter_cons_of_neg (by simp only [decide_eq_true_eq]; exact h'), List.filter_cons_of_neg (by simpa using h), ih]
section
variable {P : Program} {w : World} {K : PySem.W.Frag} {mg : Str → Option Value} {base : Heap} {T : List (Addr × Str)}
/-! ### least_table -/
abbrev sLt : Stmt := topS 33
abbrev nLt : List Str := ["weights", "limit", "taken", "lengths", "counts", "at", "many", "length", "one"]
theorem scLt : FnScope nLt ["weights", "limit"] (defScope sLt) := ⟨rfl, rfl, rfl, by decide +kernel, rfl, by decide +kernel, by decide +kernel⟩
theorem lpLt : LamP (defScope sLt) { kind := ScopeKind.function, names := [("symbol", NameKind.local), ("weights", NameKind.free)], isGenerator := false, isCoroutine := false } "symbol" := ⟨rfl, rfl, rfl, by decide +kernel, rfl, by decide +kernel⟩
def spLt (T : List (Addr × Str)) : Sp := fun vs H Q _ => ∃ (a : Addr) (ws : List (Int × Int)) (L : Nat), vs = [.ref a, .int L] ∧ H a = some (.dK (wK ws)) ∧ WOk ws ∧ (1 ≤ L ∧ L ≤ 16) ∧ ws.length < 2 ^ L ∧ LamX.Tabs T H ∧
  ∀ H' t ca sa ts, Ex T H H' → K23M.Takes (cC ws) L (2 * ws.length) ts → TabAt H' t ca sa (cnts ws.length ts) (syms ws) → Q (.ref t) H'
theorem ok_lt {f c P2 fA fT : Addr} {fd fdA fdT : FuncData} (F : FunC K "least_table" "least_table" sLt c f fd) (X : Txt mg) (TB : LamX.TabB base mg c P2) (hmT : (P2, ("least_table.<locals>.<lambda>" : Str)) ∈ T) (huT : ∀ q ∈ T, q.1 = P2 → q.2 = "least_table.<locals>.<lambda>")
    (GA : FnOk P w K mg base CX0 4 fA fdA ["weights", "limit"] (spChkA T)) (bA : Binds K fdA ["weights", "limit"] []) (kA : PySem.W.keepIn K (.ref fA) = true) (gA : mg "check_all" = some (.ref fA))
    (GT : FnOk P w K mg base CX0 3 fT fdT ["weights", "limit"] spTaken) (bT : Binds K fdT ["weights", "limit"] []) (kT : PySem.W.keepIn K (.ref fT) = true) (gT : mg "coins_taken" = some (.ref fT)) : FnOk P w K mg base CX0 5 f fd ["weights", "limit"] (spLt T) := by
  refine F.ok scLt (fun vs H Q E h => ?_) (fun A outer s H vs Q E hr h => ?_)
  · obtain ⟨a, ws, L, rfl, _⟩ := h
    rfl
  · obtain ⟨a, ws, L, rfl, ha, ok, hL, hn, hT, q⟩ := h
    have hlen := ok.len
    obtain ⟨tL, gL⟩ := X.longest
    have hd5 : (A.deeper (envOfC "least_table" (defScope sLt) s.heap.objs.size f (.ref c))).depth + 5 < recursionLimit := by have := hr.dp; omega
    have hu2 : (A.deeper (envOfC "least_table" (defScope sLt) s.heap.objs.size f (.ref c))).units + 2 + 1 < cLine := by have := hr.units; omega
    refine ⟨_, pss_cons (ps_expr (pe_call GA hr (by rfl) gA kA bA .nil pass0 (pa_cons (pv 0) (pa_cons (pv 1) pa_nil))))
      (pss_cons (ps_set (i := 2) scLt.nd rfl (Or.inr rfl) (pe_call GT (hr.mono (by decide)) (by rfl) gT kT bT .nil pass0 (pa_cons (pv 0) (pa_cons (pv 1) pa_nil))))
      (pss_cons (ps_set (i := 3) scLt.nd rfl (Or.inr rfl) (pe_lc (own := [("at", 5)]) (g := gName 5) (tt := tYes) rfl scLt.nd (pi_range2 (by rfl) X.range (pa_cons pe_int (pa_cons (pe_op op_add (pe_callB call_lenD (by rfl) X.len bt_len (pa_cons (pv 0) pa_nil)) pe_int) pa_nil)))
          (blkOk_by (N := nLt) (sc := defScope sLt) (by decide +kernel)) (fun _ _ _ _ _ => pg_name (i := 5) scLt.nd rfl (Or.inr rfl)) (fun _ _ _ _ _ => pts_nil)
          (fun _ _ _ _ _ => pe_callB (r := rSum K) (cr_sum rfl) (by rfl) X.sum bt_sum (pa_cons (pe_lc (own := [("many", 6)]) (wi := iList K (tVar 2)) (g := gName 6) (tt := tYes) rfl scLt.nd (pi_list (pv 2)) (blkOk_by (N := nLt) (sc := { kind := ScopeKind.function, names := [(".0", NameKind.local), ("at", NameKind.cell), ("sum", NameKind.globalImplicit), ("taken", NameKind.cell)], isGenerator := false, isCoroutine := false }) (by decide +kernel))
            (fun _ _ _ _ _ => pg_name (i := 6) scLt.nd rfl (Or.inl rfl)) (fun _ _ _ _ _ => pts_nil)
            (fun _ _ _ _ _ => pe_callTy call_int1 (by rfl) X.int bt_int (pa_cons (pe_cmpR op_gt (pv 6) (pv 5) (nomark _)) pa_nil))) pa_nil))))
      (pss_cons (ps_setLc (i := 4) (own := [("length", 7)]) (g := gName 7) (tt := tYes) rfl scLt.nd rfl rfl (sw_true rfl rfl rfl (by decide +kernel)) (pi_range2 (by rfl) X.range (pa_cons pe_int (pa_cons (pe_op op_add (pe_glob (v := .int 16) rfl gL ⟨_, rfl⟩) pe_int) pa_nil)))
          (blkOk_by (N := nLt) (sc := defScope sLt) (by decide +kernel)) (fun _ _ _ _ _ => pg_name (i := 7) scLt.nd rfl (Or.inr rfl)) (fun _ _ _ _ _ => pts_nil)
          (fun _ _ _ _ _ => pe_callB (r := fun xs H Q => ∃ p ys, xs = [.ref p] ∧ (SqL K H p ys ∨ SqT K H p ys) ∧ Q (.int ys.length) H) call_len_seq (by rfl) X.len bt_len (pa_cons (pe_lc (own := [("one", 8)]) (wi := iList K (tVar 3)) (g := gName 8) (tt := tTest (tOp rEq (tVar 8) (tVar 7))) rfl scLt.nd (pi_list (pv 3)) (blkOk_by (N := nLt) (sc := { kind := ScopeKind.function, names := [(".0", NameKind.local), ("length", NameKind.cell), ("len", NameKind.globalImplicit), ("lengths", NameKind.cell)], isGenerator := false, isCoroutine := false }) (by decide +kernel))
            (fun _ _ _ _ _ => pg_name (i := 8) scLt.nd rfl (Or.inl rfl)) (fun _ _ _ _ _ => pts_one (pt_cmpR op_eq (pv 8) (pv 7) (nomark _)))
            (fun _ _ _ _ _ => pv 8)) pa_nil)))
      (pss_one (ps_ret (pe_tup (pa_cons (pe_callTy call_tuple_of (by rfl) X.tup bt_tup (pa_cons (pv 4) pa_nil)) (pa_cons (pe_callTy call_tuple_of (by rfl) X.tup bt_tup (pa_cons (pe_sortedLam (T := T) (kd := keyD ws) (RD := fun σ H a' ks => σ[0]? = some (some (.ref a')) ∧ H a' = some (.dK (wK ws)) ∧ ∀ k ∈ ks, valV (wK ws) (Sum.inl k) = some (V.int (wtO ws k))) (pr := "symbol") rfl rfl X.sorted (pa_cons (pv 0) pa_nil) TB rfl hmT huT rfl
            lpLt (alike_pair _) (sortable_pair _) (fun x => hu2) (fun pins σ H a' ks rd => lam_pair (i := 0) (kvs := wK ws) lpLt hd5 rfl rd.1 rfl rd.2.1 rd.2.2 (by decide) (by decide) (by decide) (fun _ _ _ _ _ => rfl)) (fun σ H H' a' ks rd e => ⟨rd.1, e _ _ rd.2.1 (fun _ z => nomatch z), rd.2.2⟩)) pa_nil)) pa_nil)))))))), ?_⟩
    refine ⟨_, rfl, _, rfl, a, ws, L, rfl, ha, ok, hL, hn, hT, fun H1 x1 => ?_⟩
    refine ⟨_, rfl, _, rfl, a, ws, L, rfl, x1.dk ha, ok, hL, hn, fun H2 tk ts s2 ntk hts etk => ?_⟩
    have htl : ts.length ≤ 16 := by rw [hts.length]; exact hL.2
    have ha2 : H2 a = some (.dK (wK ws)) := s2 _ _ (x1.dk ha)
    refine ⟨_, rfl, a, wK ws, rfl, ha2, _, _, rfl, rfl, 1, _, rfl, ⟨by decide, by decide, by rw [wK_len]; omega, by rw [wK_len]; omega⟩, fun D3 n3 => lc_map (ys := (lensL ws.length ts).map fun l : Nat => V.int (l : Int)) plain_range n3 ?_ ?_ ?_ ?_⟩
    · rw [List.length_map, List.length_map, List.length_range, lensL_len, wK_len]; omega
    · simp only [List.length_map, List.length_range]; rw [wK_len]; exact Nat.le_trans (show _ ≤ 1000 by omega) (by decide)
    · intro i x y H3 Q' ex ey sm q'
      have hi : i < ws.length := by
        have := (List.getElem?_eq_some_iff.mp ey).1
        rw [List.length_map, lensL_len] at this
        exact this
      rw [List.getElem?_map, List.getElem?_range (by rw [wK_len]; omega)] at ex
      have ex' : V.int (1 + (i : Int)) = x := Option.some.inj ex
      subst ex'
      unfold lensL at ey
      rw [List.getElem?_map, List.getElem?_map, List.getElem?_range hi] at ey
      have ey' : V.int ((K23M.len ts (1 + i) : Nat) : Int) = y := Option.some.inj ey
      subst ey'
      refine ⟨rfl, _, rfl, tk, rfl, ⟨_, SqL.of (sm _ _ etk)⟩, fun D4 n4 => lc_map (ys := (ts.map fun t => bI (1 + i) t).map V.int) (plain_list (SqL.of (sm _ _ etk))) n4 ?_ ?_ ?_ ?_⟩
      · rw [List.length_map, List.length_map, tsV_len]
      · rw [tsV_len]; exact Nat.le_trans htl (by decide)
      · intro j x y H4 Q2 ex2 ey2 sm2 q2
        obtain ⟨t, ht, rfl⟩ := tsV_get ex2
        rw [List.getElem?_map, List.getElem?_map, ht] at ey2
        have ey3 := Option.some.inj ey2
        subst ey3
        refine ⟨rfl, _, rfl, _, rfl, _, _, rfl, rfl, .inr ⟨_, rfl, ?_⟩⟩
        have e : (if decide ((1 + (i : Int)) < (t : Int)) = true then (1 : Int) else 0) = bI (1 + i) t := by
          unfold bI
          by_cases hlt : 1 + i < t
          · rw [if_pos hlt, if_pos (decide_eq_true (by omega))]
          · rw [if_neg hlt, if_neg (by rw [decide_eq_false (by omega)]; decide)]
        show Q2 (V.int (if decide ((1 + (i : Int)) < (t : Int)) = true then (1 : Int) else 0)) H4
        rw [e]
        exact q2 _ (Same.refl _)
      · intro H4 sm4 eD4
        refine ⟨D4, _, rfl, SqL.of eD4, ?_⟩
        rw [len_sum]
        exact q' _ sm4
    · intro H3 s3 e3
      have hll := lensL_len ws.length ts
      refine ⟨_, _, rfl, rfl, 1, _, rfl, ⟨by decide, by decide, by decide, by decide⟩, fun D4 n4 => lc_map (ys := (cnts ws.length ts).map V.int) plain_range n4 ?_ ?_ ?_ ?_⟩
      · unfold cnts; simp
      · simp only [List.length_map, List.length_range]; decide
      · intro i x y H4 Q' ex ey sm q'
        have hi : i < 16 := by
          have := (List.getElem?_eq_some_iff.mp ey).1
          unfold cnts at this
          simpa using this
        rw [List.getElem?_map, List.getElem?_range (by omega)] at ex
        have ex' : V.int (1 + (i : Int)) = x := Option.some.inj ex
        subst ex'
        unfold cnts at ey
        rw [List.getElem?_map, List.getElem?_map, List.getElem?_range hi] at ey
        have ey' := Option.some.inj ey
        subst ey'
        have e4 := sm _ _ e3
        refine ⟨rfl, _, rfl, D3, rfl, ⟨_, SqL.of e4⟩, fun D5 n5 => lc_filter (fun v => decide (v = V.int (1 + (i : Int)))) (plain_list (SqL.of e4)) n5 ?_ (fun _ => rfl) ?_ ?_ ?_⟩
        · rw [List.length_map, hll]; exact Nat.le_trans hlen (by decide)
        · intro x H5 Q2 hx sm5 q2
          obtain ⟨l, hl, rfl⟩ := List.mem_map.mp hx
          exact ⟨_, rfl, _, rfl, rfl, _, rfl, q2 _ (Same.refl _)⟩
        · intro x H5 Q2 hx sm5 q2
          exact ⟨_, rfl, q2 _ (Same.refl _)⟩
        · intro H5 sm5 e5
          refine ⟨D5, _, rfl, .inl (SqL.of e5), ?_⟩
          rw [cnt_filter]
          exact q' _ sm5
      · intro H4 s4 e4
        refine ⟨_, rfl, D4, _, rfl, .inl ⟨SqL.of e4, fun ca nca => ?_⟩⟩
        have s5 : Same H2 (upd H4 ca (.tup ((cnts ws.length ts).map V.int))) := (s3.trans s4).trans (same_upd nca)
        have x5 : Ex T H (upd H4 ca (.tup ((cnts ws.length ts).map V.int))) := x1.trans (.of (s2.trans s5))
        refine ⟨_, rfl, a, wK ws, ws.map (·.1), rfl, s5 _ _ ha2, wK_keys ws, ⟨rfl, s5 _ _ ha2, valV_wtO ok.nd⟩, x5.tab hT, fun H6 e6 t6 p np => ?_⟩
        have x6 : Ex T (upd H4 ca (.tup ((cnts ws.length ts).map V.int))) H6 := ⟨e6, fun _ => t6⟩
        refine ⟨p, (syms ws).map V.int, rfl, .inl ⟨SqL.of upd_same, fun sa nsa => ?_⟩⟩
        refine ⟨by show 2 ≤ sizeLine; decide, fun t nt => ?_⟩
        have y1 : Same H6 (upd H6 p (.lst ((syms ws).map V.int))) := same_upd np
        have y2 : Same (upd H6 p (.lst ((syms ws).map V.int))) (upd (upd H6 p (.lst ((syms ws).map V.int))) sa (.tup ((syms ws).map V.int))) := same_upd nsa
        have y3 : Same (upd (upd H6 p (.lst ((syms ws).map V.int))) sa (.tup ((syms ws).map V.int))) (upd (upd (upd H6 p (.lst ((syms ws).map V.int))) sa (.tup ((syms ws).map V.int))) t (.tup [.ref ca, .ref sa])) := same_upd nt
        refine q _ t ca sa ts (x5.trans (x6.trans (.of (y1.trans (y2.trans y3))))) hts ⟨upd_same, ?_, ?_⟩
        · exact y3 _ _ (y2 _ _ (y1 _ _ (x6.tup upd_same)))
        · exact y3 _ _ upd_same
end
end K23
set_option Elab.async false
set_option linter.all false
set_option maxRecDepth 100000
set_option maxHeartbeats 4000000
namespace K23
open PySem PySem.Spec PyProof.Rows L2
/-- a list of pairs of ints -/
def PairsAt (H : Hp) (D : Addr) (l : List (Int × Int)) : Prop := ∃ as : List Addr, H D = some (.lst (as.map V.ref)) ∧ as.length = l.length ∧ ∀ (i : Nat) (a : Addr) (p : Int × Int), as[i]? = some a → l[i]? = some p → H a = some (.tup [.int p.1, .int p.2])
theorem PairsAt.same {H H' : Hp} {D : Addr} {l : List (Int × Int)} (h : PairsAt H D l) (s : Same H H') : PairsAt H' D l := by
  obtain ⟨as, e, hl, hp⟩ := h
  exact ⟨as, s _ _ e, hl, fun i a p h1 h2 => s _ _ (hp i a p h1 h2)⟩
theorem PairsAt.ext {T : List (Addr × Str)} {H H' : Hp} {D : Addr} {l : List (Int × Int)} (h : PairsAt H D l) (s : Ex T H H') : PairsAt H' D l := by
  obtain ⟨as, e, hl, hp⟩ := h
  exact ⟨as, s.lst e, hl, fun i a p h1 h2 => s.tup (hp i a p h1 h2)⟩
/-- [(a, b) for x in ..]: pairs of ints -/
theorem lc_pairs {J : It} {xs : List V} {ys : List (Int × Int)} {g : TG} {te : TE} {vs : List Nat} {σ : L2.St} {H1 : Hp} {D : Addr} {Qd : Hp → Prop} (pl : Plain J xs H1) (nD : H1 D = none) (hlen : ys.length = xs.length) (hz : xs.length ≤ sizeLine)
    (hs : ∀ (i : Nat) (x : V) (y : Int × Int) (H : Hp) (Q : VK), xs[i]? = some x → ys[i]? = some y → Same H1 H → (∀ H4 t, Same H H4 → H t = none → H4 t = some (.tup [.int y.1, .int y.2]) → Q (.ref t) H4) → g x (wipe σ vs) H fun σ2 H2 => wipe σ2 vs = wipe σ vs ∧ te σ2 H2 Q)
    (hd : ∀ H, Same H1 H → PairsAt H D ys → Qd H) :
    ∃ W : Nat → Nat → Hp → Prop, (∃ m, W 0 m (upd H1 D (.lst []))) ∧ ∀ i m H, W i m H →
      (J.stop i H ∧ Qd H) ∨ (J.go i H ∧ ∃ Nx : Hp → Prop, (∀ H', Nx H' → ∃ m', m' < m ∧ W (i + 1) m' H') ∧ ∀ x H', J.yld i H x H' → g x (wipe σ vs) H' fun σ2 H2 => wipe σ2 vs = wipe σ vs ∧ tYes σ2 H2 fun b H3 =>
        if b = true then te σ2 H3 fun y H4 => ∃ acc, H4 D = some (.lst acc) ∧ acc.length < sizeLine ∧ Nx (upd H4 D (.lst (acc ++ [y]))) else Nx H3) := by
  refine ⟨fun i m H => m = xs.length - i ∧ i ≤ xs.length ∧ Same H1 H ∧ PairsAt H D (ys.take i), ⟨xs.length, by simp, Nat.zero_le _, same_upd nD, ⟨[], upd_same, rfl, fun i a p h => by simp at h⟩⟩, ?_⟩
  rintro i m H ⟨rfl, hi, sm, hD⟩
  by_cases hlt : i < xs.length
  · refine .inr ⟨pl.go i H sm hlt, fun H' => Same H1 H' ∧ PairsAt H' D (ys.take (i + 1)), fun H' p => ⟨xs.length - (i + 1), by omega, rfl, hlt, p⟩, fun x H' y => ?_⟩
    obtain ⟨rfl, ex⟩ := pl.yld i H x H' sm hlt y
    have ey : ys[i]? = some ys[i] := List.getElem?_eq_getElem (by omega)
    refine hs i x ys[i] H' _ ex ey sm fun H4 t s4 nt et => ?_
    obtain ⟨as, e, hl, hp⟩ := hD
    have hl' : as.length = i := by rw [hl, List.length_take]; omega
    have nt2 : ∀ {b : Addr} {o : HO}, H1 b = some o → b ≠ D := fun {b o} e => ne_of_none e nD
    have tD : t ≠ D := Ne.symm (ne_of_none e nt)
    have aD : ∀ (j : Nat) (a : Addr), as[j]? = some a → a ≠ D := fun j a ha => by
      have hj : j < as.length := (List.getElem?_eq_some_iff.mp ha).1
      have e2 : (ys.take i)[j]? = some ys[j] := by
        rw [List.getElem?_take, if_pos (by omega), List.getElem?_eq_getElem (by omega)]
      exact ne_of (hp j a _ ha e2) e (by intro z; cases z)
    refine ⟨as.map V.ref, s4 _ _ e, by rw [List.length_map]; omega, fun b o eb => ?_, as ++ [t], ?_, ?_, fun j a p h1 h2 => ?_⟩
    · rw [upd_ne (nt2 eb)]
      exact s4 _ _ (sm _ _ eb)
    · rw [upd_same, List.map_append]
      rfl
    · rw [List.length_append, List.length_take, List.length_singleton, hl']
      omega
    · by_cases hj : j < as.length
      · rw [List.getElem?_append_left hj] at h1
        have h2' : (ys.take i)[j]? = some p := by
          rw [List.getElem?_take, if_pos (by omega)] at h2 ⊢
          exact h2
        rw [upd_ne (aD j a h1)]
        exact s4 _ _ (hp j a p h1 h2')
      · rw [List.getElem?_append_right (by omega)] at h1
        have hj0 : j - as.length = 0 := by
          have := (List.getElem?_eq_some_iff.mp h1).1
          simp only [List.length_singleton] at this
          omega
        rw [hj0] at h1
        cases h1
        have hji : j = i := by omega
        rw [List.getElem?_take, if_pos (by omega), hji, ey] at h2
        cases h2
        rw [upd_ne tD]
        exact et
  · have e : i = xs.length := by omega
    subst e
    refine .inl ⟨pl.stop H sm, hd H sm ?_⟩
    rw [List.take_of_length_le (by omega)] at hD
    exact hD
/-- what codes are known of the weights' symbols -/
def KnownAt (H : Hp) (d : Addr) (ws : List (Int × Int)) (lam : Int → Nat) : Prop := ∃ kvs : List (Key × V), H d = some (.dK kvs) ∧ ∀ p ∈ ws, ∃ (q : Addr) (bs : List V), valV kvs (Sum.inl p.1) = some (.ref q) ∧ H q = some (.tup bs) ∧ bs.length = lam p.1
theorem KnownAt.same {H H' : Hp} {d : Addr} {ws : List (Int × Int)} {lam : Int → Nat} (h : KnownAt H d ws lam) (s : Same H H') : KnownAt H' d ws lam := by
  obtain ⟨kvs, e, r⟩ := h
  refine ⟨kvs, s _ _ e, fun p hp => ?_⟩
  obtain ⟨q, bs, h1, h2, h3⟩ := r p hp
  exact ⟨q, bs, h1, s _ _ h2, h3⟩
/-- the length of a symbol's code in a table -/
def lamT (cs ss : List Int) (s : Int) : Nat := (expL 1 cs).getD (ss.idxOf s) 0
theorem known_of {H : Hp} {d : Addr} {cs ss : List Int} {ws : List (Int × Int)} (ok : TabOk cs ss) (h : CodesAt H d ss (expL 1 cs) ss.length) (hs : ∀ p ∈ ws, p.1 ∈ ss) : KnownAt H d ws (lamT cs ss) := by
  obtain ⟨kvs, e, _, r⟩ := h
  refine ⟨kvs, e, fun p hp => ?_⟩
  have hm := hs p hp
  have hi : ss.idxOf p.1 < ss.length := List.idxOf_lt_length_of_mem hm
  have e1 : ss[ss.idxOf p.1]? = some p.1 := by
    rw [List.getElem?_eq_getElem hi, List.getElem_idxOf]
  have hel : (expL 1 cs).length = ss.length := by
    have h1 := preN_all ok.cnt.rng
    have h2 := ok.sum
    rw [exp_len]
    omega
  have e2 : (expL 1 cs)[ss.idxOf p.1]? = some (lamT cs ss p.1) := by
    unfold lamT
    rw [List.getD_eq_getElem?_getD, List.getElem?_eq_getElem (by omega)]
    rfl
  exact r _ _ _ hi e1 e2
def bitsSum (ws : List (Int × Int)) (lam : Int → Nat) : Int := (ws.map fun p => p.2 * (lam p.1 : Int)).sum
section
variable {P : Program} {w : World} {K : PySem.W.Frag} {mg : Str → Option Value} {base : Heap} {T : List (Addr × Str)}
/-! ### bits_by -/
abbrev sBy : Stmt := topS 34
theorem scBy : FnScope ["weights", "known", "symbol"] ["weights", "known"] (defScope sBy) := ⟨rfl, rfl, rfl, by decide +kernel, rfl, by decide +kernel, by decide +kernel⟩
def spBy : Sp := fun vs H Q _ => ∃ (a d : Addr) (ws : List (Int × Int)) (lam : Int → Nat), vs = [.ref a, .ref d] ∧ H a = some (.dK (wK ws)) ∧ WOk ws ∧ KnownAt H d ws lam ∧ a ≠ d ∧ ∀ H', Same H H' → Q (.int (bitsSum ws lam)) H'
theorem ok_by {f : Addr} {fd : FuncData} (F : Fun K "bits_by" "bits_by" sBy f fd) (X : Txt mg) : FnOk P w K mg base CX0 1 f fd ["weights", "known"] spBy := by
  refine F.ok scBy (fun vs H Q E h => ?_) (fun cdv A outer s H vs Q E hr h => ?_)
  · obtain ⟨a, d, ws, lam, rfl, _⟩ := h
    rfl
  · obtain ⟨a, d, ws, lam, rfl, ha, ok, hk, had, q⟩ := h
    have hu := hu_of hr
    have hlen := ok.len
    refine ⟨_, pss_cons (ps_for PassesOwn.never rfl (pi_list (pe_callB (cr_sortedDN rfl) (by rfl) X.sorted bt_sorted (pa_cons (pv 0) pa_nil))) (pg_name (i := 2) scBy.nd rfl (.inl rfl))
        (pss_one (ps_if (pt_cmp (pc_dnotin hu (pv 2) (pv 1))) (pss_one ps_never) pss_nil)))
      (pss_one (ps_ret (pe_callB (cr_sum rfl) (by rfl) X.sum bt_sum (pa_cons (pe_lock (pe_lc (own := [("symbol", 2)]) (g := gName 2) (tt := tYes) rfl scBy.nd (pi_keys (pv 0))
        (blkOk_by (N := ["weights", "known", "symbol"]) (sc := defScope sBy) (by decide +kernel)) (fun _ _ _ _ _ => pg_name (i := 2) scBy.nd rfl (Or.inl rfl)) (fun _ _ _ _ _ => pts_nil)
        (fun _ _ _ _ _ => pe_op op_mul (pe_dget hu (pv 0) (pv 2) (fun _ _ => rfl)) (pe_callB (r := fun xs H Q => ∃ p ys, xs = [.ref p] ∧ (SqL K H p ys ∨ SqT K H p ys) ∧ Q (.int ys.length) H) call_len_seq (by rfl) X.len bt_len (pa_cons (pe_dget hu (pv 1) (pv 2) (fun _ _ => rfl)) pa_nil))))) pa_nil)))), ?_⟩
    refine ⟨_, rfl, a, wK ws, ws.map (·.1), rfl, ha, wK_keys ws, fun ys p hp _ np => ?_⟩
    refine ⟨p, rfl, ⟨_, SqL.of upd_same⟩, ?_⟩
    have s1 : Same H (upd H p (.lst (ys.map V.int))) := same_upd np
    refine for_list (K := K) (a := p) (xs := ys.map V.int) (fun i σ H' => ∃ y : Option V, σ = [some (.ref a), some (.ref d), y] ∧ Same (upd H p (.lst (ys.map V.int))) H') ⟨none, rfl, Same.refl _⟩ (fun i σ H' _ ⟨y, _, sm⟩ => sm.seq (SqL.of upd_same)) ?_ ?_
    · rintro i x σ H' hx ⟨y, rfl, sm⟩
      rw [List.getElem?_map] at hx
      obtain ⟨k, h1, h2⟩ := Option.map_eq_some_iff.mp hx
      subst h2
      obtain ⟨pr, hpr, rfl⟩ := List.mem_map.mp (hp.subset (List.mem_of_getElem? h1))
      obtain ⟨kvs, e, r⟩ := hk.same (s1.trans sm)
      obtain ⟨qa, bs, h3, h4, h5⟩ := r pr hpr
      refine ⟨_, rfl, _, rfl, d, some (.ref qa), rfl, .inl ⟨kvs, Sum.inl pr.1, .inl e, rfl, h3.symm⟩, _, rfl, iteF ?_⟩
      exact ⟨_, rfl, sm⟩
    · rintro σ H' ⟨y, rfl, sm⟩
      have sA := s1.trans sm
      refine ⟨a, _, sA _ _ ha, trivial, fun od => ?_⟩
      refine ⟨_, rfl, a, od, rfl, .inl ⟨wK ws, upd_same, fun D nD => lc_map (ys := (ws.map fun p => p.2 * (lam p.1 : Int)).map V.int) (plain_keys upd_same) nD ?_ ?_ ?_ ?_⟩⟩
      · rw [List.length_map, List.length_map, List.length_map, wK_len]
      · rw [List.length_map, wK_len]; exact Nat.le_trans hlen (by decide)
      · intro i x y H2 Q' ex ey sm2 q'
        obtain ⟨pr, hp2, rfl⟩ := wK_at ex
        rw [List.getElem?_map, List.getElem?_map, hp2] at ey
        have ey' := Option.some.inj ey
        subst ey'
        have hm := List.mem_of_getElem? hp2
        have hw := ok.wt pr hm
        obtain ⟨kvs, e, r⟩ := hk.same sA
        obtain ⟨qa, bs, h3, h4, h5⟩ := r pr hm
        have e2 : H2 d = some (.dK kvs) := sm2 _ _ (by rw [upd_ne (Ne.symm had)]; exact e)
        have qne : qa ≠ a := ne_of h4 (sA _ _ ha) (by intro z; cases z)
        have e4 : H2 qa = some (.tup bs) := sm2 _ _ (by rw [upd_ne qne]; exact h4)
        refine ⟨rfl, _, rfl, _, rfl, a, V.int pr.2, rfl, .inl ⟨wK ws, Sum.inl pr.1, .inr ⟨od, sm2 _ _ upd_same⟩, rfl, (valV_nd ok.nd pr hm).symm⟩, ?_⟩
        refine ⟨_, rfl, _, rfl, d, .ref qa, rfl, .inl ⟨kvs, Sum.inl pr.1, .inl e2, rfl, h3.symm⟩, qa, bs, rfl, .inr (SqT.of e4), pr.2, (bs.length : Int), rfl, rfl, .inl ⟨by omega, by omega⟩, ?_⟩
        rw [h5]
        exact q' _ (Same.refl _)
      · intro H2 sm2 eD
        have hl1 := same_locked sm2
        have sB : Same H' (upd H2 a (.dK (wK ws))) := same_unlock sm2 (sA _ _ ha)
        have nDa : D ≠ a := fun z => by rw [z, upd_same] at nD; cases nD
        exact ⟨hl1, D, _, rfl, SqL.of (by rw [upd_ne nDa]; exact eD), q _ (sA.trans sB)⟩
/-! ### table_bits -/
abbrev sTb : Stmt := topS 35
theorem scTb : FnScope ["weights", "table"] ["weights", "table"] (defScope sTb) := ⟨rfl, rfl, rfl, by decide +kernel, rfl, by decide +kernel, by decide +kernel⟩
def spTb (T : List (Addr × Str)) : Sp := fun vs H Q _ => ∃ (a t ca sa : Addr) (ws : List (Int × Int)) (cs ss : List Int), vs = [.ref a, .ref t] ∧ H a = some (.dK (wK ws)) ∧ WOk ws ∧ TabAt H t ca sa cs ss ∧ TabOk cs ss ∧ (∀ p ∈ ws, p.1 ∈ ss) ∧ LamX.Tabs T H ∧ ∀ H', Ex T H H' → Q (.int (bitsSum ws (lamT cs ss))) H'
theorem ok_tb {f fW fC fB : Addr} {fd fdW fdC fdB : FuncData} (F : Fun K "table_bits" "table_bits" sTb f fd)
    (GW : FnOk P w K mg base CX0 3 fW fdW ["weights"] (spChkW T)) (bW : Binds K fdW ["weights"] []) (kW : PySem.W.keepIn K (.ref fW) = true) (gW : mg "check_weights" = some (.ref fW))
    (GC : FnOk P w K mg base CX0 5 fC fdC ["table"] spCodes) (bC : Binds K fdC ["table"] []) (kC : PySem.W.keepIn K (.ref fC) = true) (gC : mg "codes" = some (.ref fC))
    (GB : FnOk P w K mg base CX0 1 fB fdB ["weights", "known"] spBy) (bB : Binds K fdB ["weights", "known"] []) (kB : PySem.W.keepIn K (.ref fB) = true) (gB : mg "bits_by" = some (.ref fB)) : FnOk P w K mg base CX0 6 f fd ["weights", "table"] (spTb T) := by
  refine F.ok scTb (fun vs H Q E h => ?_) (fun cdv A outer s H vs Q E hr h => ?_)
  · obtain ⟨a, t, ca, sa, ws, cs, ss, rfl, _⟩ := h
    rfl
  · obtain ⟨a, t, ca, sa, ws, cs, ss, rfl, ha, ok, ht, tok, hs, hT, q⟩ := h
    refine ⟨_, pss_cons (ps_expr (pe_call GW (hr.mono (by decide)) (by rfl) gW kW bW .nil pass0 (pa_cons (pv 0) pa_nil)))
      (pss_one (ps_ret (pe_call GB (hr.mono (by decide)) (by rfl) gB kB bB .nil pass0 (pa_cons (pv 0) (pa_cons (pe_call GC hr (by rfl) gC kC bC .nil pass0 (pa_cons (pv 1) pa_nil)) pa_nil))))), ?_⟩
    refine ⟨_, rfl, a, ws, rfl, ha, ok, hT, fun H1 x1 => ?_⟩
    refine ⟨_, rfl, _, rfl, t, ca, sa, cs, ss, rfl, x1.tabAt ht, tok, fun H2 d s2 nd hc => ?_⟩
    have e1 := x1.dk ha
    exact ⟨a, d, ws, _, rfl, s2 _ _ e1, ok, known_of tok hc hs, ne_of_none e1 nd, fun H3 s3 => q _ (x1.trans (.of (s2.trans s3)))⟩
end
end K23
set_option Elab.async false
set_option linter.all false
set_option maxRecDepth 100000
set_option maxHeartbeats 4000000
namespace K23
open PySem PySem.Spec PyProof.Rows L2
/-- d was nothing that is known -/
def New (H : Hp) (d : Addr) : Prop := ∀ b o, H b = some o → (∀ ps, o ≠ .tbl ps) → b ≠ d
theorem New.of {T : List (Addr × Str)} {H H1 : Hp} {d : Addr} (x : Ex T H H1) (n : H1 d = none) : New H d := fun b o e ne z => by
  have := x.ext b o e ne
  rw [z, n] at this
  cases this
theorem New.back {T : List (Addr × Str)} {H H1 : Hp} {d : Addr} (x : Ex T H H1) (n : New H1 d) : New H d := fun b o e ne => n b o (x.ext b o e ne) ne
theorem Ex.write2 {T : List (Addr × Str)} {H H2 : Hp} {d : Addr} {o o' : HO} (n : New H d) (b : Ex T H H2) (e : H2 d = some o) (ne : ∀ ps, o ≠ .tbl ps) (nc : ∀ c q, o ≠ LamX.CodeO c q) : Ex T H (upd H2 d o') := by
  refine ⟨fun x u hx hu => ?_, fun h p hp => ?_⟩
  · rw [upd_ne (n x u hx hu)]
    exact b.ext x u hx hu
  · obtain ⟨ps, e1, e2, e3⟩ := b.tab h p hp
    have nd : p.1 ≠ d := fun z => by
      rw [z, e] at e1
      exact ne ps (Option.some.inj e1)
    refine ⟨ps, by rw [upd_ne nd]; exact e1, e2, fun pos cv hc => ?_⟩
    obtain ⟨c, e4, e5⟩ := e3 pos cv hc
    have cd : c ≠ d := fun z => by
      rw [z, e] at e5
      exact nc _ _ (Option.some.inj e5)
    exact ⟨c, e4, by rw [upd_ne cd]; exact e5⟩
/-- the limits with which there is a table -/
def limsL (n : Nat) : List Nat := ((List.range 16).map fun i => 1 + i).filter fun l => decide (n < 2 ^ l)
def pLim (n : Nat) : V → Bool := fun v => match v with
  | .int l => decide ((n : Int) < 1 * 2 ^ l.toNat)
  | _ => false
theorem lims_filter (n : Nat) : ((List.range 16).map fun (i : Nat) => V.int (1 + (i : Int))).filter (pLim n) = (limsL n).map fun l : Nat => V.int (l : Int) := by
  unfold limsL
  generalize List.range 16 = r
  induction r with
  | nil => rfl
  | cons i r ih =>
    have e : pLim n (V.int (1 + (i : Int))) = decide (n < 2 ^ (1 + i)) := by
      show decide ((n : Int) < 1 * 2 ^ (1 + (i : Int)).toNat) = _
      have e2 : (1 + (i : Int)).toNat = 1 + i := by omega
      rw [e2]
      have e3 : ((2 : Int) ^ (1 + i)) = ((2 ^ (1 + i) : Nat) : Int) := by simp
      rw [e3]
      exact decide_eq_decide.mpr (by omega)
    rw [List.map_cons, List.map_cons]
    by_cases h : n < 2 ^ (1 + i)
    · rw [List.filter_cons_of_pos (by rw [e, decide_eq_true h]), List.filter_cons_of_pos (by rw [decide_eq_true h]), List.map_cons, ih]
      congr 2
    · rw [List.filter_cons_of_neg (by rw [e, decide_eq_false h]; decide), List.filter_cons_of_neg (by rw [decide_eq_false h]; decide), ih]
theorem lims_mem {n l : Nat} (h : l ∈ limsL n) : (1 ≤ l ∧ l ≤ 16) ∧ n < 2 ^ l := by
  unfold limsL at h
  obtain ⟨h1, h2⟩ := List.mem_filter.mp h
  obtain ⟨i, hi, rfl⟩ := List.mem_map.mp h1
  have := List.mem_range.mp hi
  exact ⟨⟨by omega, by omega⟩, by simpa using h2⟩
theorem lims_len (n : Nat) : (limsL n).length ≤ 16 := by
  unfold limsL
  exact Nat.le_trans (List.length_filter_le _ _) (by simp)
def dueL (ws : List (Int × Int)) : List (Int × Int) := (limsL ws.length).map fun l : Nat => ((l : Int), few ws l)
section
variable {P : Program} {w : World} {K : PySem.W.Frag} {mg : Str → Option Value} {base : Heap} {T : List (Addr × Str)}
/-! ### is_least -/
abbrev sIl : Stmt := topS 36
abbrev nIl : List Str := ["weights", "table", "limit", "known", "symbol"]
theorem scIl : FnScope nIl ["weights", "table", "limit"] (defScope sIl) := ⟨rfl, rfl, rfl, by decide +kernel, rfl, by decide +kernel, by decide +kernel⟩
def spIl (T : List (Addr × Str)) : Sp := fun vs H Q _ => ∃ (a t ca sa : Addr) (ws : List (Int × Int)) (cs ss : List Int) (L : Nat), vs = [.ref a, .ref t, .int L] ∧ H a = some (.dK (wK ws)) ∧ WOk ws ∧ TabAt H t ca sa cs ss ∧ TabOk cs ss ∧ (1 ≤ L ∧ L ≤ 16) ∧ ws.length < 2 ^ L ∧ (∀ p ∈ ws, p.1 ∈ ss ∧ lamT cs ss p.1 ≤ L) ∧ bitsSum ws (lamT cs ss) = few ws L ∧ LamX.Tabs T H ∧ ∀ H', Ex T H H' → Q (.bl true) H'
theorem ok_il {f fW fT fL fR fC fB fF : Addr} {fd fdW fdT fdL fdR fdC fdB fdF : FuncData} (F : FunD K "is_least" "is_least" (defArgs sIl) (defBody sIl) (defScope sIl) [.int 16] [] f fd) (X : Txt mg)
    (GW : FnOk P w K mg base CX0 3 fW fdW ["weights"] (spChkW T)) (bW : Binds K fdW ["weights"] []) (kW : PySem.W.keepIn K (.ref fW) = true) (gW : mg "check_weights" = some (.ref fW))
    (GT : FnOk P w K mg base CX0 4 fT fdT ["table"] spChkT) (bT : Binds K fdT ["table"] []) (kT : PySem.W.keepIn K (.ref fT) = true) (gT : mg "check_table" = some (.ref fT))
    (GL : FnOk P w K mg base CX0 2 fL fdL ["limit"] spChkL) (bL : Binds K fdL ["limit"] []) (kL : PySem.W.keepIn K (.ref fL) = true) (gL : mg "check_limit" = some (.ref fL))
    (GR : FnOk P w K mg base CX0 1 fR fdR ["weights", "limit"] spChkR) (bR : Binds K fdR ["weights", "limit"] []) (kR : PySem.W.keepIn K (.ref fR) = true) (gR : mg "check_room" = some (.ref fR))
    (GC : FnOk P w K mg base CX0 5 fC fdC ["table"] spCodes) (bC : Binds K fdC ["table"] []) (kC : PySem.W.keepIn K (.ref fC) = true) (gC : mg "codes" = some (.ref fC))
    (GB : FnOk P w K mg base CX0 1 fB fdB ["weights", "known"] spBy) (bB : Binds K fdB ["weights", "known"] []) (kB : PySem.W.keepIn K (.ref fB) = true) (gB : mg "bits_by" = some (.ref fB))
    (GF : FnOk P w K mg base CX0 3 fF fdF ["weights", "limit"] spFew) (bF : Binds K fdF ["weights", "limit"] []) (kF : PySem.W.keepIn K (.ref fF) = true) (gF : mg "fewest_bits" = some (.ref fF)) : FnOk P w K mg base CX0 6 f fd ["weights", "table", "limit"] (spIl T) := by
  refine F.ok scIl (fun vs H Q E h => ?_) (fun cdv A outer s H vs Q E hr h => ?_)
  · obtain ⟨a, t, ca, sa, ws, cs, ss, L, rfl, _⟩ := h
    rfl
  · obtain ⟨a, t, ca, sa, ws, cs, ss, L, rfl, ha, ok, ht, tok, hL, hn, hs, hbits, hT, q⟩ := h
    have hu := hu_of hr
    have hlen := ok.len
    refine ⟨_, PSs.nox (pss_cons (ps_expr (pe_call GW (hr.mono (by decide)) (by rfl) gW kW bW .nil pass0 (pa_cons (pv 0) pa_nil)))
      (pss_cons (ps_expr (pe_call GT (hr.mono (by decide)) (by rfl) gT kT bT .nil pass0 (pa_cons (pv 1) pa_nil)))
      (pss_cons (ps_expr (pe_call GL (hr.mono (by decide)) (by rfl) gL kL bL .nil pass0 (pa_cons (pv 2) pa_nil)))
      (pss_cons (ps_expr (pe_call GR (hr.mono (by decide)) (by rfl) gR kR bR .nil pass0 (pa_cons (pv 0) (pa_cons (pv 2) pa_nil))))
      (pss_cons (ps_set (i := 3) scIl.nd rfl (Or.inr rfl) (pe_call GC hr (by rfl) gC kC bC .nil pass0 (pa_cons (pv 1) pa_nil)))
      (pss_cons (ps_if (pt_not (pt_val (pe_callB (cr_all rfl) (by rfl) X.all bt_all (pa_cons (pe_lock (pe_lc (own := [("symbol", 4)]) (g := gName 4) (tt := tYes) rfl scIl.nd (pi_keys (pv 0))
          (blkOk_by (N := nIl) (sc := defScope sIl) (by decide +kernel)) (fun _ _ _ _ _ => pg_name (i := 4) scIl.nd rfl (Or.inl rfl)) (fun _ _ _ _ _ => pts_nil)
          (fun _ _ _ _ _ => pe_and (pe_cmp (pc_din hu (pv 4) (pv 3))) (pe_one (pe_cmpR op_le (pe_callB (r := fun xs H Q => ∃ p ys, xs = [.ref p] ∧ (SqL K H p ys ∨ SqT K H p ys) ∧ Q (.int ys.length) H) call_len_seq (by rfl) X.len bt_len (pa_cons (pe_dget hu (pv 3) (pv 4) (fun _ _ => rfl)) pa_nil)) (pv 2) (nomark _)))))) pa_nil))))
        (pss_one (ps_ret pe_bl)) pss_nil)
      (pss_one (ps_ret (pe_cmpR op_eq (pe_call GB (hr.mono (by decide)) (by rfl) gB kB bB .nil pass0 (pa_cons (pv 0) (pa_cons (pv 3) pa_nil))) (pe_call GF (hr.mono (by decide)) (by rfl) gF kF bF .nil pass0 (pa_cons (pv 0) (pa_cons (pv 2) pa_nil))) (nomark _)))))))))), ?_⟩
    refine ⟨_, rfl, a, ws, rfl, ha, ok, hT, fun H1 x1 => ?_⟩
    refine ⟨_, rfl, t, ca, sa, cs, ss, rfl, x1.tabAt ht, tok, fun H2 s2 => ?_⟩
    refine ⟨_, rfl, L, rfl, hL, ?_⟩
    have e2 := s2 _ _ (x1.dk ha)
    refine ⟨_, rfl, _, rfl, a, ws, L, rfl, e2, hL.2, hn, ?_⟩
    refine ⟨_, rfl, t, ca, sa, cs, ss, rfl, (Ex.of (T := T) s2).tabAt (x1.tabAt ht), tok, fun H3 d s3 nd hc => ?_⟩
    have hk := known_of tok hc fun p hp => (hs p hp).1
    have had : a ≠ d := ne_of_none e2 nd
    have e3 := s3 _ _ e2
    refine ⟨a, _, e3, trivial, fun od => ?_⟩
    refine ⟨_, rfl, a, od, rfl, .inl ⟨wK ws, upd_same, fun D nD => lc_map (ys := (List.replicate ws.length true).map V.bl) (plain_keys upd_same) nD ?_ ?_ ?_ ?_⟩⟩
    · rw [List.length_map, List.length_map, List.length_replicate, wK_len]
    · rw [List.length_map, wK_len]; exact Nat.le_trans hlen (by decide)
    · intro i x y H4 Q' ex ey sm q'
      obtain ⟨pr, hp2, rfl⟩ := wK_at ex
      rw [List.getElem?_map] at ey
      obtain ⟨bb, hb1, hb2⟩ := Option.map_eq_some_iff.mp ey
      have ebb : bb = true := List.eq_of_mem_replicate (List.mem_of_getElem? hb1)
      subst ebb hb2
      have hm := List.mem_of_getElem? hp2
      obtain ⟨kvs, e, r⟩ := hk
      obtain ⟨qa, bs, h3, h4, h5⟩ := r pr hm
      have ed : H4 d = some (.dK kvs) := sm _ _ (by rw [upd_ne (Ne.symm had)]; exact e)
      have qne : qa ≠ a := ne_of h4 e3 (by intro z; cases z)
      have e4 : H4 qa = some (.tup bs) := sm _ _ (by rw [upd_ne qne]; exact h4)
      refine ⟨rfl, _, rfl, _, rfl, d, some (.ref qa), rfl, .inl ⟨kvs, Sum.inl pr.1, .inl ed, rfl, h3.symm⟩, _, rfl, iteT ?_⟩
      refine ⟨_, rfl, _, rfl, d, .ref qa, rfl, .inl ⟨kvs, Sum.inl pr.1, .inl ed, rfl, h3.symm⟩, qa, bs, rfl, .inr (SqT.of e4), _, rfl, _, _, rfl, rfl, ?_⟩
      show Q' (.bl (decide ((bs.length : Int) ≤ (L : Int)))) H4
      rw [decide_eq_true (show (bs.length : Int) ≤ (L : Int) by have := (hs pr hm).2; omega)]
      exact q' _ (Same.refl _)
    · intro H4 sm eD
      have hl1 := same_locked sm
      have sB : Same H3 (upd H4 a (.dK (wK ws))) := same_unlock sm e3
      have nDa : D ≠ a := fun z => by rw [z, upd_same] at nD; cases nD
      refine ⟨hl1, D, List.replicate ws.length true, rfl, SqL.of (by rw [upd_ne nDa]; exact eD), _, rfl, ?_⟩
      rw [bl_true]
      refine iteF ?_
      refine ⟨_, rfl, _, rfl, a, d, ws, _, rfl, sB _ _ e3, ok, hk.same sB, had, fun H5 s5 => ?_⟩
      refine ⟨_, rfl, _, rfl, a, ws, L, rfl, s5 _ _ (sB _ _ e3), ok, hL, fun H6 s6 => ⟨rfl, ?_⟩⟩
      rw [hbits, decide_eq_true rfl]
      exact q _ (x1.trans (.of (s2.trans (s3.trans (sB.trans (s5.trans s6))))))
/-! ### by_limits -/
abbrev sBl : Stmt := topS 37
abbrev nBl : List Str := ["weights", "some", "limit"]
theorem scBl : FnScope nBl ["weights"] (defScope sBl) := ⟨rfl, rfl, rfl, by decide +kernel, rfl, by decide +kernel, by decide +kernel⟩
def spBl (T : List (Addr × Str)) : Sp := fun vs H Q _ => ∃ (a : Addr) (ws : List (Int × Int)), vs = [.ref a] ∧ H a = some (.dK (wK ws)) ∧ WOk ws ∧ LamX.Tabs T H ∧ ∀ H' r, Ex T H H' → New H r → PairsAt H' r (dueL ws) → Q (.ref r) H'
theorem ok_bl {f fW fF : Addr} {fd fdW fdF : FuncData} (F : Fun K "by_limits" "by_limits" sBl f fd) (X : Txt mg)
    (GW : FnOk P w K mg base CX0 3 fW fdW ["weights"] (spChkW T)) (bW : Binds K fdW ["weights"] []) (kW : PySem.W.keepIn K (.ref fW) = true) (gW : mg "check_weights" = some (.ref fW))
    (GF : FnOk P w K mg base CX0 3 fF fdF ["weights", "limit"] spFew) (bF : Binds K fdF ["weights", "limit"] []) (kF : PySem.W.keepIn K (.ref fF) = true) (gF : mg "fewest_bits" = some (.ref fF)) : FnOk P w K mg base CX0 4 f fd ["weights"] (spBl T) := by
  refine F.ok scBl (fun vs H Q E h => ?_) (fun cdv A outer s H vs Q E hr h => ?_)
  · obtain ⟨a, ws, rfl, _⟩ := h
    rfl
  · obtain ⟨a, ws, rfl, ha, ok, hT, q⟩ := h
    obtain ⟨tL, gL⟩ := X.longest
    refine ⟨_, pss_cons (ps_expr (pe_call GW hr (by rfl) gW kW bW .nil pass0 (pa_cons (pv 0) pa_nil)))
      (pss_cons (ps_setLc (i := 1) (own := [("limit", 2)]) (g := gName 2) (tt := tTest (tOp (rI0 fun i j => .bl (decide (i < j))) (tCB (fun xs H Q => ∃ a kvs, xs = [V.ref a] ∧ H a = some (.dK kvs) ∧ Q (.int kvs.length) H) (tCons (tVar 0) tNil)) (tOp (rI CPow fun i j => .int (i * 2 ^ j.toNat)) (tC (.int 1)) (tVar 2)))) rfl scBl.nd rfl rfl (sw_true rfl rfl rfl (by decide +kernel)) (pi_range2 (by rfl) X.range (pa_cons pe_int (pa_cons (pe_op op_add (pe_glob (v := .int 16) rfl gL ⟨_, rfl⟩) pe_int) pa_nil)))
          (blkOk_by (N := nBl) (sc := defScope sBl) (by decide +kernel)) (fun _ _ _ _ _ => pg_name (i := 2) scBl.nd rfl (Or.inl rfl)) (fun _ _ _ _ _ => pts_one (pt_cmpR op_lt (pe_callB call_lenD (by rfl) X.len bt_len (pa_cons (pv 0) pa_nil)) (pe_op op_shl pe_int (pv 2)) (nomark _)))
          (fun _ _ _ _ _ => pv 2))
      (pss_one (ps_ret (pe_lc (own := [("limit", 2)]) (g := gName 2) (tt := tYes) rfl scBl.nd (pi_list (pv 1)) (blkOk_by (N := nBl) (sc := defScope sBl) (by decide +kernel)) (fun _ _ _ _ _ => pg_name (i := 2) scBl.nd rfl (Or.inl rfl)) (fun _ _ _ _ _ => pts_nil)
          (fun _ _ _ _ _ => pe_tup (pa_cons (pv 2) (pa_cons (pe_call GF hr (by rfl) gF kF bF .nil pass0 (pa_cons (pv 0) (pa_cons (pv 2) pa_nil))) pa_nil))))))), ?_⟩
    refine ⟨_, rfl, a, ws, rfl, ha, ok, hT, fun H1 x1 => ?_⟩
    have e1 := x1.dk ha
    refine ⟨_, _, rfl, rfl, 1, _, rfl, ⟨by decide, by decide, by decide, by decide⟩, fun D nD => lc_filter (pLim ws.length) plain_range nD ?_ (fun _ => rfl) ?_ ?_ ?_⟩
    · simp only [List.length_map, List.length_range]; decide
    · intro x H2 Q2 hx sm q2
      obtain ⟨i, hi, rfl⟩ := List.mem_map.mp hx
      have hi16 : i < 16 := by have := List.mem_range.mp hi; omega
      refine ⟨_, rfl, a, wK ws, rfl, sm _ _ e1, _, rfl, 1, _, rfl, rfl, ⟨by omega, by omega, by decide⟩, _, _, rfl, rfl, _, rfl, ?_⟩
      rw [wK_len]
      exact q2 _ (Same.refl _)
    · intro x H2 Q2 hx sm q2
      exact ⟨_, rfl, q2 _ (Same.refl _)⟩
    · intro H2 s2 e2
      have e2' : H2 D = some (.lst ((limsL ws.length).map fun l : Nat => V.int (l : Int))) := by
        rw [e2]
        congr 2
        exact lims_filter _
      refine ⟨_, rfl, D, rfl, ⟨_, SqL.of e2'⟩, fun D2 nD2 => lc_pairs (ys := dueL ws) (plain_list (SqL.of e2')) nD2 ?_ ?_ ?_ ?_⟩
      · unfold dueL; rw [List.length_map, List.length_map]
      · rw [List.length_map]; exact Nat.le_trans (lims_len _) (by decide)
      · intro i x y H3 Q3 ex ey sm q3
        unfold dueL at ey
        rw [List.getElem?_map] at ex ey
        obtain ⟨l, h1, h2⟩ := Option.map_eq_some_iff.mp ex
        rw [h1] at ey
        have ey' := Option.some.inj ey
        subst h2 ey'
        obtain ⟨h3, h4⟩ := lims_mem (List.mem_of_getElem? h1)
        refine ⟨rfl, _, rfl, _, rfl, _, rfl, a, ws, l, rfl, sm _ _ (s2 _ _ e1), ok, h3, fun H4 s4 => ?_⟩
        refine ⟨by show 2 ≤ sizeLine; decide, fun t nt => ?_⟩
        exact q3 _ t (s4.trans (same_upd nt)) (s4.free nt) upd_same
      · intro H3 s3 hp
        exact q _ D2 (x1.trans (.of (s2.trans s3))) (.of (x1.trans (.of s2)) nD2) hp
end
end K23
set_option Elab.async false
set_option linter.all false
set_option maxRecDepth 100000
set_option maxHeartbeats 4000000
namespace K23
open PySem PySem.Spec PyProof.Rows L2
/-! ### counts and lengths -/
def cntsOf (A : List Nat) : List Int := (List.range 16).map fun l => ((A.filter fun x => decide (x = 1 + l)).length : Int)
theorem cntsOf_perm {A B : List Nat} (h : A.Perm B) : cntsOf A = cntsOf B := by
  unfold cntsOf
  refine List.map_congr_left fun l _ => ?_
  rw [(h.filter _).length_eq]
theorem split_low (k : Nat) : ∀ (A : List Nat), A.Pairwise (· ≤ ·) → (∀ x ∈ A, k ≤ x) → A = List.replicate (A.filter fun x => decide (x = k)).length k ++ A.filter fun x => !decide (x = k)
  | [], _, _ => rfl
  | a :: A, hs, hk => by
    obtain ⟨h1, h2⟩ := List.pairwise_cons.mp hs
    have ih := split_low k A h2 fun x hx => hk x (List.mem_cons_of_mem _ hx)
    by_cases h : a = k
    · subst h
      rw [List.filter_cons_of_pos (by simp), List.filter_cons_of_neg (by simp), List.length_cons, List.replicate_succ, List.cons_append, ← ih]
    · have hk1 := hk a List.mem_cons_self
      have e1 : (a :: A).filter (fun x => decide (x = k)) = [] := List.filter_eq_nil_iff.mpr fun x hx => by
        rcases List.mem_cons.mp hx with e | m
        · subst e; simpa using h
        · have := h1 x m
          simp; omega
      have e2 : (a :: A).filter (fun x => !decide (x = k)) = a :: A := List.filter_eq_self.mpr fun x hx => by
        rcases List.mem_cons.mp hx with e | m
        · subst e; simpa using h
        · have := h1 x m
          simp; omega
      rw [e1, e2]
      rfl
theorem expL_cnts : ∀ (m k : Nat) (A : List Nat), A.Pairwise (· ≤ ·) → (∀ x ∈ A, k ≤ x ∧ x < k + m) → expL k ((List.range m).map fun i => ((A.filter fun x => decide (x = k + i)).length : Int)) = A
  | 0, k, A, _, h => by
    cases A with
    | nil => rfl
    | cons a A => have := h a List.mem_cons_self; omega
  | m + 1, k, A, hs, h => by
    have sp := split_low k A hs fun x hx => (h x hx).1
    have e1 : (List.range (m + 1)).map (fun i => ((A.filter fun x => decide (x = k + i)).length : Int)) =
        ((A.filter fun x => decide (x = k)).length : Int) :: (List.range m).map fun i => (((A.filter fun x => !decide (x = k)).filter fun x => decide (x = k + 1 + i)).length : Int) := by
      rw [List.range_succ_eq_map, List.map_cons, List.map_map]
      refine congr (congrArg _ ?_) ?_
      · simp
      · refine List.map_congr_left fun i _ => ?_
        show ((A.filter fun x => decide (x = k + (i + 1))).length : Int) = _
        rw [List.filter_filter]
        congr 2
        refine List.filter_congr fun x _ => ?_
        by_cases hx : x = k + 1 + i
        · have h1 : ¬ x = k := by omega
          have h2 : x = k + (i + 1) := by omega
          simp only [decide_eq_true hx, decide_eq_true h2, decide_eq_false h1]
          rfl
        · have h2 : ¬ x = k + (i + 1) := by omega
          rw [decide_eq_false hx, decide_eq_false h2]
          rfl
    rw [e1]
    show List.replicate (((A.filter fun x => decide (x = k)).length : Int)).toNat k ++ expL (k + 1) _ = A
    rw [Int.toNat_natCast, expL_cnts m (k + 1) (A.filter fun x => !decide (x = k)) (List.Pairwise.sublist List.filter_sublist hs) fun x hx => ?_]
    · exact sp.symm
    · obtain ⟨h1, h2⟩ := List.mem_filter.mp hx
      have h3 := h x h1
      have h4 : ¬ x = k := by simpa using h2
      omega
theorem one_room : ∀ x < 17, 1 ≤ x → ((List.range 16).map fun i => (if x = 1 + i then (1 : Int) else 0) * 2 ^ (15 - i)).sum = ((2 ^ (16 - x) : Nat) : Int) := by decide
theorem one_cnt : ∀ x < 17, 1 ≤ x → ((List.range 16).map fun i => if x = 1 + i then (1 : Int) else 0).sum = 1 := by decide
theorem filter_cons_len (x k : Nat) (A : List Nat) : (((x :: A).filter fun y => decide (y = k)).length : Int) = (if x = k then (1 : Int) else 0) + ((A.filter fun y => decide (y = k)).length : Int) := by
  by_cases h : x = k
  · rw [List.filter_cons_of_pos (by simpa using h), List.length_cons, if_pos h]; omega
  · rw [List.filter_cons_of_neg (by simpa using h), if_neg h]; omega
theorem room_cnts : ∀ A : List Nat, (∀ x ∈ A, 1 ≤ x ∧ x ≤ 16) → ((List.range 16).map fun i => ((A.filter fun x => decide (x = 1 + i)).length : Int) * 2 ^ (15 - i)).sum = (((A.map fun l => 2 ^ (16 - l)).sum : Nat) : Int)
  | [], _ => by decide
  | x :: A, h => by
    have ih := room_cnts A fun y hy => h y (List.mem_cons_of_mem _ hy)
    have hx := h x List.mem_cons_self
    have e : ((List.range 16).map fun i => (((x :: A).filter fun y => decide (y = 1 + i)).length : Int) * 2 ^ (15 - i)) = (List.range 16).map fun i => (if x = 1 + i then (1 : Int) else 0) * 2 ^ (15 - i) + ((A.filter fun y => decide (y = 1 + i)).length : Int) * 2 ^ (15 - i) := by
      refine List.map_congr_left fun i _ => ?_
      rw [filter_cons_len, Int.add_mul]
    rw [e, K23M.int_sum_add, ih, one_room x (by omega) hx.1, List.map_cons, List.sum_cons]
    omega
theorem sum_cnts : ∀ A : List Nat, (∀ x ∈ A, 1 ≤ x ∧ x ≤ 16) → (cntsOf A).sum = (A.length : Int)
  | [], _ => by decide
  | x :: A, h => by
    have ih := sum_cnts A fun y hy => h y (List.mem_cons_of_mem _ hy)
    have hx := h x List.mem_cons_self
    unfold cntsOf at ih ⊢
    have e : ((List.range 16).map fun i => (((x :: A).filter fun y => decide (y = 1 + i)).length : Int)) = (List.range 16).map fun i => (if x = 1 + i then (1 : Int) else 0) + ((A.filter fun y => decide (y = 1 + i)).length : Int) := by
      refine List.map_congr_left fun i _ => ?_
      rw [filter_cons_len]
    rw [e, K23M.int_sum_add, ih, one_cnt x (by omega) hx.1, List.length_cons]
    omega
theorem cntsOf_get (A : List Nat) {i : Nat} (h : i < 16) : (cntsOf A).getD i 0 = ((A.filter fun x => decide (x = 1 + i)).length : Int) := by
  unfold cntsOf
  rw [List.getD_eq_getElem?_getD, List.getElem?_map, List.getElem?_range h]
  rfl
theorem cntsOf_len (A : List Nat) : (cntsOf A).length = 16 := by unfold cntsOf; rw [List.length_map, List.length_range]
theorem roomI_cnts (A : List Nat) (h : ∀ x ∈ A, 1 ≤ x ∧ x ≤ 16) : roomI (cntsOf A) = (((A.map fun l => 2 ^ (16 - l)).sum : Nat) : Int) := by
  rw [← room_cnts A h]
  unfold roomI roomL
  rw [cntsOf_len]
  refine congrArg List.sum (List.map_congr_left fun i hi => ?_)
  have hi := List.mem_range.mp hi
  rw [cntsOf_get A hi, show ((16 - (1 + (i : Int))) : Int).toNat = 15 - i by omega]
theorem kraft_up {M L : Nat} (hLM : L ≤ M) : ∀ {Q : List (Int × Nat)}, (∀ q ∈ Q, q.2 ≤ L) → K23M.kraft M Q = 2 ^ (M - L) * K23M.kraft L Q
  | [], _ => rfl
  | q :: Q, h => by
    have h1 := h q List.mem_cons_self
    rw [K23M.kraft_cons, K23M.kraft_cons, kraft_up hLM fun x hx => h x (List.mem_cons_of_mem _ hx), Nat.mul_add, ← Nat.pow_add]
    congr 2
    omega
/-! ### what least_table's lengths are -/
structure Lens (ws : List (Int × Int)) (L : Nat) (ts : List Nat) : Prop where
  rng : ∀ l ∈ lensL ws.length ts, 1 ≤ l ∧ l ≤ L
  room : ((lensL ws.length ts).map fun l => 2 ^ (16 - l)).sum < 2 ^ 16
  cost : K23M.cost (K23M.lens (cC ws) ts) = few ws L
theorem lens_of {ws : List (Int × Int)} {L : Nat} {ts : List Nat} (hL : 1 ≤ L ∧ L ≤ 16) (hn : ws.length < 2 ^ L) (h : K23M.Takes (cC ws) L (2 * ws.length) ts) : Lens ws L ts := by
  obtain ⟨h1, h2, h3⟩ := K23M.takes_reach (cC_sorted ws) (cC_len ws) hn (by omega) h
  have hl : ∀ i, i < ws.length + 1 → K23M.len ts i ≤ L := fun i hi => by
    have e : ((cC ws).getD i 0, K23M.len ts i) ∈ K23M.lens (cC ws) ts := by
      unfold K23M.lens
      exact List.mem_map.mpr ⟨i, List.mem_range.mpr (by rw [cC_len]; exact hi), rfl⟩
    exact h3 _ e
  have k16 : K23M.kraft 16 (K23M.lens (cC ws) ts) ≤ 2 ^ 16 := by
    rw [kraft_up hL.2 h3]
    refine Nat.le_trans (Nat.mul_le_mul_left _ h2) ?_
    rw [← Nat.pow_add, Nat.sub_add_cancel hL.2]
    exact Nat.le_refl _
  have ek : ∀ M, K23M.kraft M (K23M.lens (cC ws) ts) = ((List.range (ws.length + 1)).map fun i => 2 ^ (M - K23M.len ts i)).sum := fun M => by
    unfold K23M.kraft K23M.lens
    rw [List.map_map, cC_len]
    rfl
  have pos : ∀ i, i < ws.length + 1 → 1 ≤ ws.length → 1 ≤ K23M.len ts i := fun i hi hw => by
    by_cases z : K23M.len ts i = 0
    · exfalso
      have hz : K23M.len ts ws.length = 0 := by
        have := K23M.len_anti ts (show i ≤ ws.length by omega)
        omega
      have q := k16
      rw [ek 16, List.range_succ, List.map_append, List.sum_append] at q
      simp only [List.map_cons, List.map_nil, List.sum_cons, List.sum_nil, hz] at q
      obtain ⟨n, en⟩ : ∃ n, ws.length = n + 1 := ⟨ws.length - 1, by omega⟩
      rw [en, List.range_succ_eq_map, List.map_cons, List.sum_cons] at q
      have := Nat.two_pow_pos (16 - K23M.len ts 0)
      omega
    · omega
  refine ⟨fun l hm => ?_, ?_, h1⟩
  · unfold lensL at hm
    obtain ⟨i, hi, rfl⟩ := List.mem_map.mp hm
    have hi := List.mem_range.mp hi
    exact ⟨pos _ (by omega) (by omega), hl _ (by omega)⟩
  · have q := k16
    rw [ek 16, List.range_succ_eq_map, List.map_cons, List.sum_cons, List.map_map] at q
    have e : (lensL ws.length ts).map (fun l => 2 ^ (16 - l)) = (List.range ws.length).map ((fun i => 2 ^ (16 - K23M.len ts i)) ∘ Nat.succ) := by
      unfold lensL
      rw [List.map_map]
      refine List.map_congr_left fun i _ => ?_
      show 2 ^ (16 - K23M.len ts (1 + i)) = 2 ^ (16 - K23M.len ts (i + 1))
      rw [Nat.add_comm]
    rw [e]
    have := Nat.two_pow_pos (16 - K23M.len ts 0)
    omega
theorem lensL_desc (n : Nat) (ts : List Nat) : (lensL n ts).reverse.Pairwise (· ≤ ·) := by
  rw [List.pairwise_reverse]
  unfold lensL
  rw [List.pairwise_map]
  exact (List.pairwise_lt_range).imp fun h => K23M.len_anti ts (by omega)
theorem exp_cnts {ws : List (Int × Int)} {L : Nat} {ts : List Nat} (hL : L ≤ 16) (h : Lens ws L ts) : expL 1 (cnts ws.length ts) = (lensL ws.length ts).reverse := by
  show expL 1 (cntsOf (lensL ws.length ts)) = _
  rw [cntsOf_perm (List.reverse_perm (lensL ws.length ts)).symm]
  exact expL_cnts 16 1 _ (lensL_desc _ _) fun x hx => by
    have := h.rng x (List.mem_reverse.mp hx)
    omega
/-! ### the symbols -/
theorem syms_perm (ws : List (Int × Int)) : (syms ws).Perm (ws.map (·.1)) := List.mergeSort_perm _ _
theorem syms_len (ws : List (Int × Int)) : (syms ws).length = ws.length := by rw [(syms_perm ws).length_eq, List.length_map]
theorem syms_ok {ws : List (Int × Int)} (ok : WOk ws) : SymOk (syms ws) :=
  ⟨(syms_perm ws).nodup_iff.mpr ok.nd, fun s hs => by
    obtain ⟨p, hp, rfl⟩ := List.mem_map.mp ((syms_perm ws).mem_iff.mp hs)
    exact ok.key p hp, by rw [syms_len]; exact ok.len⟩
theorem syms_desc (ws : List (Int × Int)) : ((syms ws).map (wtO ws)).Pairwise (· ≥ ·) := by
  unfold syms
  have e : PySem.W.dataLe false (keyD ws) = fun p q : Int => decide (-(wtO ws p) < -(wtO ws q) ∨ (-(wtO ws p) = -(wtO ws q) ∧ p ≤ q)) := PySem.W.dataLe_ii (fun p => -(wtO ws p)) (fun p => p)
  rw [e, List.pairwise_map]
  have h := List.pairwise_mergeSort (le := fun p q : Int => decide (-(wtO ws p) < -(wtO ws q) ∨ (-(wtO ws p) = -(wtO ws q) ∧ p ≤ q))) (by intro a b c h1 h2; simp only [decide_eq_true_eq] at *; omega) (by intro a b; simp only [Bool.or_eq_true, decide_eq_true_eq]; omega) (ws.map (·.1))
  exact h.imp fun {a b} h => by
    have := of_decide_eq_true h
    show wtO ws b ≤ wtO ws a
    omega
theorem wts_keys {ws : List (Int × Int)} (hn : (ws.map (·.1)).Nodup) : (ws.map (·.1)).map (wtO ws) = ws.map (·.2) := by
  rw [List.map_map]
  exact List.map_congr_left fun p hp => wtO_mem hn hp
theorem syms_wts {ws : List (Int × Int)} (ok : WOk ws) : (syms ws).map (wtO ws) = (K23M.isort (ws.map (·.2))).reverse := by
  have h : ((syms ws).map (wtO ws)).reverse = K23M.isort (ws.map (·.2)) := by
    refine K23M.isort_eq ((List.reverse_perm _).trans ?_) ?_
    · rw [← wts_keys ok.nd]
      exact (syms_perm ws).map _
    · unfold K23M.Sorted
      rw [List.pairwise_reverse]
      exact syms_desc ws
  rw [← h, List.reverse_reverse]
theorem cC_cons {ws : List (Int × Int)} (ok : WOk ws) : cC ws = 0 :: K23M.isort (ws.map (·.2)) := by
  unfold cC
  refine (K23M.isort_eq ((K23M.isort_perm _).cons 0) ?_).symm
  refine List.pairwise_cons.mpr ⟨fun x hx => ?_, K23M.isort_sorted _⟩
  obtain ⟨p, hp, rfl⟩ := List.mem_map.mp ((K23M.isort_perm _).mem_iff.mp hx)
  have := (ok.wt p hp).1
  omega
theorem cC_nonneg {ws : List (Int × Int)} (ok : WOk ws) : ∀ x ∈ cC ws, 0 ≤ x := fun x hx => by
  have := (K23M.isort_perm _).mem_iff.mp hx
  rcases List.mem_cons.mp this with e | m
  · omega
  · obtain ⟨p, hp, rfl⟩ := List.mem_map.mp m
    have := (ok.wt p hp).1
    omega
theorem lt_tabOk {ws : List (Int × Int)} {L : Nat} {ts : List Nat} (ok : WOk ws) (hL : L ≤ 16) (h : Lens ws L ts) : TabOk (cnts ws.length ts) (syms ws) := by
  have hr : ∀ x ∈ lensL ws.length ts, 1 ≤ x ∧ x ≤ 16 := fun x hx => by have := h.rng x hx; omega
  have hlen := ok.len
  refine ⟨⟨cntsOf_len _, fun c hc => ?_⟩, ?_, syms_ok ok, ?_⟩
  · obtain ⟨i, _, rfl⟩ := List.mem_map.mp hc
    have h1 := List.length_filter_le (fun x => decide (x = 1 + i)) (lensL ws.length ts)
    have h2 := lensL_len ws.length ts
    exact ⟨Int.natCast_nonneg _, by omega⟩
  · show roomI (cntsOf (lensL ws.length ts)) < 65536
    rw [roomI_cnts _ hr]
    have := h.room
    omega
  · show (cntsOf (lensL ws.length ts)).sum = _
    rw [sum_cnts _ hr, lensL_len, syms_len]
theorem lamT_at {cs ss : List Int} (hn : ss.Nodup) {j : Nat} {s : Int} {l : Nat} (h1 : ss[j]? = some s) (h2 : (expL 1 cs)[j]? = some l) : lamT cs ss s = l := by
  have hm : s ∈ ss := List.mem_of_getElem? h1
  have hi : ss.idxOf s < ss.length := List.idxOf_lt_length_of_mem hm
  have e1 : ss[ss.idxOf s]? = some s := by rw [List.getElem?_eq_getElem hi, List.getElem_idxOf]
  have e : ss.idxOf s = j := nd_ix hn e1 h1
  unfold lamT
  rw [e, List.getD_eq_getElem?_getD, h2]
  rfl
theorem lt_bits {ws : List (Int × Int)} {L : Nat} {ts : List Nat} (ok : WOk ws) (hL : L ≤ 16) (h : Lens ws L ts) : bitsSum ws (lamT (cnts ws.length ts) (syms ws)) = few ws L := by
  have hE := exp_cnts hL h
  have hSl : (K23M.isort (ws.map (·.2))).length = ws.length := by rw [K23M.isort_length, List.length_map]
  have hll := lensL_len ws.length ts
  rw [← h.cost]
  have e1 : bitsSum ws (lamT (cnts ws.length ts) (syms ws)) = ((syms ws).map fun s => wtO ws s * (lamT (cnts ws.length ts) (syms ws) s : Int)).sum := by
    unfold bitsSum
    rw [K23M.perm_sum ((syms_perm ws).map fun s => wtO ws s * (lamT (cnts ws.length ts) (syms ws) s : Int)), List.map_map]
    refine congrArg List.sum (List.map_congr_left fun p hp => ?_)
    show p.2 * _ = wtO ws p.1 * _
    rw [wtO_mem ok.nd hp]
  have e2 : ((syms ws).map fun s => wtO ws s * (lamT (cnts ws.length ts) (syms ws) s : Int)) = List.zipWith (fun (a : Int) (l : Nat) => a * (l : Int)) ((syms ws).map (wtO ws)) (expL 1 (cnts ws.length ts)) := by
    refine List.ext_getElem? fun j => ?_
    rw [List.getElem?_map, List.getElem?_zipWith, List.getElem?_map]
    cases hj : (syms ws)[j]? with
    | none => rfl
    | some s =>
      have hjl : j < ws.length := by
        have := (List.getElem?_eq_some_iff.mp hj).1
        rw [syms_len] at this
        exact this
      have hel : j < (expL 1 (cnts ws.length ts)).length := by rw [hE, List.length_reverse, hll]; exact hjl
      have he : (expL 1 (cnts ws.length ts))[j]? = some (expL 1 (cnts ws.length ts))[j] := List.getElem?_eq_getElem hel
      rw [he]
      show some (wtO ws s * (lamT (cnts ws.length ts) (syms ws) s : Int)) = _
      rw [lamT_at (syms_ok ok).nd hj he]
      rfl
  have e3 : List.zipWith (fun (a : Int) (l : Nat) => a * (l : Int)) ((syms ws).map (wtO ws)) (expL 1 (cnts ws.length ts)) = (List.zipWith (fun (a : Int) (l : Nat) => a * (l : Int)) (K23M.isort (ws.map (·.2))) (lensL ws.length ts)).reverse := by
    rw [syms_wts ok, hE, List.reverse_zipWith (by rw [hSl, hll])]
  have e4 : K23M.cost (K23M.lens (cC ws) ts) = (List.zipWith (fun (a : Int) (l : Nat) => a * (l : Int)) (K23M.isort (ws.map (·.2))) (lensL ws.length ts)).sum := by
    unfold K23M.cost K23M.lens
    rw [cC_cons ok, List.length_cons, hSl, List.range_succ_eq_map, List.map_cons, List.map_cons, List.sum_cons]
    have z : (((0 :: K23M.isort (ws.map (·.2))).getD 0 0, K23M.len ts 0) : Int × Nat).1 * (((0 :: K23M.isort (ws.map (·.2))).getD 0 0, K23M.len ts 0) : Int × Nat).2 = 0 := by simp
    rw [z, Int.zero_add]
    congr 1
    rw [List.map_map, List.map_map]
    refine List.ext_getElem? fun j => ?_
    unfold lensL
    rw [List.getElem?_map, List.getElem?_zipWith, List.getElem?_map]
    by_cases hj : j < ws.length
    · rw [List.getElem?_range hj, List.getElem?_eq_getElem (show j < (K23M.isort (ws.map (·.2))).length by omega)]
      show some ((0 :: K23M.isort (ws.map (·.2))).getD (j + 1) 0 * (K23M.len ts (j + 1) : Int)) = some ((K23M.isort (ws.map (·.2)))[j] * (K23M.len ts (1 + j) : Int))
      rw [List.getD_cons_succ, List.getD_eq_getElem?_getD, List.getElem?_eq_getElem (show j < (K23M.isort (ws.map (·.2))).length by omega), Nat.add_comm j 1]
      rfl
    · rw [List.getElem?_eq_none (show (List.range ws.length).length ≤ j by rw [List.length_range]; omega), List.getElem?_eq_none (show (K23M.isort (ws.map (·.2))).length ≤ j by omega)]
      rfl
  rw [e1, e2, e3, e4]
  exact K23M.perm_sum (List.reverse_perm _)
theorem lt_lam {ws : List (Int × Int)} {L : Nat} {ts : List Nat} (ok : WOk ws) (hL : L ≤ 16) (h : Lens ws L ts) : ∀ p ∈ ws, p.1 ∈ syms ws ∧ 1 ≤ lamT (cnts ws.length ts) (syms ws) p.1 ∧ lamT (cnts ws.length ts) (syms ws) p.1 ≤ L := fun p hp => by
  have hm : p.1 ∈ syms ws := (syms_perm ws).mem_iff.mpr (List.mem_map_of_mem hp)
  have hE := exp_cnts hL h
  obtain ⟨j, hj⟩ := List.mem_iff_getElem?.mp hm
  have hjl := (List.getElem?_eq_some_iff.mp hj).1
  rw [syms_len] at hjl
  have hel : j < (expL 1 (cnts ws.length ts)).length := by rw [hE, List.length_reverse, lensL_len]; exact hjl
  have he : (expL 1 (cnts ws.length ts))[j]? = some (expL 1 (cnts ws.length ts))[j] := List.getElem?_eq_getElem hel
  refine ⟨hm, ?_⟩
  rw [lamT_at (syms_ok ok).nd hj he]
  have hmem := List.mem_of_getElem? he
  generalize (expL 1 (cnts ws.length ts))[j] = l at hmem
  rw [hE] at hmem
  exact h.rng _ (List.mem_reverse.mp hmem)
/-- greater weights have no longer codes -/
theorem lt_mono {ws : List (Int × Int)} {L : Nat} {ts : List Nat} (ok : WOk ws) (hL : L ≤ 16) (h : Lens ws L ts) {p q : Int × Int} (hp : p ∈ ws) (hq : q ∈ ws) (hlt : q.2 < p.2) : lamT (cnts ws.length ts) (syms ws) p.1 ≤ lamT (cnts ws.length ts) (syms ws) q.1 := by
  have hE := exp_cnts hL h
  have key : ∀ r ∈ ws, ∃ j l, (syms ws)[j]? = some r.1 ∧ ((syms ws).map (wtO ws))[j]? = some r.2 ∧ (lensL ws.length ts).reverse[j]? = some l ∧ lamT (cnts ws.length ts) (syms ws) r.1 = l := fun r hr => by
    have hm : r.1 ∈ syms ws := (syms_perm ws).mem_iff.mpr (List.mem_map_of_mem hr)
    obtain ⟨j, hj⟩ := List.mem_iff_getElem?.mp hm
    have hjl := (List.getElem?_eq_some_iff.mp hj).1
    rw [syms_len] at hjl
    have hel : j < (lensL ws.length ts).reverse.length := by rw [List.length_reverse, lensL_len]; exact hjl
    have he : (lensL ws.length ts).reverse[j]? = some (lensL ws.length ts).reverse[j] := List.getElem?_eq_getElem hel
    refine ⟨j, _, hj, ?_, he, lamT_at (syms_ok ok).nd hj (by rw [hE]; exact he)⟩
    rw [List.getElem?_map, hj]
    show some (wtO ws r.1) = _
    rw [wtO_mem ok.nd hr]
  obtain ⟨i, l, h1, h2, h3, h4⟩ := key p hp
  obtain ⟨j, m, k1, k2, k3, k4⟩ := key q hq
  rw [h4, k4]
  have hij : i < j := by
    rcases Nat.lt_or_ge i j with z | z
    · exact z
    · exfalso
      rcases Nat.eq_or_lt_of_le z with e | g
      · rw [e, h2] at k2
        have := Option.some.inj k2
        omega
      · obtain ⟨gi, ei⟩ := List.getElem?_eq_some_iff.mp h2
        obtain ⟨gj, ej⟩ := List.getElem?_eq_some_iff.mp k2
        have := List.pairwise_iff_getElem.mp (syms_desc ws) j i gj gi g
        rw [ei, ej] at this
        omega
  obtain ⟨gi, ei⟩ := List.getElem?_eq_some_iff.mp h3
  obtain ⟨gj, ej⟩ := List.getElem?_eq_some_iff.mp k3
  have := List.pairwise_iff_getElem.mp (lensL_desc ws.length ts) i j gi gj hij
  rw [ei, ej] at this
  exact this
end K23
set_option Elab.async false
set_option linter.all false
set_option maxRecDepth 100000
set_option maxHeartbeats 4000000
namespace K23
open PySem PySem.Spec PyProof.Rows L2
/-- a source of numbers: a list of three ints -/
def SrcAt (H : Hp) (s : Addr) : Prop := ∃ x y z : Int, H s = some (.lst [.int x, .int y, .int z])
/-- all but the source stays -/
def Kp (s : Addr) (H H' : Hp) : Prop := ∀ b o, b ≠ s → H b = some o → H' b = some o
theorem Kp.refl {s : Addr} (H : Hp) : Kp s H H := fun _ _ _ h => h
theorem Kp.trans {s : Addr} {H H1 H2 : Hp} (a : Kp s H H1) (b : Kp s H1 H2) : Kp s H H2 := fun x o n h => b x o n (a x o n h)
theorem Kp.of {s : Addr} {H H' : Hp} (h : Same H H') : Kp s H H' := fun b o _ e => h b o e
theorem Kp.seq {s : Addr} {K : PySem.W.Frag} {H H' : Hp} {a : Addr} {xs : List V} (k : Kp s H H') (n : a ≠ s) (h : SqL K H a xs) : SqL K H' a xs := by
  rcases h with (h | ⟨o, h⟩) | h
  · exact .inl (.inl (k _ _ n h))
  · exact .inl (.inr ⟨o, k _ _ n h⟩)
  · exact .inr h
section
variable {P : Program} {w : World} {K : PySem.W.Frag} {mg : Str → Option Value} {base : Heap} {T : List (Addr × Str)}
/-! ### _law_cell_at -/
abbrev sCell : Stmt := topS 39
theorem scCell : FnScope ["_law_script", "_law_k"] ["_law_script", "_law_k"] (defScope sCell) := ⟨rfl, rfl, rfl, by decide +kernel, rfl, by decide +kernel, by decide +kernel⟩
def spCellA (K : PySem.W.Frag) : Sp := fun vs H Q _ => ∃ (a : Addr) (ns : List Int) (k : Nat), vs = [.ref a, .int k] ∧ SqL K H a (ns.map V.int) ∧ ∀ c : Int, Q (.int c) H
theorem ok_cell {f : Addr} {fd : FuncData} (F : Fun K "_law_cell_at" "_law_cell_at" sCell f fd) (X : Txt mg) : FnOk P w K mg base CX0 1 f fd ["_law_script", "_law_k"] (spCellA K) := by
  refine F.ok scCell (fun vs H Q E h => ?_) (fun cdv A outer s H vs Q E hr h => ?_)
  · obtain ⟨a, ns, k, rfl, _⟩ := h
    rfl
  · obtain ⟨a, ns, k, rfl, ha, q⟩ := h
    refine ⟨_, pss_cons (ps_if (pt_cmpR op_lt (pv 1) (pe_callB call_len_seq (by rfl) X.len bt_len (pa_cons (pv 0) pa_nil)) (nomark _)) (pss_one (ps_ret (pe_ix ix_list (pv 0) (pv 1) (fun _ _ => rfl)))) pss_nil) (pss_one (ps_ret pe_int)), ?_⟩
    refine ⟨_, rfl, _, rfl, a, _, rfl, .inl ha, _, _, rfl, rfl, _, rfl, ?_⟩
    rw [List.length_map]
    by_cases h : k < ns.length
    · rw [decide_eq_true (show (k : Int) < (ns.length : Int) by omega)]
      exact iteT ⟨_, rfl, _, rfl, a, _, _, V.int ns[k], rfl, rfl, ha, atI_nat (by rw [List.getElem?_map, List.getElem?_eq_getElem h]; rfl), q _⟩
    · rw [decide_eq_false (show ¬ (k : Int) < (ns.length : Int) by omega)]
      exact iteF (q 0)
/-! ### _law_source_of -/
abbrev sSrc : Stmt := topS 40
theorem scSrc : FnScope ["_law_cell"] ["_law_cell"] (defScope sSrc) := ⟨rfl, rfl, rfl, by decide +kernel, rfl, by decide +kernel, by decide +kernel⟩
def spSrc : Sp := fun vs H Q _ => ∃ c : Int, vs = [.int c] ∧ ∀ H' p, Same H H' → H p = none → SrcAt H' p → Q (.ref p) H'
theorem ok_src {f : Addr} {fd : FuncData} (F : Fun K "_law_source_of" "_law_source_of" sSrc f fd) (X : Txt mg) : FnOk P w K mg base CX0 1 f fd ["_law_cell"] spSrc := by
  refine F.ok scSrc (fun vs H Q E h => ?_) (fun cdv A outer s H vs Q E hr h => ?_)
  · obtain ⟨c, rfl, _⟩ := h
    rfl
  · obtain ⟨c, rfl, q⟩ := h
    refine ⟨_, pss_cons (ps_set (i := 0) scSrc.nd rfl (.inl rfl) (pe_ifExp (pt_cmpR op_ge (pv 0) pe_int (nomark _)) (pv 0) (pe_op op_sub (pe_op op_sub pe_int (pe_op op_mul pe_int (pv 0))) pe_int)))
      (pss_one (ps_ret (pe_lst (pa_cons (pe_op op_mul (pv 0) (pe_callTy call_int1 (by rfl) X.int bt_int (pa_cons (pe_cmpR op_ge (pv 0) (pe_op op_pow pe_int pe_int) (nomark _)) pa_nil)))
        (pa_cons (pe_op op_mod (pe_callTy call_int1 (by rfl) X.int bt_int (pa_cons (pv 0) pa_nil)) pe_int) (pa_cons pe_int pa_nil)))))), ?_⟩
    have key : ∀ e : Int, ∀ (b : Int), (b = 0 ∨ b = 1) → ∀ y : Int, ∀ p, H p = none → Q (.ref p) (upd H p (.lst [.int (e * b), .int y, .int 0])) := fun e b _ y p np => q _ p (same_upd np) np ⟨_, _, _, upd_same⟩
    have fin : ∀ e : Int, (tRet (tLst (tCons (tOp (rI CMul fun i j => .int (i * j)) (tVar 0) (tCB (fun xs H Q => (∃ i, xs = [V.int i] ∧ Q (.int i) H) ∨ ∃ k, xs = [V.bl k] ∧ Q (.int (if k then 1 else 0)) H) (tCons (tOp (rI0 fun i j => .bl (decide (j ≤ i))) (tVar 0) (tOp (rI CPow fun i j => .int (i ^ j.toNat)) (tC (.int 10)) (tC (.int 18)))) tNil)))
        (tCons (tOp (rI (fun _ j => 0 < j) fun i j => .int (i % j)) (tCB (fun xs H Q => (∃ i, xs = [V.int i] ∧ Q (.int i) H) ∨ ∃ k, xs = [V.bl k] ∧ Q (.int (if k then 1 else 0)) H) (tCons (tVar 0) tNil)) (tC (.int 2147483647))) (tCons (tC (.int 0)) tNil))))) { nx := fun _ H' => Q .non H', rt := Q } [some (.int e)] H := fun e => by
      refine ⟨_, rfl, _, rfl, _, _, rfl, rfl, ⟨by decide, by decide, by decide⟩, _, _, rfl, rfl, .inr ⟨_, rfl, _, _, rfl, rfl, .inr ?_, ?_⟩⟩
      · split <;> exact ⟨by decide, by decide⟩
      · refine ⟨_, rfl, .inl ⟨_, rfl, _, _, rfl, rfl, by show (0 : Int) < 2147483647; decide, ?_⟩⟩
        exact ⟨by show 3 ≤ sizeLine; decide, fun p np => q _ p (same_upd np) np ⟨_, _, _, upd_same⟩⟩
    refine ⟨_, rfl, _, _, rfl, rfl, _, rfl, ?_⟩
    by_cases h : (0 : Int) ≤ c
    · rw [decide_eq_true h]
      exact iteT ⟨_, rfl, fin c⟩
    · rw [decide_eq_false h]
      refine iteF ⟨_, rfl, _, _, rfl, rfl, .inl ⟨by decide, by decide⟩, _, _, rfl, rfl, _, _, rfl, rfl, fin _⟩
/-! ### _law_next -/
abbrev sNext : Stmt := topS 41
abbrev nNext : List Str := ["_law_source", "_law_many", "_law_found", "_law_prime", "_law_number"]
theorem scNext : FnScope nNext ["_law_source", "_law_many"] (defScope sNext) := ⟨rfl, rfl, rfl, by decide +kernel, rfl, by decide +kernel, by decide +kernel⟩
def spNext : Sp := fun vs H Q _ => ∃ (s : Addr) (m : Int), vs = [.ref s, .int m] ∧ SrcAt H s ∧ 0 < m ∧ m < 1073741824 ∧ ∀ (H' : Hp) (r : Int), Kp s H H' → SrcAt H' s → 0 ≤ r → r < m → Q (.int r) H'
theorem ok_next {f : Addr} {fd : FuncData} (F : Fun K "_law_next" "_law_next" sNext f fd) (X : Txt mg) : FnOk P w K mg base CX0 1 f fd ["_law_source", "_law_many"] spNext := by
  refine F.ok scNext (fun vs H Q E h => ?_) (fun cdv A outer s0 H vs Q E hr h => ?_)
  · obtain ⟨s, m, rfl, _⟩ := h
    rfl
  · obtain ⟨s, m, rfl, ⟨x, y, z, hs⟩, hm0, hm1, q⟩ := h
    refine ⟨_, pss_cons (ps_if (pt_cmpR op_gt (pe_ix ix_list (pv 0) pe_int (fun _ _ => rfl)) pe_int (nomark _))
        (pss_cons (ps_set (i := 2) scNext.nd rfl (.inl rfl) (pe_op op_mod (pe_callTy call_int1 (by rfl) X.int bt_int (pa_cons (pe_ix ix_list (pv 0) pe_int (fun _ _ => rfl)) pa_nil)) (pv 1)))
        (pss_cons (ps_asg (pe_op op_fdiv (pe_ix ix_list (pv 0) pe_int (fun _ _ => rfl)) (pv 1)) (pg_sub (pv 0) pe_int set_list))
        (pss_one (ps_ret (pv 2))))) pss_nil)
      (pss_cons (ps_asg (pe_op op_add (pe_ix ix_list (pv 0) pe_int (fun _ _ => rfl)) pe_int) (pg_sub (pv 0) pe_int set_list))
      (pss_cons (ps_set (i := 3) scNext.nd rfl (.inl rfl) pe_int)
      (pss_cons (ps_set (i := 4) scNext.nd rfl (.inl rfl) (pe_op op_mod (pe_callTy call_int1 (by rfl) X.int bt_int (pa_cons (pe_op op_add (pe_op op_add (pe_ix ix_list (pv 0) pe_int (fun _ _ => rfl)) (pe_op op_mul pe_int (pe_ix ix_list (pv 0) pe_int (fun _ _ => rfl)))) pe_int) pa_nil)) (pv 3)))
      (pss_cons (ps_set (i := 4) scNext.nd rfl (.inl rfl) (pe_op op_mod (pe_callTy call_int1 (by rfl) X.int bt_int (pa_cons (pe_op op_mul (pv 4) pe_int) pa_nil)) (pv 3)))
      (pss_cons (ps_set (i := 4) scNext.nd rfl (.inl rfl) (pe_op op_mod (pe_callTy call_int1 (by rfl) X.int bt_int (pa_cons (pe_op op_mul (pv 4) (pe_op op_add (pe_op op_fdiv (pv 4) pe_int) pe_int)) pa_nil)) (pv 3)))
      (pss_cons (ps_set (i := 4) scNext.nd rfl (.inl rfl) (pe_op op_mod (pe_callTy call_int1 (by rfl) X.int bt_int (pa_cons (pe_op op_mul (pv 4) (pe_op op_add (pe_op op_fdiv (pv 4) pe_int) pe_int)) pa_nil)) pe_int))
      (pss_one (ps_ret (pe_op op_mod (pe_callTy call_int1 (by rfl) X.int bt_int (pa_cons (pe_op op_fdiv (pv 4) pe_int) pa_nil)) (pv 1)))))))))), ?_⟩
    refine ⟨_, rfl, s, _, 0, .int x, rfl, rfl, SqL.of hs, atI_nat (j := 0) rfl, _, _, rfl, rfl, _, rfl, ?_⟩
    by_cases h : (0 : Int) < x
    · rw [decide_eq_true h]
      refine iteT ?_
      refine ⟨_, rfl, s, _, 0, .int x, rfl, rfl, SqL.of hs, atI_nat (j := 0) rfl, .inl ⟨x, rfl, _, rfl, _, _, rfl, rfl, hm0, ?_⟩⟩
      refine ⟨_, rfl, s, _, 0, .int x, rfl, rfl, SqL.of hs, atI_nat (j := 0) rfl, _, rfl, _, _, rfl, rfl, ⟨hm0, hm1⟩, ?_⟩
      refine ⟨_, rfl, s, _, 0, 0, rfl, rfl, hs, rfl, ?_⟩
      exact ⟨_, rfl, q _ _ (fun b o n e => by rw [upd_ne n]; exact e) ⟨_, _, _, upd_same⟩ (Int.emod_nonneg _ (by omega)) (Int.emod_lt_of_pos _ hm0)⟩
    · rw [decide_eq_false h]
      refine iteF ?_
      refine ⟨_, rfl, s, _, 2, .int z, rfl, rfl, SqL.of hs, atI_nat (j := 2) rfl, _, _, rfl, rfl, _, rfl, s, _, 2, 2, rfl, rfl, hs, rfl, ?_⟩
      have hs' : upd H s (.lst ([V.int x, V.int y, V.int z].set 2 (V.int (z + 1)))) s = some (.lst [.int x, .int y, .int (z + 1)]) := upd_same
      have kp : Kp s H (upd H s (.lst ([V.int x, V.int y, V.int z].set 2 (V.int (z + 1))))) := fun b o n e => by rw [upd_ne n]; exact e
      generalize upd H s (.lst ([V.int x, V.int y, V.int z].set 2 (V.int (z + 1)))) = H' at hs' kp ⊢
      refine ⟨_, rfl, s, _, 1, .int y, rfl, rfl, SqL.of hs', atI_nat (j := 1) rfl, _, rfl, s, _, 2, .int (z + 1), rfl, rfl, SqL.of hs', atI_nat (j := 2) rfl, _, _, rfl, rfl, .inl ⟨by decide, by decide⟩, _, _, rfl, rfl, _, _, rfl, rfl, .inl ⟨_, rfl, _, rfl, _, _, rfl, rfl, by show (0 : Int) < 2147483647; decide, ?_⟩⟩
      have b1 : 0 ≤ (y + 104729 * (z + 1) + 7919) % 2147483647 := Int.emod_nonneg _ (by decide)
      have b2 : (y + 104729 * (z + 1) + 7919) % 2147483647 < 2147483647 := Int.emod_lt_of_pos _ (by decide)
      generalize (y + 104729 * (z + 1) + 7919) % 2147483647 = n1 at b1 b2 ⊢
      refine ⟨_, rfl, _, _, rfl, rfl, .inr ⟨by decide, by decide⟩, .inl ⟨_, rfl, _, rfl, _, _, rfl, rfl, by show (0 : Int) < 2147483647; decide, ?_⟩⟩
      have c1 : 0 ≤ n1 * 48271 % 2147483647 := Int.emod_nonneg _ (by decide)
      have c2 : n1 * 48271 % 2147483647 < 2147483647 := Int.emod_lt_of_pos _ (by decide)
      generalize n1 * 48271 % 2147483647 = n2 at c1 c2 ⊢
      refine ⟨_, rfl, _, rfl, _, _, rfl, rfl, ⟨by decide, by decide⟩, _, _, rfl, rfl, _, _, rfl, rfl, .inl ⟨by omega, by omega⟩, .inl ⟨_, rfl, _, rfl, _, _, rfl, rfl, by show (0 : Int) < 2147483647; decide, ?_⟩⟩
      have d1 : 0 ≤ n2 * (n2 / 1009 + 69621) % 2147483647 := Int.emod_nonneg _ (by decide)
      have d2 : n2 * (n2 / 1009 + 69621) % 2147483647 < 2147483647 := Int.emod_lt_of_pos _ (by decide)
      generalize n2 * (n2 / 1009 + 69621) % 2147483647 = n3 at d1 d2 ⊢
      refine ⟨_, rfl, _, rfl, _, _, rfl, rfl, ⟨by decide, by decide⟩, _, _, rfl, rfl, _, _, rfl, rfl, .inl ⟨by omega, by omega⟩, .inl ⟨_, rfl, _, _, rfl, rfl, by show (0 : Int) < 2147483399; decide, ?_⟩⟩
      refine ⟨_, rfl, _, _, rfl, rfl, ⟨by decide, by decide⟩, .inl ⟨_, rfl, _, rfl, _, _, rfl, rfl, hm0, ?_⟩⟩
      exact q _ _ kp ⟨_, _, _, hs'⟩ (Int.emod_nonneg _ (by omega)) (Int.emod_lt_of_pos _ hm0)
/-! ### _law_one -/
abbrev sOne : Stmt := topS 42
theorem scOne : FnScope ["_law_source", "_law_some"] ["_law_source", "_law_some"] (defScope sOne) := ⟨rfl, rfl, rfl, by decide +kernel, rfl, by decide +kernel, by decide +kernel⟩
def spOne (K : PySem.W.Frag) : Sp := fun vs H Q _ => ∃ (s l : Addr) (xs : List V), vs = [.ref s, .ref l] ∧ SrcAt H s ∧ SqL K H l xs ∧ l ≠ s ∧ 0 < xs.length ∧ xs.length ≤ 1000 ∧ ∀ (H' : Hp) (x : V), Kp s H H' → SrcAt H' s → x ∈ xs → Q x H'
theorem ok_one {f fN : Addr} {fd fdN : FuncData} (F : Fun K "_law_one" "_law_one" sOne f fd) (X : Txt mg) (GN : FnOk P w K mg base CX0 1 fN fdN ["_law_source", "_law_many"] spNext) (bN : Binds K fdN ["_law_source", "_law_many"] []) (kN : PySem.W.keepIn K (.ref fN) = true) (gN : mg "_law_next" = some (.ref fN)) : FnOk P w K mg base CX0 2 f fd ["_law_source", "_law_some"] (spOne K) := by
  refine F.ok scOne (fun vs H Q E h => ?_) (fun cdv A outer s0 H vs Q E hr h => ?_)
  · obtain ⟨s, l, xs, rfl, _⟩ := h
    rfl
  · obtain ⟨s, l, xs, rfl, hs, hl, ls, h0, h1, q⟩ := h
    refine ⟨_, pss_one (ps_ret (pe_ix ix_list (pv 1) (pe_call GN hr (by rfl) gN kN bN .nil pass0 (pa_cons (pv 0) (pa_cons (pe_callB call_len_seq (by rfl) X.len bt_len (pa_cons (pv 1) pa_nil)) pa_nil))) (fun _ _ => rfl))), ?_⟩
    refine ⟨_, rfl, _, rfl, _, rfl, l, xs, rfl, .inl hl, s, (xs.length : Int), rfl, hs, by omega, by omega, fun H' r kp hs' r0 r1 => ?_⟩
    obtain ⟨j, rfl⟩ : ∃ j : Nat, r = (j : Int) := ⟨r.toNat, by omega⟩
    have hr2 : j < xs.length := by omega
    exact ⟨l, xs, (j : Int), xs[j], rfl, rfl, kp.seq ls hl, atI_nat (List.getElem?_eq_getElem hr2), q _ _ kp hs' (List.getElem_mem hr2)⟩
/-! ### _law_lengths -/
abbrev sLen : Stmt := topS 43
abbrev nLen : List Str := ["_law_table", "_law_found", "_law_at", "_law_k", "_law_count", "_law_turn"]
theorem scLen : FnScope nLen ["_law_table"] (defScope sLen) := ⟨rfl, rfl, rfl, by decide +kernel, rfl, by decide +kernel, by decide +kernel⟩
/-- symbols and the lengths of their codes -/
def lz (cs ss : List Int) : List (Int × Int) := ss.zip ((expL 1 cs).map fun l : Nat => (l : Int))
theorem putK_wK {ws : List (Int × Int)} {k v : Int} (h : k ∉ ws.map (·.1)) : putK (wK ws) (Sum.inl k) (V.int v) = wK (ws ++ [(k, v)]) := by
  unfold putK
  rw [if_neg]
  · unfold wK; rw [List.map_append]; rfl
  · intro z
    obtain ⟨p, hp, e⟩ := List.any_eq_true.mp z
    unfold wK at hp
    obtain ⟨q, hq, rfl⟩ := List.mem_map.mp hp
    have e : (Sum.inl q.1 : Key) = Sum.inl k := of_decide_eq_true e
    exact h (List.mem_map.mpr ⟨q, hq, Sum.inl.inj e⟩)
theorem lz_len {cs ss : List Int} (ok : TabOk cs ss) : (lz cs ss).length = ss.length ∧ (expL 1 cs).length = ss.length := by
  have h1 := preN_all ok.cnt.rng
  have h2 := ok.sum
  have h3 := exp_len cs 1
  unfold lz
  rw [List.length_zip, List.length_map]
  omega
theorem lz_at {cs ss : List Int} {j : Nat} {s : Int} {l : Nat} (h1 : ss[j]? = some s) (h2 : (expL 1 cs)[j]? = some l) : (lz cs ss)[j]? = some (s, (l : Int)) := by
  unfold lz
  rw [List.getElem?_zip_eq_some]
  exact ⟨h1, by rw [List.getElem?_map, h2]; rfl⟩
theorem lz_keys {cs ss : List Int} (ok : TabOk cs ss) : (lz cs ss).map (·.1) = ss := by
  obtain ⟨h1, h2⟩ := lz_len ok
  unfold lz
  exact List.map_fst_zip (by rw [List.length_map]; omega)
def spLen : Sp := fun vs H Q _ => ∃ (t ca sa : Addr) (cs ss : List Int), vs = [.ref t] ∧ TabAt H t ca sa cs ss ∧ TabOk cs ss ∧ ∀ H' d, Same H H' → H d = none → H' d = some (.dK (wK (lz cs ss))) → Q (.ref d) H'
theorem ok_len {f : Addr} {fd : FuncData} (F : Fun K "_law_lengths" "_law_lengths" sLen f fd) (X : Txt mg) : FnOk P w K mg base CX0 1 f fd ["_law_table"] spLen := by
  refine F.ok scLen (fun vs H Q E h => ?_) (fun cdv A outer s0 H vs Q E hr h => ?_)
  · obtain ⟨t, ca, sa, cs, ss, rfl, _⟩ := h
    rfl
  · obtain ⟨t, ca, sa, cs, ss, rfl, ht, ok, q⟩ := h
    have hu := hu_of hr
    obtain ⟨hz, he⟩ := lz_len ok
    have hk := lz_keys ok
    have hsl := ok.sym.len
    have hlen := ok.cnt.len
    have hsum : preN cs cs.length = ss.length := by
      have h1 := preN_all ok.cnt.rng
      have h2 := ok.sum
      omega
    refine ⟨_, pss_cons (ps_par (i := 1) (j := 2) rfl scLen.nd rfl rfl (by decide) rfl rfl (pa_cons pe_dnewK (pa_cons pe_int pa_nil)) rfl)
      (pss_cons (ps_for PassesOwn.never rfl (pi_enumT (by rfl) X.enum (pa_cons (pe_ix ix_tup (pv 0) pe_int (fun _ _ => rfl)) pa_nil)) (pg_tup rfl (pgs_cons (pg_name (i := 3) scLen.nd rfl (.inl rfl)) (pgs_cons (pg_name (i := 4) scLen.nd rfl (.inl rfl)) pgs_nil)))
        (pss_one (ps_for PassesOwn.never rfl (pi_range1 (by rfl) X.range (pa_cons (pv 4) pa_nil)) (pg_name (i := 5) scLen.nd rfl (.inl rfl))
          (pss_cons (ps_dput hu (pv 1) (pe_ix ix_tup (pe_ix ix_tup (pv 0) pe_int (fun _ _ => rfl)) (pv 2) (fun _ _ => rfl)) (pe_op op_add (pv 3) pe_int) rfl)
          (pss_one (ps_set (i := 2) scLen.nd rfl (.inl rfl) (pe_op op_add (pv 2) pe_int)))))))
      (pss_one (ps_ret (pv 1)))), ?_⟩
    intro d nd
    refine ⟨_, _, rfl, ?_⟩
    have sm1 : Same H (upd H d (.dK [])) := same_upd nd
    refine ⟨_, rfl, t, _, 0, .ref ca, rfl, rfl, SqT.of (sm1 _ _ ht.top), atI_nat (j := 0) rfl, ca, cs.map V.int, rfl, SqT.of (sm1 _ _ ht.cnt), ?_⟩
    refine for_itu (K := K) (a := ca) (xs := cs.map V.int) (fun i σ H2 => ∃ (y3 y4 y5 : Option V), σ = [some (.ref t), some (.ref d), some (.int (preN cs i)), y3, y4, y5] ∧ Same H H2 ∧ H2 d = some (.dK (wK ((lz cs ss).take (preN cs i)))))
      ⟨none, none, none, rfl, sm1, by rw [upd_same]; simp [preN, wK]⟩ (fun i σ H2 _ ⟨_, _, _, _, sm, _⟩ => SqT.of (sm _ _ ht.cnt)) ?_ ?_
    · rintro i x σ H2 U hx ⟨y3, y4, y5, rfl, sm, hd⟩ nU
      rw [List.getElem?_map] at hx
      obtain ⟨c, hc1, hc2⟩ := Option.map_eq_some_iff.mp hx
      subst hc2
      have hi : i < 16 := by
        have := (List.getElem?_eq_some_iff.mp hc1).1
        omega
      have hrc := ok.cnt.rng c (List.mem_of_getElem? hc1)
      have hpre := preN_succ hc1
      have hle : preN cs (i + 1) ≤ ss.length := by rw [← hsum]; exact preN_le_all cs (i + 1)
      have smU : Same H2 (upd H2 U (.tup [.int (0 + (i : Int)), .int c])) := same_upd nU
      refine ⟨U, _, rfl, SqT.of upd_same, rfl, _, _, rfl, _, _, rfl, rfl, ?_⟩
      refine ⟨_, rfl, c, rfl, by omega, by omega, ?_⟩
      refine for_range (n := c.toNat) (fun j σ H5 => ∃ y5 : Option V, σ = [some (.ref t), some (.ref d), some (.int ((preN cs i + j : Nat) : Int)), some (.int (0 + (i : Int))), some (.int c), y5] ∧ Same H H5 ∧ H5 d = some (.dK (wK ((lz cs ss).take (preN cs i + j)))))
        ⟨y5, by simp, sm.trans smU, smU _ _ hd⟩ ?_ ?_
      · rintro j σ H5 hj ⟨y5, rfl, sm5, hd5⟩
        have hpj : preN cs i + j < ss.length := by omega
        have hsy : ss[preN cs i + j]? = some ss[preN cs i + j] := List.getElem?_eq_getElem hpj
        have hla : (expL 1 cs)[preN cs i + j]? = some (1 + i) := exp_at cs 1 i j c hc1 hj
        have hlz := lz_at hsy hla
        refine ⟨_, rfl, _, _, rfl, rfl, ?_⟩
        refine ⟨_, rfl, _, rfl, t, _, 1, .ref sa, rfl, rfl, SqT.of (sm5 _ _ ht.top), atI_nat (j := 1) rfl, _, rfl, sa, _, _, V.int ss[preN cs i + j], rfl, rfl, SqT.of (sm5 _ _ ht.sym), atI_nat (by rw [List.getElem?_map, hsy]; rfl), ?_⟩
        have hnot : ss[preN cs i + j] ∉ ((lz cs ss).take (preN cs i + j)).map (·.1) := fun m => by
          rw [List.map_take, hk] at m
          obtain ⟨q', hq, e⟩ := List.mem_iff_getElem.mp m
          rw [List.length_take] at hq
          rw [List.getElem_take] at e
          have e1 : ss[q']? = some ss[preN cs i + j] := by rw [← e, List.getElem?_eq_getElem]
          have := nd_ix ok.sym.nd e1 hsy
          omega
        refine ⟨d, _, rfl, DPut.k (k := Sum.inl ss[preN cs i + j]) hd5 ?_, ?_⟩
        · rw [wK_len, List.length_take]
          exact small1000 (by omega)
        · refine ⟨_, rfl, _, _, rfl, rfl, _, rfl, fun b o e => ?_, ?_⟩
          · rw [upd_ne (ne_of_none e nd)]
            exact sm5 _ _ e
          · rw [upd_same]
            have e1 : (0 + (i : Int)) + 1 = ((1 + i : Nat) : Int) := by omega
            show some (HO.dK (putK (wK ((lz cs ss).take (preN cs i + j))) (Sum.inl ss[preN cs i + j]) (V.int ((0 + (i : Int)) + 1)))) = _
            rw [e1, putK_wK hnot]
            have e2 : (lz cs ss).take (preN cs i + (j + 1)) = (lz cs ss).take (preN cs i + j) ++ [(ss[preN cs i + j], ((1 + i : Nat) : Int))] := by
              rw [show preN cs i + (j + 1) = preN cs i + j + 1 by omega, List.take_add_one, hlz]
              rfl
            rw [e2]
      · rintro σ H5 ⟨y5, rfl, sm5, hd5⟩
        exact ⟨_, _, _, by rw [hpre], sm5, by rw [hpre]; exact hd5⟩
    · rintro σ H2 ⟨y3, y4, y5, rfl, sm, hd⟩
      rw [List.length_map, hsum, List.take_of_length_le (by omega)] at hd
      exact ⟨_, rfl, q _ d sm nd hd⟩
end
end K23
set_option Elab.async false
set_option linter.all false
set_option maxRecDepth 100000
set_option maxHeartbeats 4000000
namespace K23
open PySem PySem.Spec PyProof.Rows L2
theorem Kp.free {s : Addr} {H H' : Hp} {p : Addr} (k : Kp s H H') (h : SrcAt H' s) (n : H' p = none) : H p = none := by
  cases e : H p with
  | none => rfl
  | some o =>
    by_cases z : p = s
    · obtain ⟨x, y, u, hs⟩ := h
      rw [z, hs] at n
      cases n
    · rw [k p o z e] at n
      cases n
theorem SrcAt.new {s p : Addr} {H : Hp} {o : HO} (h : SrcAt H s) (n : H p = none) : SrcAt (upd H p o) s ∧ p ≠ s := by
  obtain ⟨x, y, z, e⟩ := h
  have hn : s ≠ p := ne_of_none e n
  exact ⟨⟨x, y, z, by rw [upd_ne hn]; exact e⟩, Ne.symm hn⟩
theorem SrcAt.upd {s p : Addr} {H : Hp} {o : HO} (h : SrcAt H s) (n : p ≠ s) : SrcAt (upd H p o) s := by
  obtain ⟨x, y, z, e⟩ := h
  exact ⟨x, y, z, by rw [upd_ne (Ne.symm n)]; exact e⟩
theorem map_erase {α β : Type} (f : α → β) : ∀ (l : List α) (j : Nat), (l.map f).eraseIdx j = (l.eraseIdx j).map f
  | [], _ => rfl
  | _ :: _, 0 => rfl
  | a :: l, j + 1 => by
    show f a :: (l.map f).eraseIdx j = f a :: (l.eraseIdx j).map f
    rw [map_erase f l j]
section
variable {P : Program} {w : World} {K : PySem.W.Frag} {mg : Str → Option Value} {base : Heap} {T : List (Addr × Str)}
/-! ### _law_weights -/
abbrev sLw : Stmt := topS 44
abbrev nLw : List Str := ["_law_source", "_law_many", "_law_way", "_law_some", "_law_found", "_law_before", "_law_turn", "_law_drawn", "_law_load"]
theorem scLw : FnScope nLw ["_law_source"] (defScope sLw) := ⟨rfl, rfl, rfl, by decide +kernel, rfl, by decide +kernel, by decide +kernel⟩
def spLw : Sp := fun vs H Q _ => ∃ s : Addr, vs = [.ref s] ∧ SrcAt H s ∧ ∀ (H' : Hp) (d : Addr) (ws : List (Int × Int)), Kp s H H' → SrcAt H' s → H d = none → H' d = some (.dK (wK ws)) → WOk ws → 6 ≤ ws.length → Q (.ref d) H'
/-- what is drawn so far -/
structure Dr (i : Nat) (ns : List Int) (ws : List (Int × Int)) : Prop where
  len : ws.length = i
  left : ns.length = 256 - i
  nd : ns.Nodup
  rng : ∀ k ∈ ns, 0 ≤ k ∧ k ≤ 255
  off : ∀ k ∈ ns, k ∉ ws.map (·.1)
  knd : (ws.map (·.1)).Nodup
  key : ∀ p ∈ ws, 0 ≤ p.1 ∧ p.1 ≤ 255
  wt : ∀ p ∈ ws, 1 ≤ p.2 ∧ p.2 ≤ 1000000000000000000
theorem Dr.step {i : Nat} {ns : List Int} {ws : List (Int × Int)} (h : Dr i ns ws) {j : Nat} {k v : Int} (hj : ns[j]? = some k) (hv : 1 ≤ v ∧ v ≤ 1000000000000000000) : Dr (i + 1) (ns.eraseIdx j) (ws ++ [(k, v)]) ∧ k ∉ ws.map (·.1) := by
  have hm := List.mem_of_getElem? hj
  have hjl := (List.getElem?_eq_some_iff.mp hj).1
  have sub : (ns.eraseIdx j).Sublist ns := List.eraseIdx_sublist ns j
  have hk := h.off k hm
  have hne : k ∉ ns.eraseIdx j := fun m => by
    obtain ⟨q, hq⟩ := List.mem_iff_getElem?.mp m
    rw [List.getElem?_eraseIdx] at hq
    by_cases hqj : q < j
    · rw [if_pos hqj] at hq
      have := nd_ix h.nd hq hj
      omega
    · rw [if_neg hqj] at hq
      have := nd_ix h.nd hq hj
      omega
  refine ⟨⟨by rw [List.length_append, h.len]; rfl, by rw [List.length_eraseIdx_of_lt hjl, h.left]; omega, h.nd.sublist sub, fun x hx => h.rng x (sub.subset hx), fun x hx => ?_, ?_, fun p hp => ?_, fun p hp => ?_⟩, hk⟩
  · rw [List.map_append]
    intro m
    rcases List.mem_append.mp m with m | m
    · exact h.off x (sub.subset hx) m
    · have : x = k := by simpa using m
      rw [this] at hx
      exact hne hx
  · rw [List.map_append]
    exact nd_snoc h.knd hk
  · rcases List.mem_append.mp hp with m | m
    · exact h.key p m
    · have : p = (k, v) := by simpa using m
      rw [this]
      exact h.rng k hm
  · rcases List.mem_append.mp hp with m | m
    · exact h.wt p m
    · have : p = (k, v) := by simpa using m
      rw [this]
      exact hv
theorem ok_lw {f fN fO : Addr} {fd fdN fdO : FuncData} (F : Fun K "_law_weights" "_law_weights" sLw f fd) (X : Txt mg) (GN : FnOk P w K mg base CX0 1 fN fdN ["_law_source", "_law_many"] spNext) (bN : Binds K fdN ["_law_source", "_law_many"] []) (kN : PySem.W.keepIn K (.ref fN) = true) (gN : mg "_law_next" = some (.ref fN))
    (GO : FnOk P w K mg base CX0 2 fO fdO ["_law_source", "_law_some"] (spOne K)) (bO : Binds K fdO ["_law_source", "_law_some"] []) (kO : PySem.W.keepIn K (.ref fO) = true) (gO : mg "_law_one" = some (.ref fO)) : FnOk P w K mg base CX0 3 f fd ["_law_source"] spLw := by
  refine F.ok scLw (fun vs H Q E h => ?_) (fun cdv A outer s0 H vs Q E hr h => ?_)
  · obtain ⟨s, rfl, _⟩ := h
    rfl
  · obtain ⟨s, rfl, hs, q⟩ := h
    have hu := hu_of hr
    have hr1 := hr.mono (show 1 ≤ 2 by decide)
    refine ⟨_, pss_cons (ps_par (i := 1) (j := 2) rfl scLw.nd rfl rfl (by decide) rfl rfl (pa_cons (pe_op op_add (pe_call GO hr (by rfl) gO kO bO .nil pass0 (pa_cons (pv 0) (pa_cons (pe_lst (pa_cons pe_int (pa_cons pe_int (pa_cons pe_int (pa_cons pe_int (pa_cons pe_int (pa_cons pe_int pa_nil))))))) pa_nil))) (pe_call GN hr1 (by rfl) gN kN bN .nil pass0 (pa_cons (pv 0) (pa_cons pe_int pa_nil)))) (pa_cons (pe_call GN hr1 (by rfl) gN kN bN .nil pass0 (pa_cons (pv 0) (pa_cons pe_int pa_nil))) pa_nil)) rfl)
      (pss_cons (ps_par3 (i := 3) (j := 4) (l := 5) rfl scLw.nd rfl rfl rfl (by decide) (by decide) (by decide) rfl rfl rfl (pa_cons (pe_listRg rfl (by rfl) X.list (prg_1 (by rfl) X.range pe_int)) (pa_cons pe_dnewK (pa_cons (pe_lst (pa_cons pe_int (pa_cons pe_int pa_nil))) pa_nil))) rfl)
      (pss_cons (ps_for PassesOwn.never rfl (pi_range1 (by rfl) X.range (pa_cons (pv 1) pa_nil)) (pg_name (i := 6) scLw.nd rfl (.inl rfl))
        (pss_cons (ps_set (i := 5) scLw.nd rfl (.inl rfl) (pe_lst (pa_cons (pe_ix ix_list (pv 5) pe_int (fun _ _ => rfl)) (pa_cons (pe_callB (call_min2 rfl) (by rfl) X.min bt_min (pa_cons (pe_op op_add (pe_ix ix_list (pv 5) pe_int (fun _ _ => rfl)) (pe_ix ix_list (pv 5) pe_int (fun _ _ => rfl))) (pa_cons (pe_op op_pow pe_int pe_int) pa_nil))) pa_nil))))
        (pss_cons (ps_set (i := 7) scLw.nd rfl (.inl rfl) (pe_op op_add pe_int (pe_op op_mul (pe_call GN hr1 (by rfl) gN kN bN .nil pass0 (pa_cons (pv 0) (pa_cons (pe_op op_pow pe_int pe_int) pa_nil))) (pe_call GO hr (by rfl) gO kO bO .nil pass0 (pa_cons (pv 0) (pa_cons (pe_lst (pa_cons pe_int (pa_cons pe_int (pa_cons pe_int (pa_cons (pe_op op_pow pe_int pe_int) pa_nil))))) pa_nil))))))
        (pss_cons (ps_set (i := 8) scLw.nd rfl (.inl rfl) (pe_ix ix_list (pe_lst (pa_cons (pv 7) (pa_cons (pe_op op_shl pe_int (pe_callB (call_min2 rfl) (by rfl) X.min bt_min (pa_cons (pv 6) (pa_cons pe_int pa_nil)))) (pa_cons (pe_ix ix_list (pv 5) pe_int (fun _ _ => rfl)) (pa_cons (pe_op op_add pe_int (pe_call GN hr1 (by rfl) gN kN bN .nil pass0 (pa_cons (pv 0) (pa_cons pe_int pa_nil)))) pa_nil))))) (pv 2) (fun _ _ => rfl)))
        (pss_one (ps_dput hu (pv 4) (pe_bm PySem.F.plainAttrs_list PySem.F.slot_list_pop PySem.F.type_list_pop mt_popAt (pv 3) (pa_cons (pe_call GN hr1 (by rfl) gN kN bN .nil pass0 (pa_cons (pv 0) (pa_cons (pe_callB call_len_seq (by rfl) X.len bt_len (pa_cons (pv 3) pa_nil)) pa_nil))) pa_nil)) (pe_callB (call_min2 rfl) (by rfl) X.min bt_min (pa_cons (pv 8) (pa_cons (pe_op op_pow pe_int pe_int) pa_nil))) rfl))))))
      (pss_one (ps_ret (pv 4))))), ?_⟩
    -- many, way
    refine ⟨_, rfl, by show 6 ≤ sizeLine; decide, fun l1 n1 => ?_⟩
    obtain ⟨hs1, ls1⟩ := hs.new (o := .lst [.int 6, .int 17, .int 30, .int 60, .int 120, .int 244]) n1
    refine ⟨s, l1, _, rfl, hs1, SqL.of upd_same, ls1, by decide, by decide, fun H2 x2 k2 hs2 hx2 => ?_⟩
    obtain ⟨m, rfl, hm⟩ : ∃ m : Int, x2 = V.int m ∧ 6 ≤ m ∧ m ≤ 244 := by
      simp only [List.mem_cons, List.not_mem_nil, or_false] at hx2
      rcases hx2 with rfl | rfl | rfl | rfl | rfl | rfl <;> exact ⟨_, rfl, by decide, by decide⟩
    refine ⟨_, rfl, s, 12, rfl, hs2, by decide, by decide, fun H3 r3 k3 hs3 r30 r31 => ?_⟩
    refine ⟨_, _, rfl, rfl, _, rfl, s, 4, rfl, hs3, by decide, by decide, fun H4 r4 k4 hs4 r40 r41 => ?_⟩
    have kA : Kp s H H4 := (((Kp.of (same_upd n1)).trans k2).trans k3).trans k4
    obtain ⟨n, en⟩ : ∃ n : Nat, m + r3 = (n : Int) := ⟨(m + r3).toNat, by omega⟩
    obtain ⟨wy, rfl⟩ : ∃ wy : Nat, r4 = (wy : Int) := ⟨r4.toNat, by omega⟩
    refine ⟨V.int (n : Int), V.int (wy : Int), by show [V.int (m + r3), V.int (wy : Int)] = _; rw [en], ?_⟩
    -- some, found, before
    refine ⟨_, rfl, .of_le (by decide) (by decide) (by decide) (by decide), fun so nso => ?_⟩
    obtain ⟨hs5, so_s⟩ := hs4.new (o := .lst (rgV 0 256)) nso
    intro d nd
    obtain ⟨hs6, d_s⟩ := hs5.new (o := .dK []) nd
    have d_so : so ≠ d := ne_of_none upd_same nd
    refine ⟨by show 2 ≤ sizeLine; decide, fun b0 nb0 => ?_⟩
    obtain ⟨hs7, b0_s⟩ := hs6.new (o := .lst [.int 1, .int 1]) nb0
    have b0_d : b0 ≠ d := Ne.symm (ne_of_none upd_same nb0)
    have b0_so : b0 ≠ so := Ne.symm (ne_of_none (show upd (upd H4 so (.lst (rgV 0 256))) d (.dK []) so = some _ by rw [upd_ne d_so, upd_same]) nb0)
    have kB : Kp s H (upd (upd (upd H4 so (.lst (rgV 0 256))) d (.dK [])) b0 (.lst [.int 1, .int 1])) := kA.trans (.of (((same_upd nso).trans (same_upd nd)).trans (same_upd nb0)))
    have soH : H so = none := kA.free hs4 nso
    have dH : H d = none := (kA.trans (.of (same_upd nso))).free hs5 nd
    refine ⟨_, _, _, rfl, ?_⟩
    refine ⟨_, rfl, (n : Int), rfl, by omega, by omega, ?_⟩
    refine for_range (lo := 0) (n := ((n : Int)).toNat) (fun i σ H' => ∃ (b : Addr) (b1 b2 : Int) (ns : List Int) (ws : List (Int × Int)) (y6 y7 y8 : Option V), σ = [some (.ref s), some (.int n), some (.int wy), some (.ref so), some (.ref d), some (.ref b), y6, y7, y8] ∧ Kp s H H' ∧ SrcAt H' s ∧ H' so = some (.lst (ns.map V.int)) ∧ H' d = some (.dK (wK ws)) ∧ H' b = some (.lst [.int b1, .int b2]) ∧ b ≠ s ∧ b ≠ so ∧ b ≠ d ∧ 1 ≤ b1 ∧ 1 ≤ b2 ∧ Dr i ns ws) ?_ ?_ ?_
    · refine ⟨b0, 1, 1, (List.range 256).map fun i : Nat => (i : Int), [], none, none, none, rfl, kB, hs7, ?_, ?_, upd_same, b0_s, b0_so, b0_d, by decide, by decide, ⟨rfl, by simp, ?_, ?_, by simp, by simp, by simp, by simp⟩⟩
      · rw [upd_ne (Ne.symm b0_so), upd_ne d_so, upd_same]
        unfold rgV
        rw [List.map_map]
        refine congrArg _ (congrArg _ ?_)
        refine List.map_congr_left fun i _ => ?_
        show V.int (0 + (i : Int)) = V.int (i : Int)
        rw [Int.zero_add]
      · rw [upd_ne (Ne.symm b0_d), upd_same]; rfl
      · refine List.Pairwise.map _ (fun a b h => ?_) List.nodup_range
        intro z; exact h (by omega)
      · intro k hk
        obtain ⟨i, hi, rfl⟩ := List.mem_map.mp hk
        have := List.mem_range.mp hi
        omega
    · rintro i σ H' hi ⟨b, b1, b2, ns, ws, y6, y7, y8, rfl, kp, hsr, hso, hd, hb, bs, bso, bd, h1, h2, dr⟩
      have hi' : i < n := by omega
      have hi2 : i < 256 := by omega
      have hsl := dr.left
      -- before
      refine ⟨_, rfl, b, _, 1, .int b2, rfl, rfl, SqL.of hb, atI_nat (j := 1) rfl, ?_⟩
      refine ⟨_, rfl, b, _, 0, .int b1, rfl, rfl, SqL.of hb, atI_nat (j := 0) rfl, _, rfl, b, _, 1, .int b2, rfl, rfl, SqL.of hb, atI_nat (j := 1) rfl, _, _, rfl, rfl, _, _, rfl, rfl, ⟨by decide, by decide, by decide⟩, b1 + b2, 1000000000000000000, rfl, ?_⟩
      refine ⟨by show 2 ≤ sizeLine; decide, fun b' nb' => ?_⟩
      have eb0 : ∃ c2 : Int, 1 ≤ c2 ∧ upd H' b' (.lst [.int b2, .int (if (1000000000000000000 : Int) < b1 + b2 then 1000000000000000000 else b1 + b2)]) b' = some (.lst [.int b2, .int c2]) := ⟨_, by split <;> omega, upd_same⟩
      obtain ⟨hsB1, nb's⟩ := hsr.new (o := .lst [.int b2, .int (if (1000000000000000000 : Int) < b1 + b2 then 1000000000000000000 else b1 + b2)]) nb'
      have kB1 : Kp s H' (upd H' b' (.lst [.int b2, .int (if (1000000000000000000 : Int) < b1 + b2 then 1000000000000000000 else b1 + b2)])) := .of (same_upd nb')
      have nb'so : b' ≠ so := Ne.symm (ne_of_none hso nb')
      have nb'd : b' ≠ d := Ne.symm (ne_of_none hd nb')
      generalize upd H' b' (.lst [.int b2, .int (if (1000000000000000000 : Int) < b1 + b2 then 1000000000000000000 else b1 + b2)]) = HB at hsB1 kB1 eb0 ⊢
      obtain ⟨c2, hc2, eb'⟩ := eb0
      -- drawn
      refine ⟨_, rfl, _, _, rfl, rfl, ⟨by decide, by decide, by decide⟩, s, 1000000000, rfl, hsB1, by decide, by decide, fun HC rc kC hsC rc0 rc1 => ?_⟩
      refine ⟨_, rfl, _, _, rfl, rfl, ⟨by decide, by decide, by decide⟩, by show 4 ≤ sizeLine; decide, fun l nl => ?_⟩
      obtain ⟨hsD, l_s⟩ := hsC.new (o := .lst [.int 0, .int 1, .int 1, .int 1000000000]) nl
      refine ⟨s, l, [.int 0, .int 1, .int 1, .int 1000000000], rfl, hsD, SqL.of upd_same, l_s, by decide, by decide, fun HE xe kE hsE hxe => ?_⟩
      obtain ⟨ve, rfl, hve⟩ : ∃ v : Int, xe = V.int v ∧ 0 ≤ v ∧ v ≤ 1000000000 := by
        simp only [List.mem_cons, List.not_mem_nil, or_false] at hxe
        rcases hxe with rfl | rfl | rfl | rfl <;> exact ⟨_, rfl, by decide, by decide⟩
      refine ⟨_, _, rfl, rfl, .inl ⟨by omega, by omega⟩, _, _, rfl, rfl, ?_⟩
      have kD : Kp s HC (upd HC l (.lst [.int 0, .int 1, .int 1, .int 1000000000])) := .of (same_upd nl)
      have kAll : Kp s H' HE := ((kB1.trans kC).trans kD).trans kE
      have eb2 : HE b' = some (.lst [.int b2, .int c2]) := kE _ _ nb's (kD _ _ nb's (kC _ _ nb's eb'))
      have hdr : 1 ≤ 1 + rc * ve := by
        have := Int.mul_nonneg rc0 hve.1
        omega
      -- load
      refine ⟨_, rfl, ?_⟩
      refine ⟨_, rfl, (0 + (i : Int)), 59, rfl, 1, _, rfl, rfl, ⟨?_, ?_, by decide⟩, ?_⟩
      · show 0 ≤ (if (59 : Int) < 0 + (i : Int) then 59 else 0 + (i : Int))
        split <;> omega
      · show (if (59 : Int) < 0 + (i : Int) then 59 else 0 + (i : Int)) ≤ 1000000
        split <;> omega
      refine ⟨_, rfl, b', _, 0, .int b2, rfl, rfl, SqL.of eb2, atI_nat (j := 0) rfl, _, rfl, s, 3, rfl, hsE, by decide, by decide, fun HF rf kF hsF rf0 rf1 => ⟨_, _, rfl, rfl, ?_⟩⟩
      have hsh : (1 : Int) ≤ 1 * 2 ^ (if (59 : Int) < 0 + (i : Int) then 59 else 0 + (i : Int)).toNat := by
        have : (0 : Int) < 2 ^ (if (59 : Int) < 0 + (i : Int) then 59 else 0 + (i : Int)).toNat := Int.pow_pos (by decide)
        omega
      have hx : ∃ lv : Int, [V.int (1 + rc * ve), V.int (1 * 2 ^ (if (59 : Int) < 0 + (i : Int) then 59 else 0 + (i : Int)).toNat), V.int b2, V.int (1 + rf)][wy]? = some (V.int lv) ∧ 1 ≤ lv := by
        match wy, r41 with
        | 0, _ => exact ⟨_, rfl, hdr⟩
        | 1, _ => exact ⟨_, rfl, hsh⟩
        | 2, _ => exact ⟨_, rfl, h2⟩
        | 3, _ => exact ⟨_, rfl, by omega⟩
        | w + 4, z => omega
      obtain ⟨lv, hx1, hx2⟩ := hx
      refine ⟨by show 4 ≤ sizeLine; decide, fun l2 nl2 => ?_⟩
      refine ⟨_, rfl, l2, _, (wy : Int), V.int lv, rfl, rfl, SqL.of upd_same, atI_nat hx1, ?_⟩
      obtain ⟨hsG, l2_s⟩ := hsF.new (o := .lst [V.int (1 + rc * ve), V.int (1 * 2 ^ (if (59 : Int) < 0 + (i : Int) then 59 else 0 + (i : Int)).toNat), V.int b2, V.int (1 + rf)]) nl2
      have kG : Kp s H' (upd HF l2 (.lst [V.int (1 + rc * ve), V.int (1 * 2 ^ (if (59 : Int) < 0 + (i : Int) then 59 else 0 + (i : Int)).toNat), V.int b2, V.int (1 + rf)])) := (kAll.trans kF).trans (.of (same_upd nl2))
      have eb3 : upd HF l2 (.lst [V.int (1 + rc * ve), V.int (1 * 2 ^ (if (59 : Int) < 0 + (i : Int) then 59 else 0 + (i : Int)).toNat), V.int b2, V.int (1 + rf)]) b' = some (.lst [.int b2, .int c2]) := (same_upd nl2) _ _ (kF _ _ nb's eb2)
      generalize upd HF l2 (.lst [V.int (1 + rc * ve), V.int (1 * 2 ^ (if (59 : Int) < 0 + (i : Int) then 59 else 0 + (i : Int)).toNat), V.int b2, V.int (1 + rf)]) = HG at hsG kG eb3 ⊢
      have hsoG := kG _ _ so_s hso
      have hdG := kG _ _ d_s hd
      refine ⟨_, rfl, _, _, rfl, rfl, ⟨by decide, by decide, by decide⟩, lv, 1000000000000000000, rfl, _, rfl, ?_⟩
      refine ⟨_, rfl, .inl ⟨rfl, _, SqL.of hsoG⟩, _, rfl, _, rfl, so, _, rfl, .inl (SqL.of hsoG), s, _, rfl, hsG, by rw [List.length_map]; omega, by rw [List.length_map]; omega, fun HH rh kH hsH rh0 rh1 => ?_⟩
      rw [List.length_map] at rh1
      obtain ⟨j, rfl⟩ : ∃ j : Nat, rh = (j : Int) := ⟨rh.toNat, by omega⟩
      have hj : j < ns.length := by omega
      have ej : ns[j]? = some ns[j] := List.getElem?_eq_getElem hj
      have hsoH := kH _ _ so_s hsoG
      have hdH := kH _ _ d_s hdG
      refine ⟨so, ns.map V.int, (j : Int), j, V.int ns[j], rfl, rfl, hsoH, by omega, by omega, ?_, by rw [List.getElem?_map, ej]; rfl, ?_⟩
      · rw [List.length_map, PySem.seqIndex_of (by omega) (by omega), Int.toNat_natCast]
      have hv : 1 ≤ (if (1000000000000000000 : Int) < lv then 1000000000000000000 else lv) ∧ (if (1000000000000000000 : Int) < lv then 1000000000000000000 else lv) ≤ 1000000000000000000 := by split <;> omega
      obtain ⟨dr', hnk⟩ := dr.step ej hv
      have hd2 : upd HH so (.lst ((ns.map V.int).eraseIdx j)) d = some (.dK (wK ws)) := by rw [upd_ne (Ne.symm d_so)]; exact hdH
      refine ⟨d, _, rfl, DPut.k (k := Sum.inl ns[j]) hd2 ?_, ?_⟩
      · rw [wK_len]
        have := dr.len
        exact small1000 (by omega)
      · refine ⟨b', b2, c2, ns.eraseIdx j, ws ++ [(ns[j], _)], _, _, _, rfl, ?_, ?_, ?_, ?_, ?_, nb's, nb'so, nb'd, h2, hc2, dr'⟩
        · intro x o xs e
          have x1 : x ≠ d := ne_of_none e dH
          have x2 : x ≠ so := ne_of_none e soH
          rw [upd_ne x1, upd_ne x2]
          exact kH _ _ xs (kG _ _ xs (kp _ _ xs e))
        · exact (hsH.upd so_s).upd d_s
        · rw [upd_ne d_so, upd_same, map_erase]
        · rw [upd_same]
          exact congrArg _ (congrArg _ (putK_wK hnk))
        · rw [upd_ne nb'd, upd_ne nb'so]
          exact kH _ _ nb's eb3
    · rintro σ H' ⟨b, b1, b2, ns, ws, y6, y7, y8, rfl, kp, hsr, hso, hd, hb, _, _, _, _, _, dr⟩
      have hl := dr.len
      refine ⟨_, rfl, q H' d ws kp hsr dH hd ⟨dr.knd, dr.key, dr.wt, by omega⟩ (by omega)⟩
end
end K23
set_option Elab.async false
set_option linter.all false
set_option maxRecDepth 100000
set_option maxHeartbeats 4000000
namespace K23
open PySem PySem.Spec PyProof.Rows L2
/-- the pair of ints at a ref -/
def pk (H : Hp) : V → Int × Int
  | .ref t => match H t with
    | some (.tup [.int a, .int b]) => (a, b)
    | _ => (0, 0)
  | _ => (0, 0)
theorem pk_at {H : Hp} {t : Addr} {a b : Int} (h : H t = some (.tup [.int a, .int b])) : pk H (.ref t) = (a, b) := by
  show (match H t with | some (.tup [.int a, .int b]) => (a, b) | _ => (0, 0)) = (a, b)
  rw [h]
abbrev SortedP (l : List (Int × Int)) : Prop := l.Pairwise K23M.leP
/-- sorted(xs), a list of pairs of ints -/
def rSortedPr : List V → Hp → VK → Prop := fun vs H Q => ∃ (a : Addr) (l : List (Int × Int)), vs = [V.ref a] ∧ PairsAt H a l ∧ ∀ (l' : List (Int × Int)) (H' : Hp) (p : Addr), l'.Perm l → SortedP l' → Same H H' → H p = none → PairsAt H' p l' → Q (.ref p) H'
theorem pairs_vals {H : Hp} {a : Addr} {l : List (Int × Int)} (h : PairsAt H a l) : ∃ xs : List V, H a = some (.lst xs) ∧ xs.map (pk H) = l ∧ ∀ x ∈ xs, ∃ t, x = V.ref t ∧ H t = some (.tup [.int (pk H x).1, .int (pk H x).2]) := by
  obtain ⟨as, e, hl, hp⟩ := h
  have get : ∀ (i : Nat) (t : Addr), as[i]? = some t → ∃ p, l[i]? = some p ∧ H t = some (.tup [.int p.1, .int p.2]) := fun i t hi => by
    have hil : i < l.length := by rw [← hl]; exact (List.getElem?_eq_some_iff.mp hi).1
    exact ⟨l[i], List.getElem?_eq_getElem hil, hp i t _ hi (List.getElem?_eq_getElem hil)⟩
  refine ⟨as.map V.ref, e, ?_, fun x hx => ?_⟩
  · refine List.ext_getElem? fun i => ?_
    rw [List.getElem?_map, List.getElem?_map]
    cases hi : as[i]? with
    | none =>
      have : as.length ≤ i := List.getElem?_eq_none_iff.mp hi
      rw [List.getElem?_eq_none (by omega)]
      rfl
    | some t =>
      obtain ⟨p, h1, h2⟩ := get i t hi
      rw [h1]
      show some (pk H (.ref t)) = some p
      rw [pk_at h2]
  · obtain ⟨t, ht, rfl⟩ := List.mem_map.mp hx
    obtain ⟨i, hi⟩ := List.mem_iff_getElem?.mp ht
    obtain ⟨p, h1, h2⟩ := get i t hi
    exact ⟨t, rfl, by rw [pk_at h2]; exact h2⟩
theorem cr_sortedPr {X : Cx} : CallR X (.builtin "sorted") rSortedPr := by
  intro pins s σ H vs us Q I r h
  obtain ⟨a, l, rfl, hp, q⟩ := h
  obtain ⟨xs, e, em, hx⟩ := pairs_vals hp
  refine cr_sortedPO pins s σ H [.ref a] us Q I r ⟨a, xs, pk H, rfl, SqL.of e, hx, fun ys p hs hb np => ?_⟩
  have sm : Same H (upd H p (.lst ys)) := same_upd np
  have hy : ∀ y ∈ ys, ∃ t, y = V.ref t ∧ H t = some (.tup [.int (pk H y).1, .int (pk H y).2]) := fun y hy => hx y (hb.perm.mem_iff.mp hy)
  obtain ⟨as, ea⟩ : ∃ as : List Addr, ys = as.map V.ref := by
    clear hs hb sm
    induction ys with
    | nil => exact ⟨[], rfl⟩
    | cons y ys ih =>
      obtain ⟨t, e1, _⟩ := hy y List.mem_cons_self
      obtain ⟨as, e2⟩ := ih fun z hz => hy z (List.mem_cons_of_mem _ hz)
      exact ⟨t :: as, by rw [e1, e2]; rfl⟩
  refine q (ys.map (pk H)) _ p ?_ ?_ sm np ⟨as, by rw [upd_same, ea], by rw [List.length_map, ea, List.length_map], fun i t p' h1 h2 => ?_⟩
  · rw [← em]
    exact hb.perm.map _
  · refine List.pairwise_map.mpr (List.Pairwise.imp (fun {x y} h => ?_) hs)
    · skip
      have := SrtO.lexB_no.mp h
      unfold K23M.leP
      omega
  · rw [List.getElem?_map, ea, List.getElem?_map, h1] at h2
    have e2 : pk H (.ref t) = p' := Option.some.inj h2
    have hm : V.ref t ∈ ys := by rw [ea]; exact List.mem_map_of_mem (List.mem_of_getElem? h1)
    obtain ⟨t', e3, e4⟩ := hy _ hm
    cases e3
    rw [e2] at e4
    exact sm _ _ e4
section
variable {P : Program} {w : World} {K : PySem.W.Frag} {mg : Str → Option Value} {base : Heap} {T : List (Addr × Str)}
/-! ### _law_free_bits -/
abbrev sFree : Stmt := topS 45
abbrev nFree : List Str := ["_law_weights_so", "_law_left", "_law_found", "_law_turn", "_law_one_here", "_law_other", "_law_symbol"]
theorem scFree : FnScope nFree ["_law_weights_so"] (defScope sFree) := ⟨rfl, rfl, rfl, by decide +kernel, rfl, by decide +kernel, by decide +kernel⟩
def spFree : Sp := fun vs H Q _ => ∃ (a : Addr) (ws : List (Int × Int)), vs = [.ref a] ∧ H a = some (.dK (wK ws)) ∧ WOk ws ∧ ∀ (H' : Hp) (t : Addr) (F g : Int) (P0 : List (Int × Int)), Same H H' → H t = none → H' t = some (.tup [.int F, .int g]) → K23M.Joins P0 F g → (P0.map (·.1)).Perm (cC ws) → (∀ p ∈ P0, p.2 = 0) → Q (.ref t) H'
theorem pairs_app {H : Hp} {D E p : Addr} {l m : List (Int × Int)} {xs ys : List V} (h1 : PairsAt H D l) (h2 : PairsAt H E m) (e1 : H D = some (.lst xs)) (e2 : H E = some (.lst ys)) (n : H p = none) : PairsAt (upd H p (.lst (xs ++ ys))) p (l ++ m) := by
  obtain ⟨as, f1, l1, g1⟩ := h1
  obtain ⟨bs, f2, l2, g2⟩ := h2
  rw [e1] at f1
  rw [e2] at f2
  cases f1
  cases f2
  have sm : Same H (upd H p (.lst (as.map V.ref ++ bs.map V.ref))) := same_upd n
  refine ⟨as ++ bs, by rw [upd_same, List.map_append], by rw [List.length_append, List.length_append, l1, l2], fun i a q k1 k2 => ?_⟩
  by_cases hi : i < as.length
  · rw [List.getElem?_append_left hi] at k1
    rw [List.getElem?_append_left (by omega)] at k2
    exact sm _ _ (g1 i a q k1 k2)
  · rw [List.getElem?_append_right (by omega)] at k1
    rw [List.getElem?_append_right (by omega), ← l1] at k2
    exact sm _ _ (g2 _ a q k1 k2)
theorem pairs_one {H : Hp} {t D : Addr} {a b : Int} (h : H t = some (.tup [.int a, .int b])) (n : H D = none) : PairsAt (upd H D (.lst [.ref t])) D [(a, b)] := by
  refine ⟨[t], upd_same, rfl, fun i x p h1 h2 => ?_⟩
  match i with
  | 0 =>
    cases h1
    cases h2
    exact (same_upd n) _ _ h
  | i + 1 => simp at h1
theorem pairs_at {H : Hp} {D : Addr} {l : List (Int × Int)} (h : PairsAt H D l) {i : Nat} {p : Int × Int} (hi : l[i]? = some p) : ∃ (as : List Addr) (t : Addr), H D = some (.lst (as.map V.ref)) ∧ as[i]? = some t ∧ H t = some (.tup [.int p.1, .int p.2]) := by
  obtain ⟨as, e, hl, hp⟩ := h
  have hil : i < as.length := by rw [hl]; exact (List.getElem?_eq_some_iff.mp hi).1
  exact ⟨as, as[i], e, List.getElem?_eq_getElem hil, hp i _ p (List.getElem?_eq_getElem hil) hi⟩
theorem pairs_cut {H : Hp} {D p : Addr} {l : List (Int × Int)} {as : List Addr} (h : PairsAt H D l) (e : H D = some (.lst (as.map V.ref))) (n : H p = none) : PairsAt (upd H p (.lst (cutV (as.map V.ref) (some ((2 : Nat) : Int)) none))) p (l.drop 2) := by
  obtain ⟨as', f1, l1, g1⟩ := h
  rw [e] at f1
  have ea : as = as' := (List.map_inj_right (fun a b h => V.ref.inj h)).mp (HO.lst.inj (Option.some.inj f1))
  subst ea
  have sm : Same H (upd H p (.lst (cutV (as.map V.ref) (some ((2 : Nat) : Int)) none))) := same_upd n
  have ec : cutV (as.map V.ref) (some ((2 : Nat) : Int)) none = (as.drop 2).map V.ref := by
    unfold cutV
    rw [HT.sIx_nat, show HT.sIx (as.map V.ref).length (as.map V.ref).length none = (as.map V.ref).length from rfl, List.length_map]
    rcases Nat.le_total 2 as.length with h | h
    · rw [Nat.min_eq_left h, ← List.map_drop]
      refine List.take_of_length_le ?_
      rw [List.length_map, List.length_drop]
      exact Nat.le_refl _
    · rw [Nat.min_eq_right h, Nat.sub_self, List.take_zero, List.drop_eq_nil_of_le h]
      rfl
  refine ⟨as.drop 2, by rw [upd_same, ec], by rw [List.length_drop, List.length_drop, l1], fun i a q k1 k2 => ?_⟩
  rw [List.getElem?_drop] at k1 k2
  exact sm _ _ (g1 _ a q k1 k2)
theorem ok_free {f : Addr} {fd : FuncData} (F : Fun K "_law_free_bits" "_law_free_bits" sFree f fd) (X : Txt mg) : FnOk P w K mg base CX0 1 f fd ["_law_weights_so"] spFree := by
  refine F.ok scFree (fun vs H Q E h => ?_) (fun cdv A outer s0 H vs Q E hr h => ?_)
  · obtain ⟨a, ws, rfl, _⟩ := h
    rfl
  · obtain ⟨a, ws, rfl, ha, ok, q⟩ := h
    have hu := hu_of hr
    have hlen := ok.len
    refine ⟨_, pss_cons (ps_par (i := 1) (j := 2) rfl scFree.nd rfl rfl (by decide) rfl rfl (pa_cons (pe_callB cr_sortedPr (by rfl) X.sorted bt_sorted (pa_cons (pe_op op_cat (pe_lock (pe_lc (own := [("_law_symbol", 6)]) (g := gName 6) (tt := tYes) rfl scFree.nd (pi_keys (pv 0))
          (blkOk_by (N := nFree) (sc := defScope sFree) (by decide +kernel)) (fun _ _ _ _ _ => pg_name (i := 6) scFree.nd rfl (Or.inl rfl)) (fun _ _ _ _ _ => pts_nil)
          (fun _ _ _ _ _ => pe_tup (pa_cons (pe_dget hu (pv 0) (pv 6) (fun _ _ => rfl)) (pa_cons pe_int pa_nil))))) (pe_lst (pa_cons (pe_tup (pa_cons pe_int (pa_cons pe_int pa_nil))) pa_nil))) pa_nil)) (pa_cons pe_int pa_nil)) rfl)
      (pss_cons (ps_for PassesOwn.never rfl (pi_range1 (by rfl) X.range (pa_cons (pe_callB call_lenD (by rfl) X.len bt_len (pa_cons (pv 0) pa_nil)) pa_nil)) (pg_name (i := 3) scFree.nd rfl (.inl rfl))
        (pss_cons (ps_par (i := 4) (j := 5) rfl scFree.nd rfl rfl (by decide) rfl rfl (pa_cons (pe_ix ix_list (pv 1) pe_int (fun _ _ => rfl)) (pa_cons (pe_ix ix_list (pv 1) pe_int (fun _ _ => rfl)) pa_nil)) rfl)
        (pss_cons (ps_set (i := 2) scFree.nd rfl (.inl rfl) (pe_op op_add (pe_op op_add (pv 2) (pe_ix ix_tup (pv 4) pe_int (fun _ _ => rfl))) (pe_ix ix_tup (pv 5) pe_int (fun _ _ => rfl))))
        (pss_one (ps_set (i := 1) scFree.nd rfl (.inl rfl) (pe_callB cr_sortedPr (by rfl) X.sorted bt_sorted (pa_cons (pe_op op_cat (pe_slice sl_list (pv 1) (po_some pe_int) po_none) (pe_lst (pa_cons (pe_tup (pa_cons (pe_op op_add (pe_ix ix_tup (pv 4) pe_int (fun _ _ => rfl)) (pe_ix ix_tup (pv 5) pe_int (fun _ _ => rfl)))
            (pa_cons (pe_op op_add pe_int (pe_callB (call_max2 rfl) (by rfl) X.max bt_max (pa_cons (pe_ix ix_tup (pv 4) pe_int (fun _ _ => rfl)) (pa_cons (pe_ix ix_tup (pv 5) pe_int (fun _ _ => rfl)) pa_nil)))) pa_nil))) pa_nil))) pa_nil)))))))
      (pss_one (ps_ret (pe_tup (pa_cons (pv 2) (pa_cons (pe_ix ix_tup (pe_ix ix_list (pv 1) pe_int (fun _ _ => rfl)) pe_int (fun _ _ => rfl)) pa_nil)))))), ?_⟩
    refine ⟨a, _, ha, trivial, fun od => ?_⟩
    refine ⟨_, rfl, a, od, rfl, .inl ⟨wK ws, upd_same, fun D nD => lc_pairs (ys := ws.map fun p => (p.2, 0)) (plain_keys upd_same) nD ?_ ?_ ?_ ?_⟩⟩
    · rw [List.length_map, List.length_map, wK_len]
    · rw [List.length_map, wK_len]; exact Nat.le_trans hlen (by decide)
    · intro i x y H1 Q' ex ey sm q'
      obtain ⟨p, hp, rfl⟩ := wK_at ex
      rw [List.getElem?_map, hp] at ey
      have ey' : (p.2, (0 : Int)) = y := Option.some.inj ey
      subst ey'
      refine ⟨rfl, _, rfl, _, rfl, a, V.int p.2, rfl, .inl ⟨wK ws, Sum.inl p.1, .inr ⟨od, sm _ _ upd_same⟩, rfl, (valV_nd ok.nd p (List.mem_of_getElem? hp)).symm⟩, by show 2 ≤ sizeLine; decide, fun t nt => ?_⟩
      exact q' _ t (same_upd nt) nt upd_same
    · intro H1 sm eD
      have hl1 : H1 a = some (.frz od (.dK (wK ws))) := same_locked sm
      have s1 : Same H (upd H1 a (.dK (wK ws))) := same_unlock sm ha
      have nDa : D ≠ a := fun z => by rw [z, upd_same] at nD; cases nD
      refine ⟨hl1, ?_⟩
      have eD1 : PairsAt (upd H1 a (.dK (wK ws))) D (ws.map fun p => (p.2, 0)) := by
        obtain ⟨as, e, hl, hp⟩ := eD
        exact ⟨as, by rw [upd_ne nDa]; exact e, hl, fun i t p k1 k2 => by rw [upd_ne (ne_of (hp i t p k1 k2) hl1 (by intro z; cases z))]; exact hp i t p k1 k2⟩
      generalize upd H1 a (.dK (wK ws)) = H2 at s1 eD1 ⊢
      refine ⟨by show 2 ≤ sizeLine; decide, fun t0 nt0 => ?_⟩
      have s2 : Same H2 (upd H2 t0 (.tup [.int 0, .int 0])) := same_upd nt0
      refine ⟨by show 1 ≤ sizeLine; decide, fun l0 nl0 => ?_⟩
      have s3 : Same (upd H2 t0 (.tup [.int 0, .int 0])) (upd (upd H2 t0 (.tup [.int 0, .int 0])) l0 (.lst [.ref t0])) := same_upd nl0
      have p0 : PairsAt (upd (upd H2 t0 (.tup [.int 0, .int 0])) l0 (.lst [.ref t0])) l0 [(0, 0)] := pairs_one upd_same nl0
      have e0 : (upd (upd H2 t0 (.tup [.int 0, .int 0])) l0 (.lst [.ref t0])) l0 = some (.lst [.ref t0]) := upd_same
      have s4 := s2.trans s3
      generalize (upd (upd H2 t0 (.tup [.int 0, .int 0])) l0 (.lst [.ref t0])) = H3 at s4 p0 e0 ⊢
      have eD3 := eD1.same s4
      obtain ⟨as, e3, hl3, _⟩ := id eD3
      rw [List.length_map] at hl3
      refine ⟨D, l0, _, _, rfl, rfl, e3, e0, ?_, fun p np => ?_⟩
      · rw [List.length_map, hl3]
        exact Nat.le_trans (show ws.length + 1 ≤ 1000 by omega) (by decide)
      · have pa := pairs_app eD3 p0 e3 e0 np
        have s5 : Same H3 (upd H3 p (.lst (as.map V.ref ++ [.ref t0]))) := same_upd np
        refine ⟨p, _, rfl, pa, fun P0 H4 lf hp0 hs0 s6 nlf hlf => ?_⟩
        have sA : Same H H4 := ((s1.trans s4).trans s5).trans s6
        have hperm : (P0.map (·.1)).Perm (cC ws) := by
          have h1 := hp0.map (·.1)
          rw [List.map_append, List.map_map] at h1
          refine h1.trans (List.Perm.trans ?_ (K23M.isort_perm _).symm)
          exact List.perm_append_comm
        have hzero : ∀ r ∈ P0, r.2 = 0 := fun r hr0 => by
          rcases List.mem_append.mp (hp0.mem_iff.mp hr0) with m | m
          · obtain ⟨x, _, rfl⟩ := List.mem_map.mp m
            rfl
          · have : r = (0, 0) := by simpa using m
            rw [this]
        have hl0 : P0.length = ws.length + 1 := by
          have := hp0.length_eq
          rw [List.length_append, List.length_map] at this
          exact this
        refine ⟨_, _, rfl, ?_⟩
        refine ⟨_, rfl, a, wK ws, rfl, sA _ _ ha, _, rfl, by omega, by rw [wK_len]; omega, ?_⟩
        refine for_range (n := (((wK ws).length : Nat) : Int).toNat) (fun i σ H' => ∃ (lf : Addr) (F0 : Int) (l : List (Int × Int)) (y3 y4 y5 y6 : Option V), σ = [some (.ref a), some (.ref lf), some (.int F0), y3, y4, y5, y6] ∧ Same H H' ∧ PairsAt H' lf l ∧ SortedP l ∧ l.length = ws.length + 1 - i ∧ ∀ F' g, K23M.Joins l F' g → K23M.Joins P0 (F0 + F') g)
          ⟨lf, 0, P0, none, none, none, none, rfl, sA, hlf, hs0, hl0, fun F' g h => by rw [Int.zero_add]; exact h⟩ ?_ ?_
        · rintro i σ H5 hi ⟨lf, F0, l, y3, y4, y5, y6, rfl, sm5, hlf, hsl, hll, hJ⟩
          rw [wK_len, Int.toNat_natCast] at hi
          obtain ⟨x, y, R, rfl⟩ : ∃ x y R, l = x :: y :: R := by
            match l, hll with
            | [], z => simp at z; omega
            | [_], z => simp at z; omega
            | x :: y :: R, _ => exact ⟨x, y, R, rfl⟩
          obtain ⟨as, tx, e5, hx1, hx2⟩ := pairs_at hlf (i := 0) (p := x) rfl
          obtain ⟨as', ty, e5', hy1, hy2⟩ := pairs_at hlf (i := 1) (p := y) rfl
          have ea : as = as' := by
            rw [e5] at e5'
            exact (List.map_inj_right (fun a b h => V.ref.inj h)).mp (HO.lst.inj (Option.some.inj e5'))
          subst ea
          have hal : as.length ≤ 256 := by
            obtain ⟨as2, f1, f2, _⟩ := id hlf
            rw [e5] at f1
            have e := (List.map_inj_right (fun a b h => V.ref.inj h)).mp (HO.lst.inj (Option.some.inj f1))
            rw [e, f2, hll]
            omega
          refine ⟨_, rfl, lf, _, 0, .ref tx, rfl, rfl, SqL.of e5, atI_nat (j := 0) (by rw [List.getElem?_map, hx1]; rfl), _, rfl, lf, _, 1, .ref ty, rfl, rfl, SqL.of e5, atI_nat (j := 1) (by rw [List.getElem?_map, hy1]; rfl), ?_⟩
          refine ⟨_, _, rfl, ?_⟩
          refine ⟨_, rfl, _, rfl, tx, _, 0, .int x.1, rfl, rfl, SqT.of hx2, atI_nat (j := 0) rfl, _, _, rfl, rfl, _, rfl, ty, _, 0, .int y.1, rfl, rfl, SqT.of hy2, atI_nat (j := 0) rfl, _, _, rfl, rfl, ?_⟩
          refine ⟨_, rfl, 2, rfl, lf, _, rfl, SqL.of e5, fun g2 ng2 => ?_⟩
          have pc := pairs_cut hlf e5 ng2
          have eg2 : upd H5 g2 (.lst (cutV (as.map V.ref) (some 2) none)) g2 = some (.lst (cutV (as.map V.ref) (some 2) none)) := upd_same
          have t1 : Same H5 (upd H5 g2 (.lst (cutV (as.map V.ref) (some 2) none))) := same_upd ng2
          have pc : PairsAt (upd H5 g2 (.lst (cutV (as.map V.ref) (some 2) none))) g2 R := pc
          have hcl : (cutV (as.map V.ref) (some 2) none).length ≤ 256 := Nat.le_trans (cutV_length _ _ _) (by rw [List.length_map]; exact hal)
          generalize cutV (as.map V.ref) (some 2) none = zs at pc eg2 t1 hcl ⊢
          generalize upd H5 g2 (.lst zs) = H6 at pc eg2 t1 ⊢
          have hx6 := t1 _ _ hx2
          have hy6 := t1 _ _ hy2
          refine ⟨_, rfl, tx, _, 0, .int x.1, rfl, rfl, SqT.of hx6, atI_nat (j := 0) rfl, _, rfl, ty, _, 0, .int y.1, rfl, rfl, SqT.of hy6, atI_nat (j := 0) rfl, _, _, rfl, rfl, ?_⟩
          refine ⟨_, rfl, tx, _, 1, .int x.2, rfl, rfl, SqT.of hx6, atI_nat (j := 1) rfl, _, rfl, ty, _, 1, .int y.2, rfl, rfl, SqT.of hy6, atI_nat (j := 1) rfl, _, _, rfl, _, _, rfl, rfl, ?_⟩
          refine ⟨by show 2 ≤ sizeLine; decide, fun t7 nt7 => ?_⟩
          have emax : (if y.2 > x.2 then y.2 else x.2) = max x.2 y.2 := by split <;> omega
          have et7 : upd H6 t7 (.tup [.int (x.1 + y.1), .int (1 + (if y.2 > x.2 then y.2 else x.2))]) t7 = some (.tup [.int (x.1 + y.1), .int (1 + max x.2 y.2)]) := by rw [upd_same, emax]
          have t2 : Same H6 (upd H6 t7 (.tup [.int (x.1 + y.1), .int (1 + (if y.2 > x.2 then y.2 else x.2))])) := same_upd nt7
          generalize upd H6 t7 (.tup [.int (x.1 + y.1), .int (1 + (if y.2 > x.2 then y.2 else x.2))]) = H7 at et7 t2 ⊢
          refine ⟨by show 1 ≤ sizeLine; decide, fun l8 nl8 => ?_⟩
          have p8 : PairsAt (upd H7 l8 (.lst [.ref t7])) l8 [(x.1 + y.1, 1 + max x.2 y.2)] := pairs_one et7 nl8
          have t3 : Same H7 (upd H7 l8 (.lst [.ref t7])) := same_upd nl8
          have e8 : upd H7 l8 (.lst [.ref t7]) l8 = some (.lst [.ref t7]) := upd_same
          generalize upd H7 l8 (.lst [.ref t7]) = H8 at p8 t3 e8 ⊢
          have t4 := t2.trans t3
          refine ⟨g2, l8, _, _, rfl, rfl, t4 _ _ eg2, e8, Nat.le_trans (show zs.length + 1 ≤ 1000 by omega) (by decide), fun p9 np9 => ?_⟩
          have p10 := pairs_app (pc.same t4) p8 (t4 _ _ eg2) e8 np9
          refine ⟨p9, _, rfl, p10, fun l' H9 lf' hp' hs' t5 _ hlf' => ?_⟩
          refine ⟨lf', F0 + x.1 + y.1, l', _, _, _, _, rfl, sm5.trans ((t1.trans (t4.trans (same_upd np9))).trans t5), hlf', hs', ?_, fun F' g J => ?_⟩
          · have h1 := hp'.length_eq
            rw [List.length_append, List.length_singleton] at h1
            simp only [List.length_cons] at hll
            omega
          · obtain ⟨hs1, hs2⟩ := List.pairwise_cons.mp hsl
            obtain ⟨hs3, _⟩ := List.pairwise_cons.mp hs2
            have j := hJ _ _ (K23M.Joins.join (a := x) (b := y) (R := R) (P := l') (F := F') (g := g) (fun p hp => ?_) ?_ hp' J)
            · rw [show F0 + x.1 + y.1 + F' = F0 + (x.1 + y.1 + F') by omega]
              exact j
            · have h1 := hs1 p (List.mem_cons_of_mem _ hp)
              have h2 := hs3 p hp
              unfold K23M.leP at h1 h2
              omega
            · have h1 := hs1 y List.mem_cons_self
              unfold K23M.leP at h1
              omega
        · rintro σ H5 ⟨lf, F0, l, y3, y4, y5, y6, rfl, sm5, hlf, hsl, hll, hJ⟩
          rw [wK_len, Int.toNat_natCast] at hll
          obtain ⟨x, rfl⟩ : ∃ x, l = [x] := by
            match l, hll with
            | [], z => simp at z
            | [x], _ => exact ⟨x, rfl⟩
            | _ :: _ :: _, z => simp at z
          obtain ⟨as, tx, e5, hx1, hx2⟩ := pairs_at hlf (i := 0) (p := x) rfl
          refine ⟨_, rfl, _, rfl, lf, _, 0, .ref tx, rfl, rfl, SqL.of e5, atI_nat (j := 0) (by rw [List.getElem?_map, hx1]; rfl), tx, _, 1, .int x.2, rfl, rfl, SqT.of hx2, atI_nat (j := 1) rfl, by show 2 ≤ sizeLine; decide, fun t nt => ?_⟩
          have j := hJ 0 x.2 (K23M.Joins.one x.1 x.2)
          rw [Int.add_zero] at j
          exact q _ t F0 x.2 P0 (sm5.trans (same_upd nt)) (sm5.free nt) upd_same j hperm hzero
end
end K23
set_option Elab.async false
set_option linter.all false
set_option maxRecDepth 100000
set_option maxHeartbeats 4000000
namespace K23
open PySem PySem.Spec PyProof.Rows L2
section
variable {P : Program} {w : World} {K : PySem.W.Frag} {mg : Str → Option Value} {base : Heap} {T : List (Addr × Str)}
/-! ### _law_bits_by -/
abbrev sLby : Stmt := topS 46
abbrev nLby : List Str := ["_law_weights_so", "_law_limit", "_law_coins", "_law_row", "_law_turn", "_law_pairs", "_law_symbol", "_law_k"]
theorem scLby : FnScope nLby ["_law_weights_so", "_law_limit"] (defScope sLby) := ⟨rfl, rfl, rfl, by decide +kernel, rfl, by decide +kernel, by decide +kernel⟩
def spLby : Sp := fun vs H Q _ => ∃ (a : Addr) (ws : List (Int × Int)) (L : Nat), vs = [.ref a, .int L] ∧ H a = some (.dK (wK ws)) ∧ WOk ws ∧ (1 ≤ L ∧ L ≤ 16) ∧ ∀ H', Same H H' → Q (.int (few ws L)) H'
theorem ok_lby {f : Addr} {fd : FuncData} (F : Fun K "_law_bits_by" "_law_bits_by" sLby f fd) (X : Txt mg) : FnOk P w K mg base CX0 1 f fd ["_law_weights_so", "_law_limit"] spLby := by
  refine F.ok scLby (fun vs H Q E h => ?_) (fun cdv A outer s0 H vs Q E hr h => ?_)
  · obtain ⟨a, ws, L, rfl, _⟩ := h
    rfl
  · obtain ⟨a, ws, L, rfl, ha, ok, hL, q⟩ := h
    have hu := hu_of hr
    have hlen := ok.len
    have hcl := cC_len ws
    refine ⟨_, pss_cons (ps_set (i := 2) scLby.nd rfl (Or.inl rfl) (pe_callB cr_sortedI (by rfl) X.sorted bt_sorted (pa_cons (pe_op op_cat (pe_lock (pe_lc (own := [("_law_symbol", 6)]) (g := gName 6) (tt := tYes) rfl scLby.nd (pi_keys (pv 0))
          (blkOk_by (N := nLby) (sc := defScope sLby) (by decide +kernel)) (fun _ _ _ _ _ => pg_name (i := 6) scLby.nd rfl (Or.inl rfl)) (fun _ _ _ _ _ => pts_nil)
          (fun _ _ _ _ _ => pe_dget hu (pv 0) (pv 6) (fun _ _ => rfl)))) (pe_lst (pa_cons pe_int pa_nil))) pa_nil)))
      (pss_cons (ps_set (i := 3) scLby.nd rfl (Or.inr rfl) (pe_lst pa_nil))
      (pss_cons (ps_for PassesOwn.never rfl (pi_range1 (by rfl) X.range (pa_cons (pv 1) pa_nil)) (pg_name (i := 4) scLby.nd rfl (.inl rfl))
        (pss_cons (ps_setLc (i := 5) (own := [("_law_k", 7)]) (g := gName 7) (tt := tYes) rfl scLby.nd rfl rfl (sw_true rfl rfl rfl (by decide +kernel)) (pi_range1 (by rfl) X.range (pa_cons (pe_op op_fdiv (pe_callB call_len_seq (by rfl) X.len bt_len (pa_cons (pv 3) pa_nil)) pe_int) pa_nil))
          (blkOk_by (N := nLby) (sc := defScope sLby) (by decide +kernel)) (fun _ _ _ _ _ => pg_name (i := 7) scLby.nd rfl (Or.inl rfl)) (fun _ _ _ _ _ => pts_nil)
          (fun _ _ _ _ _ => pe_op op_add (pe_ix (r := rIxL K) ix_list (pv 3) (pe_op op_mul pe_int (pv 7)) (fun _ _ => rfl)) (pe_ix (r := rIxL K) ix_list (pv 3) (pe_op op_add (pe_op op_mul pe_int (pv 7)) pe_int) (fun _ _ => rfl))))
        (pss_one (ps_set (i := 3) scLby.nd rfl (Or.inr rfl) (pe_callB cr_sortedI (by rfl) X.sorted bt_sorted (pa_cons (pe_op op_cat (pv 2) (pv 5)) pa_nil))))))
      (pss_one (ps_ret (pe_callB (cr_sum rfl) (by rfl) X.sum bt_sum (pa_cons (pe_slice sl_list (pv 3) po_none (po_some (pe_op op_mul pe_int (pe_callB call_lenD (by rfl) X.len bt_len (pa_cons (pv 0) pa_nil))))) pa_nil)))))), ?_⟩
    refine ⟨a, _, ha, trivial, fun od => ?_⟩
    refine ⟨_, rfl, a, od, rfl, .inl ⟨wK ws, upd_same, fun D nD => lc_map (ys := (ws.map (·.2)).map V.int) (plain_keys upd_same) nD ?_ ?_ ?_ ?_⟩⟩
    · rw [List.length_map, List.length_map, List.length_map, wK_len]
    · rw [List.length_map, wK_len]; exact Nat.le_trans hlen (by decide)
    · intro i x y H1 Q' ex ey sm q'
      obtain ⟨p, hp, rfl⟩ := wK_at ex
      rw [List.getElem?_map, List.getElem?_map, hp] at ey
      have ey' : V.int p.2 = y := Option.some.inj ey
      subst ey'
      refine ⟨rfl, _, rfl, _, rfl, a, V.int p.2, rfl, .inl ⟨wK ws, Sum.inl p.1, .inr ⟨od, sm _ _ upd_same⟩, rfl, (valV_nd ok.nd p (List.mem_of_getElem? hp)).symm⟩, q' _ (Same.refl _)⟩
    · intro H1 sm eD
      have hl1 : H1 a = some (.frz od (.dK (wK ws))) := same_locked sm
      have s1 : Same H (upd H1 a (.dK (wK ws))) := same_unlock sm ha
      have nDa : D ≠ a := fun z => by rw [z, upd_same] at nD; cases nD
      have eD1 : upd H1 a (.dK (wK ws)) D = some (.lst ((ws.map (·.2)).map V.int)) := by rw [upd_ne nDa]; exact eD
      refine ⟨hl1, ?_⟩
      generalize upd H1 a (.dK (wK ws)) = H2 at s1 eD1 ⊢
      refine ⟨by show 1 ≤ sizeLine; decide, fun l0 nl0 => ?_⟩
      have s2 : Same H2 (upd H2 l0 (.lst [.int 0])) := same_upd nl0
      refine ⟨D, l0, _, _, rfl, rfl, s2 _ _ eD1, upd_same, ?_, fun p np => ?_⟩
      · rw [List.length_map, List.length_map]
        exact Nat.le_trans (show ws.length + 1 ≤ 1000 by omega) (by decide)
      have s3 : Same (upd H2 l0 (.lst [.int 0])) (upd (upd H2 l0 (.lst [.int 0])) p (.lst ((ws.map (·.2)).map V.int ++ [.int 0]))) := same_upd np
      refine ⟨p, ws.map (·.2) ++ [0], rfl, SqL.of (by rw [upd_same, List.map_append]; rfl), fun ns' c hp hs nc => ?_⟩
      have eC : ns' = cC ws := (K23M.isort_eq hp hs).trans (K23M.isort_congr List.perm_append_comm)
      subst eC
      have s4 : Same H (upd (upd (upd H2 l0 (.lst [.int 0])) p (.lst ((ws.map (·.2)).map V.int ++ [.int 0]))) c (.lst ((cC ws).map V.int))) := ((s1.trans s2).trans s3).trans (same_upd nc)
      have ec : (upd (upd (upd H2 l0 (.lst [.int 0])) p (.lst ((ws.map (·.2)).map V.int ++ [.int 0]))) c (.lst ((cC ws).map V.int))) c = some (.lst ((cC ws).map V.int)) := upd_same
      generalize (upd (upd (upd H2 l0 (.lst [.int 0])) p (.lst ((ws.map (·.2)).map V.int ++ [.int 0]))) c (.lst ((cC ws).map V.int))) = H4 at s4 ec ⊢
      refine ⟨Nat.zero_le _, fun r0 nr0 => ?_⟩
      refine ⟨_, rfl, (L : Int), rfl, by omega, by omega, ?_⟩
      refine for_range (n := (L : Int).toNat) (fun i σ H' => ∃ (r : Addr) (y4 y5 y6 y7 : Option V), σ = [some (.ref a), some (.int L), some (.ref c), some (.ref r), y4, y5, y6, y7] ∧ Same H4 H' ∧ H' r = some (.lst ((K23M.row (cC ws) i).map V.int)))
        ⟨r0, none, none, none, none, rfl, same_upd nr0, upd_same⟩ ?_ ?_
      · rintro i σ H5 hi ⟨r, y4, y5, y6, y7, rfl, sm5, er⟩
        have hshort := row_short hcl i
        have hpl := K23M.pairs_length (K23M.row (cC ws) i)
        refine ⟨_, rfl, r, _, rfl, .inl (SqL.of er), _, _, rfl, rfl, ⟨by decide, by decide⟩, _, rfl, ?_, ?_, fun D2 nD2 => lc_map (ys := (K23M.pairs (K23M.row (cC ws) i)).map V.int) plain_range nD2 ?_ ?_ ?_ ?_⟩
        · rw [List.length_map]; omega
        · rw [List.length_map]; omega
        · simp only [List.length_map, List.length_range]; omega
        · simp only [List.length_map, List.length_range]; exact Nat.le_trans (show _ ≤ 1000 by omega) (by decide)
        · intro j x y H6 Q' ex ey sm q'
          have hj : j < (K23M.row (cC ws) i).length / 2 := by
            have := (List.getElem?_eq_some_iff.mp ey).1
            rw [List.length_map] at this
            omega
          rw [List.getElem?_map, List.getElem?_range (by rw [List.length_map]; omega)] at ex
          have ex' : V.int (0 + (j : Int)) = x := Option.some.inj ex
          subst ex'
          have g1 : (K23M.row (cC ws) i)[2 * j]? = some (K23M.row (cC ws) i)[2 * j] := List.getElem?_eq_getElem (by omega)
          have g2 : (K23M.row (cC ws) i)[2 * j + 1]? = some (K23M.row (cC ws) i)[2 * j + 1] := List.getElem?_eq_getElem (by omega)
          rw [List.getElem?_map, K23M.pairs_get _ j g1 g2] at ey
          have ey' := Option.some.inj ey
          subst ey'
          have e1 : 2 * (0 + (j : Int)) = ((2 * j : Nat) : Int) := by omega
          have e2 : 2 * (0 + (j : Int)) + 1 = ((2 * j + 1 : Nat) : Int) := by omega
          refine ⟨rfl, _, rfl, _, rfl, _, _, rfl, rfl, .inl ⟨by decide, by decide⟩, r, _, _, V.int (K23M.row (cC ws) i)[2 * j], rfl, rfl, SqL.of (sm _ _ er), ?_, ?_⟩
          · rw [e1]; exact atI_nat (by rw [List.getElem?_map, g1]; rfl)
          · refine ⟨_, rfl, _, rfl, _, _, rfl, rfl, .inl ⟨by decide, by decide⟩, _, _, rfl, rfl, r, _, _, V.int (K23M.row (cC ws) i)[2 * j + 1], rfl, rfl, SqL.of (sm _ _ er), ?_, ?_⟩
            · rw [e2]; exact atI_nat (by rw [List.getElem?_map, g2]; rfl)
            · exact ⟨_, _, rfl, rfl, q' _ (Same.refl _)⟩
        · intro H6 s6 e6
          refine ⟨_, rfl, _, rfl, c, D2, _, _, rfl, rfl, s6 _ _ (sm5 _ _ ec), e6, ?_, fun p7 np7 => ?_⟩
          · rw [List.length_map, List.length_map]
            exact Nat.le_trans (show (cC ws).length + (K23M.pairs (K23M.row (cC ws) i)).length ≤ 1000 by omega) (by decide)
          · refine ⟨p7, cC ws ++ K23M.pairs (K23M.row (cC ws) i), rfl, SqL.of (by rw [upd_same, List.map_append]), fun ns' r' hp hs nr' => ?_⟩
            have e := K23M.isort_eq hp hs
            refine ⟨r', _, _, _, _, rfl, ((sm5.trans s6).trans (same_upd np7)).trans (same_upd nr'), ?_⟩
            rw [upd_same, e]
            rfl
      · rintro σ H5 ⟨r, y4, y5, y6, y7, rfl, sm5, er⟩
        rw [Int.toNat_natCast] at er
        refine ⟨_, rfl, _, rfl, a, wK ws, rfl, sm5 _ _ (s4 _ _ ha), 2, _, rfl, rfl, .inl ⟨by decide, by decide⟩, _, rfl, r, _, rfl, SqL.of er, fun p2 np2 => ?_⟩
        have e2 : (2 : Int) * ((wK ws).length : Int) = ((2 * ws.length : Nat) : Int) := by rw [wK_len]; omega
        refine ⟨p2, (K23M.row (cC ws) L).take (2 * ws.length), rfl, SqL.of ?_, q _ ((s4.trans sm5).trans (same_upd np2))⟩
        rw [upd_same, e2, cut_to, List.map_take]
end
end K23
set_option Elab.async false
set_option linter.all false
set_option maxRecDepth 100000
set_option maxHeartbeats 4000000
namespace K23
open PySem PySem.Spec PyProof.Rows L2
/-! ### deep data -/
def dI (ns : List Int) : PyData := .list (ns.map PyData.int)
def dTi (ns : List Int) : PyData := .tuple (ns.map PyData.int)
def dP (l : List (Int × Int)) : PyData := .list (l.map fun p => PyData.tuple [.int p.1, .int p.2])
theorem dp_ints {K : PySem.W.Frag} {H : Hp} : ∀ ns : List Int, DpAll K H (ns.map V.int) (ns.map PyData.int)
  | [] => .nil
  | n :: ns => .cons (.int n) (dp_ints ns)
theorem dp_pairs {K : PySem.W.Frag} {H : Hp} {D : Addr} {l : List (Int × Int)} (h : PairsAt H D l) : Dp K H (.ref D) (dP l) := by
  obtain ⟨as, e, hl, hp⟩ := h
  refine .lst (SqL.of e) ?_
  have key : ∀ (as : List Addr) (l : List (Int × Int)), as.length = l.length → (∀ (i : Nat) (a : Addr) (p : Int × Int), as[i]? = some a → l[i]? = some p → H a = some (.tup [.int p.1, .int p.2])) → DpAll K H (as.map V.ref) (l.map fun p => PyData.tuple [.int p.1, .int p.2]) := by
    intro as
    induction as with
    | nil =>
      intro l hl _
      cases l with
      | nil => exact .nil
      | cons p l => simp at hl
    | cons a as ih =>
      intro l hl hp
      cases l with
      | nil => simp at hl
      | cons p l =>
        refine .cons (.tup (SqT.of (hp 0 a p rfl rfl)) (.cons (.int _) (.cons (.int _) .nil))) (ih l (by simpa using hl) fun i a q h1 h2 => hp (i + 1) a q (by simpa using h1) (by simpa using h2))
  exact key as l hl hp
theorem lay_ints : ∀ ns : List Int, PyData.canLayAll0 (ns.map PyData.int) = true
  | [] => by simp [PyData.canLayAll0]
  | n :: ns => by simp [PyData.canLayAll0, PyData.canLay0, lay_ints ns]
theorem lay_pairs : ∀ l : List (Int × Int), PyData.canLayAll0 (l.map fun p => PyData.tuple [.int p.1, .int p.2]) = true
  | [] => by simp [PyData.canLayAll0]
  | p :: l => by simp [PyData.canLayAll0, PyData.canLay0, lay_pairs l]
theorem dep_ints : ∀ ns : List Int, PyData.depthAll (ns.map PyData.int) ≤ 1
  | [] => by simp [PyData.depthAll]
  | n :: ns => by
    have := dep_ints ns
    simp only [List.map_cons, PyData.depthAll, PyData.depth]
    omega
theorem dep_pairs : ∀ l : List (Int × Int), PyData.depthAll (l.map fun p => PyData.tuple [.int p.1, .int p.2]) ≤ 1
  | [] => by simp [PyData.depthAll]
  | p :: l => by
    have := dep_pairs l
    simp only [List.map_cons, PyData.depthAll, PyData.depth]
    omega
theorem sh_ints (ns : List Int) : SeqAt.shaped (dI ns) = true := by
  have := dep_ints ns
  unfold SeqAt.shaped dI
  rw [Bool.and_eq_true]
  exact ⟨by simp only [PyData.canLay0]; exact lay_ints _, decide_eq_true (by simp only [PyData.depth]; omega)⟩
theorem sh_tis (ns : List Int) : SeqAt.shaped (dTi ns) = true := by
  have := dep_ints ns
  unfold SeqAt.shaped dTi
  rw [Bool.and_eq_true]
  exact ⟨by simp only [PyData.canLay0]; exact lay_ints _, decide_eq_true (by simp only [PyData.depth]; omega)⟩
theorem sh_pairs (l : List (Int × Int)) : SeqAt.shaped (dP l) = true := by
  have := dep_pairs l
  unfold SeqAt.shaped dP
  rw [Bool.and_eq_true]
  exact ⟨by simp only [PyData.canLay0]; exact lay_pairs _, decide_eq_true (by simp only [PyData.depth]; omega)⟩
theorem eqv_ints (ns : List Int) : PyData.eqv (dI ns) (dI ns) = true := SeqAt.eqv_refl _ (by unfold dI; simp only [PyData.canLay0, lay_ints])
theorem eqv_pairs (l : List (Int × Int)) : PyData.eqv (dP l) (dP l) = true := SeqAt.eqv_refl _ (by unfold dP; simp only [PyData.canLay0, lay_pairs])
/-! ### the limits -/
theorem lims_form : ∀ n < 256, ∃ m, m < 17 ∧ 1 ≤ m ∧ limsL n = (List.range (17 - m)).map fun i => m + i := by decide +kernel
theorem lims_get {n m : Nat} (h : limsL n = (List.range (17 - m)).map fun i => m + i) {i : Nat} (hi : i < 17 - m) : (limsL n)[i]? = some (m + i) := by
  rw [h, List.getElem?_map, List.getElem?_range hi]
  rfl
theorem due_get {ws : List (Int × Int)} {m : Nat} (h : limsL ws.length = (List.range (17 - m)).map fun i => m + i) {i : Nat} (hi : i < 17 - m) : (dueL ws)[i]? = some (((m + i : Nat) : Int), few ws (m + i)) := by
  unfold dueL
  rw [List.getElem?_map, lims_get h hi]
  rfl
theorem due_len {ws : List (Int × Int)} {m : Nat} (h : limsL ws.length = (List.range (17 - m)).map fun i => m + i) : (dueL ws).length = 17 - m := by
  unfold dueL
  rw [List.length_map, h, List.length_map, List.length_range]
/-! ### what joining finds -/
theorem few_joins {ws : List (Int × Int)} (ok : WOk ws) {l : Nat} (hl : l ∈ limsL ws.length) {P0 : List (Int × Int)} {F g : Int} (J : K23M.Joins P0 F g) (hp : (P0.map (·.1)).Perm (cC ws)) (hz : ∀ p ∈ P0, p.2 = 0) (hg : g ≤ (l : Int)) : F = few ws l := by
  obtain ⟨h1, h2⟩ := lims_mem hl
  obtain ⟨ts, ht⟩ := K23M.takes_exists (cC_sorted ws) l (2 * ws.length) (K23M.row_top (cC_len ws) h2 (by omega))
  exact K23M.joins_fewest (cC_sorted ws) (cC_len ws) (cC_nonneg ok) h2 (by omega) ht J hp hz hg
/-! ### a symbol less, a greater weight -/
def lessW (ws : List (Int × Int)) (k : Int) : List (Int × Int) := ws.filter fun p => decide (p.1 ≠ k)
def moreW (ws : List (Int × Int)) (k v : Int) : List (Int × Int) := ws.map fun p => if p.1 = k then (p.1, v) else p
theorem drop_wK (ws : List (Int × Int)) (k : Int) : dropK (wK ws) (Sum.inl k) = wK (lessW ws k) := by
  unfold dropK wK lessW
  rw [List.filter_map]
  refine congrArg _ (List.filter_congr fun p _ => ?_)
  show decide ((Sum.inl p.1 : Key) ≠ Sum.inl k) = decide (p.1 ≠ k)
  refine decide_eq_decide.mpr ⟨fun h z => h (by rw [z]), fun h z => h (Sum.inl.inj z)⟩
theorem put_wK {ws : List (Int × Int)} {k v : Int} (h : k ∈ ws.map (·.1)) : putK (wK ws) (Sum.inl k) (V.int v) = wK (moreW ws k v) := by
  unfold putK
  rw [if_pos]
  · unfold wK moreW
    rw [List.map_map, List.map_map]
    refine List.map_congr_left fun p _ => ?_
    show (if (Sum.inl p.1 : Key) = Sum.inl k then ((Sum.inl p.1 : Key), V.int v) else (Sum.inl p.1, V.int p.2)) = _
    by_cases e : p.1 = k
    · rw [if_pos (by rw [e])]
      show _ = (Sum.inl (if p.1 = k then (p.1, v) else p).1, V.int (if p.1 = k then (p.1, v) else p).2)
      rw [if_pos e]
    · rw [if_neg fun z => e (Sum.inl.inj z)]
      show _ = (Sum.inl (if p.1 = k then (p.1, v) else p).1, V.int (if p.1 = k then (p.1, v) else p).2)
      rw [if_neg e]
  · obtain ⟨p, hp, rfl⟩ := List.mem_map.mp h
    exact List.any_eq_true.mpr ⟨(Sum.inl p.1, V.int p.2), List.mem_map.mpr ⟨p, hp, rfl⟩, decide_eq_true rfl⟩
theorem split_at {ws : List (Int × Int)} (hn : (ws.map (·.1)).Nodup) {k : Int} (h : k ∈ ws.map (·.1)) : ∃ A B v, ws = A ++ (k, v) :: B ∧ (∀ p ∈ A, p.1 ≠ k) ∧ ∀ p ∈ B, p.1 ≠ k := by
  obtain ⟨p, hp, rfl⟩ := List.mem_map.mp h
  obtain ⟨A, B, rfl⟩ := List.append_of_mem hp
  refine ⟨A, B, p.2, rfl, fun q hq z => ?_, fun q hq z => ?_⟩
  · rw [List.map_append, List.map_cons] at hn
    exact (List.nodup_append.mp hn).2.2 q.1 (List.mem_map_of_mem hq) p.1 List.mem_cons_self z
  · rw [List.map_append, List.map_cons] at hn
    have h1 := (List.nodup_append.mp hn).2.1
    exact (List.nodup_cons.mp h1).1 (by rw [← z]; exact List.mem_map_of_mem hq)
theorem less_eq {A B : List (Int × Int)} {k v : Int} (hA : ∀ p ∈ A, p.1 ≠ k) (hB : ∀ p ∈ B, p.1 ≠ k) : lessW (A ++ (k, v) :: B) k = A ++ B := by
  unfold lessW
  rw [List.filter_append, List.filter_cons_of_neg (by simp), List.filter_eq_self.mpr fun p hp => by simpa using hA p hp, List.filter_eq_self.mpr fun p hp => by simpa using hB p hp]
theorem more_eq {A B : List (Int × Int)} {k v v' : Int} (hA : ∀ p ∈ A, p.1 ≠ k) (hB : ∀ p ∈ B, p.1 ≠ k) : moreW (A ++ (k, v) :: B) k v' = A ++ (k, v') :: B := by
  unfold moreW
  have id : ∀ {C : List (Int × Int)}, (∀ p ∈ C, p.1 ≠ k) → C.map (fun p => if p.1 = k then (p.1, v') else p) = C := fun {C} hC => by
    have e : C.map (fun p => if p.1 = k then (p.1, v') else p) = C.map _root_.id := List.map_congr_left fun p hp => by rw [if_neg (hC p hp)]; rfl
    rw [e, List.map_id]
  rw [List.map_append, List.map_cons, id hA, id hB, if_pos rfl]
theorem less_ok {ws : List (Int × Int)} (ok : WOk ws) (k : Int) : WOk (lessW ws k) := by
  have sub : (lessW ws k).Sublist ws := List.filter_sublist
  exact ⟨ok.nd.sublist (sub.map _), fun p hp => ok.key p (sub.subset hp), fun p hp => ok.wt p (sub.subset hp), Nat.le_trans sub.length_le ok.len⟩
theorem more_keys (ws : List (Int × Int)) (k v : Int) : (moreW ws k v).map (·.1) = ws.map (·.1) := by
  unfold moreW
  rw [List.map_map]
  refine List.map_congr_left fun p _ => ?_
  show (if p.1 = k then (p.1, v) else p).1 = p.1
  split <;> rfl
theorem more_ok {ws : List (Int × Int)} (ok : WOk ws) {k v : Int} (hv : 1 ≤ v ∧ v ≤ 1000000000000000000) : WOk (moreW ws k v) := by
  refine ⟨by rw [more_keys]; exact ok.nd, fun p hp => ?_, fun p hp => ?_, by unfold moreW; rw [List.length_map]; exact ok.len⟩
  · have : p.1 ∈ (moreW ws k v).map (·.1) := List.mem_map_of_mem hp
    rw [more_keys] at this
    obtain ⟨q, hq, e⟩ := List.mem_map.mp this
    rw [← e]
    exact ok.key q hq
  · unfold moreW at hp
    obtain ⟨q, hq, rfl⟩ := List.mem_map.mp hp
    split
    · exact hv
    · exact ok.wt q hq
theorem few_less {ws : List (Int × Int)} (ok : WOk ws) {k : Int} (h : k ∈ ws.map (·.1)) : few (lessW ws k) 16 ≤ few ws 16 := by
  have hlen := ok.len
  have hn := cC_nonneg ok
  have hs := cC_sorted ws
  have hl := cC_len ws
  obtain ⟨A, B, v, rfl, hA, hB⟩ := split_at ok.nd h
  have hl2 : (A ++ (k, v) :: B).length = (A ++ B).length + 1 := by simp; omega
  have hlE := cC_len (A ++ B)
  unfold few
  rw [less_eq hA hB, hl2]
  have p1 : (cC (A ++ (k, v) :: B)).Perm (v :: cC (A ++ B)) := by
    unfold cC
    refine (K23M.isort_perm _).trans ?_
    refine List.Perm.trans ?_ ((K23M.isort_perm _).symm.cons v)
    rw [List.map_append, List.map_cons, List.map_append]
    refine (List.perm_middle.cons 0).trans ?_
    exact List.Perm.swap v 0 _
  rw [hl2] at hl hlen
  exact K23M.fewest_drop hs hl (by show _ < 2 ^ 16; omega) (by decide) p1 hn _ (List.Perm.refl _)
theorem few_more {ws : List (Int × Int)} (ok : WOk ws) {k v : Int} (h : k ∈ ws.map (·.1)) (hv : wtO ws k ≤ v) (hv2 : v ≤ 1000000000000000000) : few ws 16 ≤ few (moreW ws k v) 16 := by
  have hlen := ok.len
  obtain ⟨A, B, v0, rfl, hA, hB⟩ := split_at ok.nd h
  have hm : (k, v0) ∈ A ++ (k, v0) :: B := by simp
  have ev : wtO (A ++ (k, v0) :: B) k = v0 := wtO_mem ok.nd hm
  have h1 := (ok.wt _ hm).1
  rw [ev] at hv
  have h1 : 1 ≤ v0 := h1
  have okm : WOk (moreW (A ++ (k, v0) :: B) k v) := more_ok ok ⟨by omega, hv2⟩
  rw [more_eq hA hB] at okm ⊢
  have hn := cC_nonneg okm
  have hs := cC_sorted (A ++ (k, v) :: B)
  have hl := cC_len (A ++ (k, v) :: B)
  have hl2 : (A ++ (k, v) :: B).length = (A ++ (k, v0) :: B).length := by simp
  have perm : ∀ u : Int, (cC (A ++ (k, u) :: B)).Perm (u :: cC (A ++ B)) := fun u => by
    unfold cC
    refine (K23M.isort_perm _).trans ?_
    refine List.Perm.trans ?_ ((K23M.isort_perm _).symm.cons u)
    rw [List.map_append, List.map_cons, List.map_append]
    refine (List.perm_middle.cons 0).trans ?_
    exact List.Perm.swap u 0 _
  unfold few
  rw [hl2]
  rw [hl2] at hl
  exact K23M.fewest_raise hs hl (by show _ < 2 ^ 16; omega) (by decide) (perm v) hn (by omega) hv _ (perm v0)
/-! ### the lengths of codes -/
theorem lz_mem {cs ss : List Int} (ok : TabOk cs ss) {k : Int} (h : k ∈ ss) : (k, (lamT cs ss k : Int)) ∈ lz cs ss := by
  obtain ⟨j, hj⟩ := List.mem_iff_getElem?.mp h
  have hjl := (List.getElem?_eq_some_iff.mp hj).1
  have he : (expL 1 cs)[j]? = some ((expL 1 cs)[j]'(by have := (lz_len ok).2; omega)) := List.getElem?_eq_getElem _
  have := lz_at hj he
  rw [lamT_at ok.sym.nd hj he]
  exact List.mem_of_getElem? this
theorem lz_val {cs ss : List Int} (ok : TabOk cs ss) {k : Int} (h : k ∈ ss) : valV (wK (lz cs ss)) (Sum.inl k) = some (V.int (lamT cs ss k : Int)) :=
  valV_nd (by rw [lz_keys ok]; exact ok.sym.nd) (k, (lamT cs ss k : Int)) (lz_mem ok h)
/-- greater weights first: their lengths do not fall -/
theorem mono_lens {ws : List (Int × Int)} {L : Nat} {ts : List Nat} (ok : WOk ws) (hL : L ≤ 16) (h : Lens ws L ts) {l' : List (Int × Int)} (hp : l'.Perm (ws.map fun p => (0 - p.2, (lamT (cnts ws.length ts) (syms ws) p.1 : Int)))) (hs : SortedP l') : K23M.Sorted (l'.map (·.2)) := by
  refine List.pairwise_map.mpr (List.Pairwise.imp_of_mem (fun {x y} hx hy hxy => ?_) hs)
  obtain ⟨p, hp1, rfl⟩ := List.mem_map.mp (hp.mem_iff.mp hx)
  obtain ⟨q, hq1, rfl⟩ := List.mem_map.mp (hp.mem_iff.mp hy)
  rcases hxy with z | z
  · have := lt_mono ok hL h hp1 hq1 (show q.2 < p.2 by have z : 0 - p.2 < 0 - q.2 := z; omega)
    show ((lamT (cnts ws.length ts) (syms ws) p.1 : Nat) : Int) ≤ ((lamT (cnts ws.length ts) (syms ws) q.1 : Nat) : Int)
    omega
  · exact z.2
/-! ### what stands while the law runs -/
structure Exs (s : Addr) (H H' : Hp) : Prop where
  ext : ∀ b o, b ≠ s → H b = some o → (∀ ps, o ≠ .tbl ps) → H' b = some o
theorem Exs.refl {s : Addr} (H : Hp) : Exs s H H := ⟨fun _ _ _ h _ => h⟩
theorem Exs.trans {s : Addr} {H H1 H2 : Hp} (a : Exs s H H1) (b : Exs s H1 H2) : Exs s H H2 := ⟨fun x o n h t => b.ext x o n (a.ext x o n h t) t⟩
theorem Exs.same {s : Addr} {H H' : Hp} (h : Same H H') : Exs s H H' := ⟨fun b o _ e _ => h b o e⟩
theorem Exs.kp {s : Addr} {H H' : Hp} (h : Kp s H H') : Exs s H H' := ⟨fun b o n e _ => h b o n e⟩
theorem Exs.ex {T : List (Addr × Str)} {s : Addr} {H H' : Hp} (h : Ex T H H') : Exs s H H' := ⟨fun b o _ e t => h.ext b o e t⟩
theorem Exs.over {s : Addr} {H H2 : Hp} {m : Addr} {o' : HO} (e : Exs s H H2) (n : New H m) : Exs s H (upd H2 m o') := ⟨fun b o bs hb t => by
  rw [upd_ne (n b o hb t)]
  exact e.ext b o bs hb t⟩
theorem New.exs {s : Addr} {H H1 : Hp} {d : Addr} (e : Exs s H H1) (hs : SrcAt H1 s) (n : H1 d = none) : New H d := fun b o hb t z => by
  by_cases bs : b = s
  · obtain ⟨x, y, u, h⟩ := hs
    rw [← bs, z, n] at h
    cases h
  · have := e.ext b o bs hb t
    rw [z, n] at this
    cases this
theorem tabs_kp {T : List (Addr × Str)} {s : Addr} {H H' : Hp} (h : LamX.Tabs T H) (hs : SrcAt H s) (k : Kp s H H') : LamX.Tabs T H' := fun p hp => by
  obtain ⟨x, y, u, e⟩ := hs
  obtain ⟨ps, e1, e2, e3⟩ := h p hp
  refine ⟨ps, k _ _ (ne_of e1 e (by intro z; cases z)) e1, e2, fun pos cv hc => ?_⟩
  obtain ⟨c, e4, e5⟩ := e3 pos cv hc
  exact ⟨c, e4, k _ _ (ne_of e5 e (by intro z; cases z)) e5⟩
theorem tabs_over {T : List (Addr × Str)} {H : Hp} {m : Addr} {o o' : HO} (h : LamX.Tabs T H) (e : H m = some o) (ne : ∀ ps, o ≠ .tbl ps) (nc : ∀ c q, o ≠ LamX.CodeO c q) : LamX.Tabs T (upd H m o') := fun p hp => by
  obtain ⟨ps, e1, e2, e3⟩ := h p hp
  refine ⟨ps, by rw [upd_ne (ne_of e1 e (Ne.symm (ne ps)))]; exact e1, e2, fun pos cv hc => ?_⟩
  obtain ⟨c, e4, e5⟩ := e3 pos cv hc
  exact ⟨c, e4, by rw [upd_ne (ne_of e5 e (Ne.symm (nc _ _)))]; exact e5⟩
/-- what the law's walk keeps -/
structure Rt (T : List (Addr × Str)) (s a lm du : Addr) (ws : List (Int × Int)) (H : Hp) : Prop where
  tab : LamX.Tabs T H
  src : SrcAt H s
  wts : H a = some (.dK (wK ws))
  lim : H lm = some (.lst ((limsL ws.length).map fun l : Nat => V.int (l : Int)))
  due : PairsAt H du (dueL ws)
  lms : lm ≠ s
  dus : du ≠ s
theorem Rt.to {T : List (Addr × Str)} {s a lm du : Addr} {ws : List (Int × Int)} {H H' : Hp} (R : Rt T s a lm du ws H) (e : Exs s H H') (t : LamX.Tabs T H') (sr : SrcAt H' s) : Rt T s a lm du ws H' := by
  obtain ⟨x, y, u, hs⟩ := R.src
  have ha : a ≠ s := ne_of R.wts hs (by intro z; cases z)
  refine ⟨t, sr, e.ext _ _ ha R.wts (fun _ z => nomatch z), e.ext _ _ R.lms R.lim (fun _ z => nomatch z), ?_, R.lms, R.dus⟩
  obtain ⟨as, h1, h2, h3⟩ := R.due
  exact ⟨as, e.ext _ _ R.dus h1 (fun _ z => nomatch z), h2, fun i q p k1 k2 => e.ext _ _ (ne_of (h3 i q p k1 k2) hs (by intro z; cases z)) (h3 i q p k1 k2) (fun _ z => nomatch z)⟩
theorem Rt.ofSame {T : List (Addr × Str)} {s a lm du : Addr} {ws : List (Int × Int)} {H H' : Hp} (R : Rt T s a lm du ws H) (sm : Same H H') : Rt T s a lm du ws H' :=
  R.to (.same sm) (R.tab.ext sm) (let ⟨x, y, z, e⟩ := R.src; ⟨x, y, z, sm _ _ e⟩)
theorem Rt.ofEx {T : List (Addr × Str)} {s a lm du : Addr} {ws : List (Int × Int)} {H H' : Hp} (R : Rt T s a lm du ws H) (x : Ex T H H') : Rt T s a lm du ws H' :=
  R.to (.ex x) (x.tab R.tab) (let ⟨_, _, _, e⟩ := R.src; ⟨_, _, _, x.lst e⟩)
theorem Rt.ofKp {T : List (Addr × Str)} {s a lm du : Addr} {ws : List (Int × Int)} {H H' : Hp} (R : Rt T s a lm du ws H) (k : Kp s H H') (sr : SrcAt H' s) : Rt T s a lm du ws H' :=
  R.to (.kp k) (tabs_kp R.tab R.src k) sr
end K23
set_option Elab.async false
set_option linter.all false
set_option maxRecDepth 100000
set_option maxHeartbeats 4000000
namespace K23
open PySem PySem.Spec PyProof.Rows L2
/-- a def that is called: its promise, its binding, its place -/
structure Cl (P : Program) (w : World) (K : PySem.W.Frag) (mg : Str → Option Value) (base : Heap) (x : Str) (k : Nat) (ps : List Str) (sp : Sp) (f : Addr) (fd : FuncData) : Prop where
  ok : FnOk P w K mg base CX0 k f fd ps sp
  b : Binds K fd ps []
  kp : PySem.W.keepIn K (.ref f) = true
  g : mg x = some (.ref f)
/-- [b for a, b in pairs] -/
theorem lc_snd {K : PySem.W.Frag} {pl : Addr} {l : List (Int × Int)} {i j : Nat} {vs : List Nat} {σ : L2.St} {H1 : Hp} {D : Addr} {Qd : Hp → Prop} (h : PairsAt H1 pl l) (nD : H1 D = none) (hl : l.length ≤ 1000)
    (hw : ∀ a b : V, wipe (((wipe σ vs).set i (some a)).set j (some b)) vs = wipe σ vs) (hj : ∀ a b : V, (((wipe σ vs).set i (some a)).set j (some b))[j]? = some (some b)) (hd : ∀ H, Same H1 H → H D = some (.lst ((l.map (·.2)).map V.int)) → Qd H) :
    ∃ W : Nat → Nat → Hp → Prop, (∃ m, W 0 m (upd H1 D (.lst []))) ∧ ∀ i' m H, W i' m H →
      ((Itl K pl).stop i' H ∧ Qd H) ∨ ((Itl K pl).go i' H ∧ ∃ Nx : Hp → Prop, (∀ H', Nx H' → ∃ m', m' < m ∧ W (i' + 1) m' H') ∧ ∀ x H', (Itl K pl).yld i' H x H' → gTup K 2 (gCons (gName i) (gCons (gName j) gNil)) x (wipe σ vs) H' fun σ2 H2 => wipe σ2 vs = wipe σ vs ∧ tYes σ2 H2 fun b H3 =>
        if b = true then tVar j σ2 H3 fun y H4 => ∃ acc, H4 D = some (.lst acc) ∧ acc.length < sizeLine ∧ Nx (upd H4 D (.lst (acc ++ [y]))) else Nx H3) := by
  obtain ⟨as, e1, l1, g1⟩ := h
  refine lc_map (ys := (l.map (·.2)).map V.int) (plain_list (SqL.of e1)) nD ?_ ?_ ?_ hd
  · rw [List.length_map, List.length_map, List.length_map, l1]
  · rw [List.length_map, l1]; exact Nat.le_trans hl (by decide)
  · intro q x y2 H12 Q' ex ey sm q'
    rw [List.getElem?_map] at ex
    obtain ⟨tj, htj, rfl⟩ := Option.map_eq_some_iff.mp ex
    have hjl : q < l.length := by rw [← l1]; exact (List.getElem?_eq_some_iff.mp htj).1
    have hj2 : l[q]? = some l[q] := List.getElem?_eq_getElem hjl
    rw [List.getElem?_map, List.getElem?_map, hj2] at ey
    have ey' := Option.some.inj ey
    subst ey'
    refine ⟨tj, _, rfl, SqT.of (sm _ _ (g1 q tj _ htj hj2)), rfl, _, _, rfl, _, _, rfl, rfl, hw _ _, ?_⟩
    exact ⟨_, hj _ _, q' _ (Same.refl _)⟩
section
variable {P : Program} {w : World} {K : PySem.W.Frag} {mg : Str → Option Value} {base : Heap} {T : List (Addr × Str)}
/-! ### _law_right -/
abbrev sRt : Stmt := topS 47
abbrev nRt : List Str := ["_law_source", "_law_weights_so", "_law_free", "_law_longest", "_law_limits", "_law_due", "_law_told", "_law_limit", "_law_bits", "_law_lengths_here", "_law_pairs", "_law_symbol", "_law_more", "_law_less", "_law_one_here", "_law_load", "_law_length"]
theorem scRt : FnScope nRt ["_law_source"] (defScope sRt) := ⟨rfl, rfl, rfl, by decide +kernel, rfl, by decide +kernel, by decide +kernel⟩
def spRt (T : List (Addr × Str)) : Sp := fun vs H Q _ => ∃ s : Addr, vs = [.ref s] ∧ SrcAt H s ∧ LamX.Tabs T H ∧ ∀ H', Exs s H H' → LamX.Tabs T H' → Q (.bl true) H'
theorem ok_rt {f fW fF fB fL fO fN fT fE fI fb fA fS : Addr} {fd fdW fdF fdB fdL fdO fdN fdT fdE fdI fdb fdA fdS : FuncData} {d16 : List Value} (F : Fun K "_law_right" "_law_right" sRt f fd) (X : Txt mg)
    (W : Cl P w K mg base "_law_weights" 3 ["_law_source"] spLw fW fdW) (FB : Cl P w K mg base "_law_free_bits" 1 ["_law_weights_so"] spFree fF fdF)
    (BB : Cl P w K mg base "_law_bits_by" 1 ["_law_weights_so", "_law_limit"] spLby fB fdB) (BL : Cl P w K mg base "by_limits" 4 ["weights"] (spBl T) fL fdL) (bLk : KBinds K fdL ["weights"] ["weights"] (fun us ws => us ++ ws) (fun us ws => us ++ ws))
    (O : Cl P w K mg base "_law_one" 2 ["_law_source", "_law_some"] (spOne K) fO fdO) (N : Cl P w K mg base "_law_next" 1 ["_law_source", "_law_many"] spNext fN fdN)
    (LT : Cl P w K mg base "least_table" 5 ["weights", "limit"] (spLt T) fT fdT) (LE : Cl P w K mg base "_law_lengths" 1 ["_law_table"] spLen fE fdE) (IT : Cl P w K mg base "is_table" 4 ["value"] spIsTab fI fdI)
    (LB : Cl P w K mg base "least_bits" 5 ["weights", "limit"] (spLb T) fb fdb) (v16 : Vals [.int 16] d16) (b16 : Binds K fdb ["weights", "limit"] d16) (TB : Cl P w K mg base "table_bits" 6 ["weights", "table"] (spTb T) fA fdA) (IL : Cl P w K mg base "is_least" 6 ["weights", "table", "limit"] (spIl T) fS fdS) :
    FnOk P w K mg base CX0 7 f fd ["_law_source"] (spRt T) := by
  refine F.ok scRt (fun vs H Q E h => ?_) (fun cdv A outer s0 H vs Q E hr h => ?_)
  · obtain ⟨s, rfl, _⟩ := h
    rfl
  · obtain ⟨s, rfl, hs, hT, q⟩ := h
    have hu := hu_of hr
    have hu64 := hr.units
    refine ⟨_, pss_cons (ps_set (i := 1) scRt.nd rfl (Or.inr rfl) (pe_call W.ok (hr.mono (by decide)) (by rfl) W.g W.kp W.b .nil pass0 (pa_cons (pv 0) pa_nil)))
      (pss_cons (ps_asg (pe_call FB.ok (hr.mono (by decide)) (by rfl) FB.g FB.kp FB.b .nil pass0 (pa_cons (pv 1) pa_nil)) (pg_tup rfl (pgs_cons (pg_name (i := 2) scRt.nd rfl (Or.inr rfl)) (pgs_cons (pg_name (i := 3) scRt.nd rfl (Or.inr rfl)) pgs_nil))))
      (pss_cons (ps_setLc (i := 4) (own := [("_law_one_here", 14)]) (g := gName 14) (tt := tTest (tOp (rI0 fun i j => .bl (decide (i < j))) (tCB (fun xs H Q => ∃ a kvs, xs = [V.ref a] ∧ H a = some (.dK kvs) ∧ Q (.int kvs.length) H) (tCons (tVar 1) tNil)) (tOp (rI CPow fun i j => .int (i * 2 ^ j.toNat)) (tC (.int 1)) (tVar 14)))) rfl scRt.nd rfl rfl (sw_true rfl rfl rfl (by decide +kernel)) (pi_range2 (by rfl) X.range (pa_cons pe_int (pa_cons pe_int pa_nil)))
          (blkOk_by (N := nRt) (sc := defScope sRt) (by decide +kernel)) (fun _ _ _ _ _ => pg_name (i := 14) scRt.nd rfl (Or.inl rfl)) (fun _ _ _ _ _ => pts_one (pt_cmpR op_lt (pe_callB call_lenD (by rfl) X.len bt_len (pa_cons (pv 1) pa_nil)) (pe_op op_shl pe_int (pv 14)) (nomark _)))
          (fun _ _ _ _ _ => pv 14))
      (pss_cons (ps_setLc (i := 5) (own := [("_law_one_here", 14)]) (g := gName 14) (tt := tYes) rfl scRt.nd rfl rfl (sw_true rfl rfl rfl (by decide +kernel)) (pi_list (pv 4))
          (blkOk_by (N := nRt) (sc := defScope sRt) (by decide +kernel)) (fun _ _ _ _ _ => pg_name (i := 14) scRt.nd rfl (Or.inl rfl)) (fun _ _ _ _ _ => pts_nil)
          (fun _ _ _ _ _ => pe_tup (pa_cons (pv 14) (pa_cons (pe_ifExp (pt_cmpR op_le (pv 3) (pv 14) (nomark _)) (pv 2) (pe_call BB.ok (hr.mono (by decide)) (by rfl) BB.g BB.kp BB.b .nil pass0 (pa_cons (pv 1) (pa_cons (pv 14) pa_nil)))) pa_nil))))
      (pss_cons (ps_set (i := 6) scRt.nd rfl (Or.inl rfl) (pe_call BL.ok (hr.mono (by decide)) (by rfl) BL.g BL.kp BL.b .nil pass0 (pa_cons (pv 1) pa_nil)))
      (pss_cons (ps_if (pt_cmpR (op_neD hu64) (pv 6) (pv 5) (nomark _)) (pss_one (ps_ret pe_bl)) pss_nil)
      (pss_cons (ps_expr (pe_bm PySem.F.plainAttrs_list PySem.F.slot_list_append PySem.F.type_list_append mt_append (pv 6) (pa_cons pe_non pa_nil)))
      (pss_cons (ps_if (pt_cmpR (op_neD hu64) (pe_callK0 BL.ok (hr.mono (by decide)) (by rfl) BL.g BL.kp bLk pass0 (pk_cons (pv 1) pk_nil)) (pv 5) (nomark _)) (pss_one (ps_ret pe_bl)) pss_nil)
      (pss_cons (ps_for PassesOwn.never rfl (pi_tup (pe_tup (pa_cons (pe_ix ix_list (pv 4) pe_int (fun _ _ => rfl)) (pa_cons (pe_call O.ok (hr.mono (by decide)) (by rfl) O.g O.kp O.b .nil pass0 (pa_cons (pv 0) (pa_cons (pv 4) pa_nil))) (pa_cons pe_int pa_nil))))) (pg_name (i := 7) scRt.nd rfl (.inl rfl))
        (pss_cons (ps_par (i := 6) (j := 8) rfl scRt.nd rfl rfl (by decide) rfl rfl (pa_cons (pe_call LT.ok (hr.mono (by decide)) (by rfl) LT.g LT.kp LT.b .nil pass0 (pa_cons (pv 1) (pa_cons (pv 7) pa_nil))) (pa_cons (pe_ix ix_tup (pe_ix ix_list (pv 5) (pe_op op_sub (pv 7) (pe_ix ix_list (pv 4) pe_int (fun _ _ => rfl))) (fun _ _ => rfl)) pe_int (fun _ _ => rfl)) pa_nil)) rfl)
        (pss_cons (ps_set (i := 9) scRt.nd rfl (Or.inr rfl) (pe_call LE.ok (hr.mono (by decide)) (by rfl) LE.g LE.kp LE.b .nil pass0 (pa_cons (pv 6) pa_nil)))
        (pss_cons (ps_if (PW.pt (pw_or (pt_not (pt_val (pe_call IT.ok (hr.mono (by decide)) (by rfl) IT.g IT.kp IT.b .nil pass0 (pa_cons (pv 6) pa_nil))))
            (pw_or (pt_cmpR (op_neD hu64) (pe_callB cr_sortedTN (by rfl) X.sorted bt_sorted (pa_cons (pe_ix ix_tup (pv 6) pe_int (fun _ _ => rfl)) pa_nil)) (pe_callB (cr_sortedDN rfl) (by rfl) X.sorted bt_sorted (pa_cons (pv 1) pa_nil)) (nomark _))
            (pw_or1 (pt_cmpR op_gt (pe_maxVals rfl (by rfl) X.max (pv 9)) (pv 7) (nomark _)))))) (pss_one (ps_ret pe_bl)) pss_nil)
        (pss_cons (ps_if (PW.pt (pw_or (pt_cmpR op_ne (pe_call LB.ok (hr.mono (by decide)) (by rfl) LB.g LB.kp LB.b .nil pass0 (pa_cons (pv 1) (pa_cons (pv 7) pa_nil))) (pv 8) (nomark _))
            (pw_or1 (pt_cmpR op_ne (pe_call TB.ok hr (by rfl) TB.g TB.kp TB.b .nil pass0 (pa_cons (pv 1) (pa_cons (pv 6) pa_nil))) (pv 8) (nomark _))))) (pss_one (ps_ret pe_bl)) pss_nil)
        (pss_cons (ps_if (pt_not (pt_val (pe_call IL.ok hr (by rfl) IL.g IL.kp IL.b .nil pass0 (pa_cons (pv 1) (pa_cons (pv 6) (pa_cons (pv 7) pa_nil)))))) (pss_one (ps_ret pe_bl)) pss_nil)
        (pss_cons (ps_set (i := 10) scRt.nd rfl (Or.inl rfl) (pe_callB cr_sortedPr (by rfl) X.sorted bt_sorted (pa_cons (pe_lock (pe_lc (own := [("_law_symbol", 11)]) (g := gName 11) (tt := tYes) rfl scRt.nd (pi_keys (pv 1))
            (blkOk_by (N := nRt) (sc := defScope sRt) (by decide +kernel)) (fun _ _ _ _ _ => pg_name (i := 11) scRt.nd rfl (Or.inl rfl)) (fun _ _ _ _ _ => pts_nil)
            (fun _ _ _ _ _ => pe_tup (pa_cons (pe_op op_sub pe_int (pe_dget hu (pv 1) (pv 11) (fun _ _ => rfl))) (pa_cons (pe_dget hu (pv 9) (pv 11) (fun _ _ => rfl)) pa_nil))))) pa_nil)))
        (pss_one (ps_if (pt_cmpR (op_neD hu64) (pe_callB cr_sortedI (by rfl) X.sorted bt_sorted (pa_cons (pe_lc (own := [("_law_load", 15), ("_law_length", 16)]) (g := gTup K 2 (gCons (gName 15) (gCons (gName 16) gNil))) (tt := tYes) rfl scRt.nd (pi_list (pv 10))
            (blkOk_by (N := nRt) (sc := defScope sRt) (by decide +kernel)) (fun _ _ _ _ _ => pg_tup rfl (pgs_cons (pg_name (i := 15) scRt.nd rfl (Or.inl rfl)) (pgs_cons (pg_name (i := 16) scRt.nd rfl (Or.inl rfl)) pgs_nil))) (fun _ _ _ _ _ => pts_nil)
            (fun _ _ _ _ _ => pv 16)) pa_nil))
            (pe_lc (own := [("_law_load", 15), ("_law_length", 16)]) (g := gTup K 2 (gCons (gName 15) (gCons (gName 16) gNil))) (tt := tYes) rfl scRt.nd (pi_list (pv 10))
            (blkOk_by (N := nRt) (sc := defScope sRt) (by decide +kernel)) (fun _ _ _ _ _ => pg_tup rfl (pgs_cons (pg_name (i := 15) scRt.nd rfl (Or.inl rfl)) (pgs_cons (pg_name (i := 16) scRt.nd rfl (Or.inl rfl)) pgs_nil))) (fun _ _ _ _ _ => pts_nil)
            (fun _ _ _ _ _ => pv 16)) (nomark _)) (pss_one (ps_ret pe_bl)) pss_nil)))))))))
      (pss_cons (ps_par (i := 11) (j := 12) rfl scRt.nd rfl rfl (by decide) rfl rfl (pa_cons (pe_call O.ok (hr.mono (by decide)) (by rfl) O.g O.kp O.b .nil pass0 (pa_cons (pv 0) (pa_cons (pe_callB (cr_sortedDN rfl) (by rfl) X.sorted bt_sorted (pa_cons (pv 1) pa_nil)) pa_nil))) (pa_cons (pe_callTy call_dictD (by rfl) X.dict bt_dict (pa_cons (pv 1) pa_nil)) pa_nil)) rfl)
      (pss_cons (ps_dput hu (pv 12) (pv 11) (pe_callB (call_min2 rfl) (by rfl) X.min bt_min (pa_cons (pe_op op_add (pe_op op_add (pe_dget hu (pv 12) (pv 11) (fun _ _ => rfl)) pe_int) (pe_call N.ok (hr.mono (by decide)) (by rfl) N.g N.kp N.b .nil pass0 (pa_cons (pv 0) (pa_cons pe_int pa_nil)))) (pa_cons (pe_op op_pow pe_int pe_int) pa_nil))) rfl)
      (pss_cons (ps_set (i := 13) scRt.nd rfl (Or.inl rfl) (pe_callTy call_dictD (by rfl) X.dict bt_dict (pa_cons (pv 1) pa_nil)))
      (pss_cons (ps_expr (pe_dpop1 (pv 13) (pv 11) ⟨rfl, rfl, rfl, rfl⟩))
      (pss_one (ps_ret (pe_chain op_le op_le (pe_call LB.ok (hr.mono (by decide)) (by rfl) LB.g LB.kp b16 v16 pass0 (pa_cons (pv 13) pa_nil)) (pe_ix ix_tup (pe_ix ix_list (pv 5) (pe_un un_neg pe_int) (fun _ _ => rfl)) pe_int (fun _ _ => rfl)) (pe_call LB.ok (hr.mono (by decide)) (by rfl) LB.g LB.kp b16 v16 pass0 (pa_cons (pv 12) pa_nil))))))))))))))))), ?_⟩
    refine ⟨_, rfl, s, rfl, hs, fun H1 a ws k1 hs1 na ea ok h6 => ?_⟩
    have hlen := ok.len
    have hT1 : LamX.Tabs T H1 := tabs_kp hT hs k1
    have x1 : Exs s H H1 := .kp k1
    refine ⟨_, rfl, a, ws, rfl, ea, ok, fun H2 tf Fb g P0 s2 ntf etf J hp hz => ?_⟩
    refine ⟨tf, _, rfl, SqT.of etf, rfl, _, _, rfl, _, _, rfl, rfl, ?_⟩
    have ea2 := s2 _ _ ea
    refine ⟨1, 17, rfl, ⟨by decide, by decide, by decide, by decide⟩, fun lm nlm => lc_filter (pLim ws.length) plain_range nlm ?_ (fun _ => rfl) ?_ ?_ ?_⟩
    · simp only [List.length_map, List.length_range]; decide
    · intro x H3 Q2 hx sm q2
      obtain ⟨i, hi, rfl⟩ := List.mem_map.mp hx
      have hi16 : i < 16 := by have := List.mem_range.mp hi; omega
      refine ⟨_, rfl, a, wK ws, rfl, sm _ _ ea2, _, rfl, 1, _, rfl, rfl, ⟨by omega, by omega, by decide⟩, _, _, rfl, rfl, _, rfl, ?_⟩
      rw [wK_len]
      exact q2 _ (Same.refl _)
    · intro x H3 Q2 hx sm q2
      exact ⟨_, rfl, q2 _ (Same.refl _)⟩
    intro H3 s3 e3
    have e3' : H3 lm = some (.lst ((limsL ws.length).map fun l : Nat => V.int (l : Int))) := by
      rw [e3]
      congr 2
      exact lims_filter _
    have ea3 := s3 _ _ ea2
    have hs3 : SrcAt H3 s := let ⟨x, y, z, e⟩ := hs1; ⟨x, y, z, s3 _ _ (s2 _ _ e)⟩
    have lms : lm ≠ s := fun z => by
      obtain ⟨x, y, u, e⟩ := hs1
      have := s2 _ _ e
      rw [z, this] at nlm
      cases nlm
    refine ⟨_, rfl, lm, rfl, ⟨_, SqL.of e3'⟩, fun du ndu => lc_pairs (ys := dueL ws) (plain_list (SqL.of e3')) ndu ?_ ?_ ?_ ?_⟩
    · unfold dueL; rw [List.length_map, List.length_map]
    · rw [List.length_map]; exact Nat.le_trans (lims_len _) (by decide)
    · intro i x y H4 Q3 ex ey sm q3
      unfold dueL at ey
      rw [List.getElem?_map] at ex ey
      obtain ⟨l, h1, h2⟩ := Option.map_eq_some_iff.mp ex
      rw [h1] at ey
      have ey' := Option.some.inj ey
      subst h2 ey'
      have hl := List.mem_of_getElem? h1
      obtain ⟨h3, h4⟩ := lims_mem hl
      refine ⟨rfl, _, rfl, _, rfl, _, rfl, _, _, rfl, rfl, _, rfl, ?_⟩
      by_cases hg : g ≤ (l : Int)
      · rw [decide_eq_true hg]
        refine iteT ⟨_, rfl, by show 2 ≤ sizeLine; decide, fun t nt => ?_⟩
        refine q3 _ t (same_upd nt) nt ?_
        rw [upd_same, few_joins ok hl J hp hz hg]
      · rw [decide_eq_false hg]
        refine iteF ⟨_, rfl, _, rfl, a, ws, l, rfl, sm _ _ ea3, ok, h3, fun H5 s5 => ⟨by show 2 ≤ sizeLine; decide, fun t nt => ?_⟩⟩
        exact q3 _ t (s5.trans (same_upd nt)) (s5.free nt) upd_same
    intro H4 s4 hdue
    have dus : du ≠ s := fun z => by
      obtain ⟨x, y, u, e⟩ := hs3
      rw [z, e] at ndu
      cases ndu
    have x4 : Exs s H H4 := x1.trans (.same ((s2.trans s3).trans s4))
    have R : Rt T s a lm du ws H4 := ⟨hT1.ext ((s2.trans s3).trans s4), let ⟨x, y, z, e⟩ := hs3; ⟨x, y, z, s4 _ _ e⟩, s4 _ _ ea3, s4 _ _ e3', hdue, lms, dus⟩
    -- by_limits
    refine ⟨_, rfl, a, ws, rfl, R.wts, ok, R.tab, fun H5 r x5 nr hr5 => ?_⟩
    have R5 := R.ofEx x5
    refine ⟨_, rfl, _, rfl, dP (dueL ws), dP (dueL ws), dp_pairs hr5, dp_pairs R5.due, sh_pairs _, sh_pairs _, _, rfl, ?_⟩
    rw [eqv_pairs]
    refine iteF ?_
    obtain ⟨as5, e5, l5, _⟩ := id hr5
    have ld : (dueL ws).length ≤ 16 := by unfold dueL; rw [List.length_map]; exact lims_len _
    refine ⟨_, rfl, .inl ⟨rfl, _, SqL.of e5⟩, r, _, _, rfl, rfl, e5, ?_, ?_⟩
    · rw [List.length_map]; exact small1000 (by omega)
    have x6 : Ex T H4 (upd H5 r (.lst (as5.map V.ref ++ [.non]))) := Ex.write2 nr x5 e5 (fun _ z => nomatch z) (fun c q z => by cases z)
    have R6 := R.ofEx x6
    refine ⟨_, rfl, a, ws, rfl, R6.wts, ok, R6.tab, fun H7 r7 x7 n7 hr7 => ?_⟩
    have R7 := R6.ofEx x7
    have y7 : Exs s H H7 := (x4.trans (.ex x6)).trans (.ex x7)
    refine ⟨_, rfl, dP (dueL ws), dP (dueL ws), dp_pairs hr7, dp_pairs R7.due, sh_pairs _, sh_pairs _, _, rfl, ?_⟩
    rw [eqv_pairs]
    refine iteF ?_
    -- the limits that are tried
    obtain ⟨m, hm1, hm2, hform⟩ := lims_form ws.length (by omega)
    have hm17 : ∀ l ∈ limsL ws.length, ∃ i, i < 17 - m ∧ l = m + i := fun l hl => by
      rw [hform] at hl
      obtain ⟨i, hi, rfl⟩ := List.mem_map.mp hl
      exact ⟨i, List.mem_range.mp hi, rfl⟩
    have hg0 : ((limsL ws.length).map fun l : Nat => V.int (l : Int))[0]? = some (V.int (m : Int)) := by
      rw [List.getElem?_map, lims_get hform (i := 0) (by omega)]
      rfl
    have hm_in : m ∈ limsL ws.length := List.mem_of_getElem? (lims_get hform (i := 0) (by omega))
    have h16_in : 16 ∈ limsL ws.length := by
      have := List.mem_of_getElem? (lims_get hform (i := 16 - m) (by omega))
      rw [show m + (16 - m) = 16 by omega] at this
      exact this
    refine ⟨_, rfl, lm, _, 0, V.int (m : Int), rfl, rfl, SqL.of R7.lim, atI_nat (j := 0) hg0, ?_⟩
    refine ⟨_, rfl, _, rfl, s, lm, _, rfl, R7.src, SqL.of R7.lim, R7.lms, ?_, ?_, fun H8 xl k8 hs8 hxl => ?_⟩
    · rw [List.length_map]; exact List.length_pos_of_mem hm_in
    · rw [List.length_map]; exact Nat.le_trans (lims_len _) (by decide)
    obtain ⟨l1, hl1, rfl⟩ := List.mem_map.mp hxl
    refine ⟨by show 3 ≤ sizeLine; decide, fun tp ntp => ?_⟩
    have R8 := (R7.ofKp k8 hs8).ofSame (same_upd (o := .tup [.int m, .int l1, .int 16]) ntp)
    have y8 : Exs s H (upd H8 tp (.tup [.int m, .int l1, .int 16])) := (y7.trans (.kp k8)).trans (.same (same_upd ntp))
    have etp : (upd H8 tp (.tup [.int m, .int l1, .int 16])) tp = some (.tup [.int m, .int l1, .int 16]) := upd_same
    refine ⟨tp, rfl, ⟨_, SqT.of upd_same⟩, ?_⟩
    have hxs : ∀ x ∈ [V.int (m : Int), V.int (l1 : Int), V.int 16], ∃ l ∈ limsL ws.length, x = V.int (l : Int) := fun x hx => by
      simp only [List.mem_cons, List.not_mem_nil, or_false] at hx
      rcases hx with rfl | rfl | rfl
      · exact ⟨m, hm_in, rfl⟩
      · exact ⟨l1, hl1, rfl⟩
      · exact ⟨16, h16_in, rfl⟩
    refine for_tup (K := K) (a := tp) (xs := [.int m, .int l1, .int 16]) (fun i σ H' => ∃ (z6 z7 z8 z9 z10 : Option V), σ = [some (.ref s), some (.ref a), some (.int Fb), some (.int g), some (.ref lm), some (.ref du), z6, z7, z8, z9, z10, none, none, none, none, none, none] ∧ Rt T s a lm du ws H' ∧ Exs s H H' ∧ H' tp = some (.tup [.int m, .int l1, .int 16]))
      ⟨_, _, _, _, _, rfl, R8, y8, etp⟩ (fun i σ H' _ ⟨_, _, _, _, _, _, _, _, e⟩ => SqT.of e) ?_ ?_
    · rintro i x σ H' hx ⟨z6, z7, z8, z9, z10, rfl, R, y, et⟩
      obtain ⟨l, hl, rfl⟩ := hxs x (List.mem_of_getElem? hx)
      obtain ⟨h3, h4⟩ := lims_mem hl
      -- the table and the bits due
      obtain ⟨i0, hi0, rfl⟩ := hm17 l hl
      obtain ⟨as, td, edu, has, htd⟩ := pairs_at R.due (due_get hform hi0)
      refine ⟨_, rfl, _, rfl, a, ws, m + i0, rfl, R.wts, ok, h3, h4, R.tab, fun Ha t ca sa ts xa hts hta => ?_⟩
      have Ra := R.ofEx xa
      have hLs := lens_of h3 h4 hts
      have tok := lt_tabOk ok h3.2 hLs
      have hbits := lt_bits ok h3.2 hLs
      have hlam := lt_lam ok h3.2 hLs
      have hsub : (((m + i0 : Nat) : Int) - (m : Int)) = ((i0 : Nat) : Int) := by omega
      refine ⟨_, rfl, _, rfl, _, rfl, lm, _, 0, V.int (m : Int), rfl, rfl, SqL.of Ra.lim, atI_nat (j := 0) hg0, _, _, rfl, rfl, du, _, ((m + i0 : Nat) : Int) - (m : Int), .ref td, rfl, rfl, SqL.of (xa.lst edu), ?_, ?_⟩
      · rw [hsub]; exact atI_nat (by rw [List.getElem?_map, has]; rfl)
      refine ⟨td, _, 1, .int (few ws (m + i0)), rfl, rfl, SqT.of (xa.tup htd), atI_nat (j := 1) rfl, ?_⟩
      refine ⟨_, _, rfl, ?_⟩
      refine ⟨_, rfl, t, ca, sa, _, _, rfl, hta, tok, fun Hb d sb nd ed => ?_⟩
      have Rb := Ra.ofSame sb
      have htb := (Ex.of (T := T) sb).tabAt hta
      -- the table's form
      refine ⟨_, rfl, t, ca, sa, _, _, rfl, htb, tok, fun Hc sc => ⟨_, rfl, iteF ?_⟩⟩
      have Rc := Rb.ofSame sc
      have htc := (Ex.of (T := T) sc).tabAt htb
      refine ⟨_, rfl, t, _, 1, .ref sa, rfl, rfl, SqT.of htc.top, atI_nat (j := 1) rfl, sa, syms ws, rfl, SqT.of htc.sym, fun ys p hp1 hs1 np => ?_⟩
      have sd : Same Hc (upd Hc p (.lst (ys.map V.int))) := same_upd np
      refine ⟨_, rfl, a, wK ws, ws.map (·.1), rfl, sd _ _ Rc.wts, wK_keys ws, fun ys2 p2 hp2 hs2 np2 => ?_⟩
      have se : Same (upd Hc p (.lst (ys.map V.int))) (upd (upd Hc p (.lst (ys.map V.int))) p2 (.lst (ys2.map V.int))) := same_upd np2
      have eys : ys = ys2 := K23M.sorted_uniq hs1 hs2 ((hp1.trans (syms_perm ws)).trans hp2.symm)
      subst eys
      have ep := se _ _ (upd_same (H := Hc) (a := p) (o := .lst (ys.map V.int)))
      have ep2 : (upd (upd Hc p (.lst (ys.map V.int))) p2 (.lst (ys.map V.int))) p2 = some (.lst (ys.map V.int)) := upd_same
      have sdd := sc.trans (sd.trans se)
      generalize (upd (upd Hc p (.lst (ys.map V.int))) p2 (.lst (ys.map V.int))) = Hd at sd se ep ep2 sdd ⊢
      refine ⟨dI ys, dI ys, .lst (SqL.of ep) (dp_ints _), .lst (SqL.of ep2) (dp_ints _), sh_ints _, sh_ints _, _, rfl, ?_⟩
      rw [eqv_ints]
      refine iteF ?_
      have Rd := Rb.ofSame sdd
      have htd2 := (Ex.of (T := T) sdd).tabAt htb
      have hlzl := (lz_len tok).1
      rw [syms_len] at hlzl
      refine ⟨_, rfl, d, wK (lz (cnts ws.length ts) (syms ws)), (lz (cnts ws.length ts) (syms ws)).map (·.2), rfl, sdd _ _ ed, ?_, ?_, fun mx hmx _ => ?_⟩
      · unfold wK; rw [List.map_map, List.map_map]; rfl
      · intro z
        have := congrArg List.length z
        rw [List.length_map, hlzl] at this
        simp only [List.length_nil] at this
        omega
      have hmxl : mx ≤ ((m + i0 : Nat) : Int) := by
        obtain ⟨q1, hq1, rfl⟩ := List.mem_map.mp hmx
        have hk1 : q1.1 ∈ syms ws := by
          have := List.mem_map_of_mem (f := (·.1)) hq1
          rw [lz_keys tok] at this
          exact this
        have hv1 := lz_val tok hk1
        rw [valV_nd (by rw [lz_keys tok]; exact tok.sym.nd) q1 hq1] at hv1
        have e := V.int.inj (Option.some.inj hv1)
        obtain ⟨p1, hp1', e1⟩ := List.mem_map.mp ((syms_perm ws).mem_iff.mp hk1)
        have := (hlam p1 hp1').2.2
        rw [e1] at this
        rw [e]
        omega
      refine ⟨_, rfl, _, _, rfl, rfl, _, rfl, ?_⟩
      rw [decide_eq_false (show ¬ ((m + i0 : Nat) : Int) < mx by omega)]
      refine iteF ?_
      -- its bits
      refine ⟨_, rfl, _, rfl, a, ws, m + i0, rfl, Rd.wts, ok, h3, h4, Rd.tab, fun He xe => ?_⟩
      have Re := Rd.ofEx xe
      have hte := xe.tabAt htd2
      refine ⟨_, rfl, rfl, _, rfl, ?_⟩
      rw [decide_eq_true rfl]
      refine iteF ?_
      refine ⟨_, rfl, _, rfl, a, t, ca, sa, ws, _, _, rfl, Re.wts, ok, hte, tok, fun p hp => (hlam p hp).1, Re.tab, fun Hf xf => ?_⟩
      have Rf := Re.ofEx xf
      have htf := xf.tabAt hte
      rw [hbits]
      refine ⟨_, rfl, rfl, _, rfl, ?_⟩
      rw [decide_eq_true rfl]
      refine iteF ?_
      refine ⟨_, rfl, _, rfl, _, rfl, a, t, ca, sa, ws, _, _, m + i0, rfl, Rf.wts, ok, htf, tok, h3, h4, fun p hp => ⟨(hlam p hp).1, (hlam p hp).2.2⟩, hbits, Rf.tab, fun Hg xg => ⟨_, rfl, iteF ?_⟩⟩
      have Rg := Rf.ofEx xg
      have edg : Hg d = some (.dK (wK (lz (cnts ws.length ts) (syms ws)))) := xg.dk (xf.dk (xe.dk (sdd _ _ ed)))
      have nda : d ≠ a := Ne.symm (ne_of_none Ra.wts nd)
      -- the order of lengths
      refine ⟨a, _, Rg.wts, trivial, fun od => ?_⟩
      refine ⟨_, rfl, a, od, rfl, .inl ⟨wK ws, upd_same, fun D nD => lc_pairs (ys := ws.map fun p => (0 - p.2, (lamT (cnts ws.length ts) (syms ws) p.1 : Int))) (plain_keys upd_same) nD ?_ ?_ ?_ ?_⟩⟩
      · rw [List.length_map, List.length_map, wK_len]
      · rw [List.length_map, wK_len]; exact Nat.le_trans hlen (by decide)
      · intro j x y2 H9 Q' ex ey sm q'
        obtain ⟨p, hp1, rfl⟩ := wK_at ex
        rw [List.getElem?_map, hp1] at ey
        have ey' := Option.some.inj ey
        subst ey'
        have hm9 := List.mem_of_getElem? hp1
        refine ⟨rfl, _, rfl, _, rfl, a, V.int p.2, rfl, .inl ⟨wK ws, Sum.inl p.1, .inr ⟨od, sm _ _ upd_same⟩, rfl, (valV_nd ok.nd p hm9).symm⟩, _, _, rfl, rfl, ?_⟩
        refine ⟨_, rfl, _, rfl, d, _, rfl, .inl ⟨_, Sum.inl p.1, .inl (sm _ _ (by rw [upd_ne nda]; exact edg)), rfl, (lz_val tok (hlam p hm9).1).symm⟩, by show 2 ≤ sizeLine; decide, fun t9 nt9 => ?_⟩
        exact q' _ t9 (same_upd nt9) nt9 upd_same
      intro H9 sm9 eD
      have hl9 := same_locked sm9
      have s9 : Same Hg (upd H9 a (.dK (wK ws))) := same_unlock sm9 Rg.wts
      have nDa : D ≠ a := fun z => by rw [z, upd_same] at nD; cases nD
      have eD9 : PairsAt (upd H9 a (.dK (wK ws))) D (ws.map fun p => (0 - p.2, (lamT (cnts ws.length ts) (syms ws) p.1 : Int))) := by
        obtain ⟨as, e, hl, hp⟩ := eD
        exact ⟨as, by rw [upd_ne nDa]; exact e, hl, fun i t p k1 k2 => by rw [upd_ne (ne_of (hp i t p k1 k2) hl9 (by intro z; cases z))]; exact hp i t p k1 k2⟩
      refine ⟨hl9, ?_⟩
      generalize upd H9 a (.dK (wK ws)) = H10 at s9 eD9 ⊢
      refine ⟨D, _, rfl, eD9, fun l' H11 pl hpl hsl s11 npl epl => ?_⟩
      have hmono := mono_lens ok h3.2 hLs hpl hsl
      obtain ⟨as', e11, l11, g11⟩ := id epl
      have hl'l : l'.length = ws.length := by
        have := hpl.length_eq
        rw [List.length_map] at this
        exact this
      refine ⟨_, rfl, pl, rfl, ⟨_, SqL.of e11⟩, fun D12 n12 => lc_snd epl n12 (by omega) (fun _ _ => rfl) (fun _ _ => rfl) fun H12 s12 e12 => ?_⟩
      refine ⟨D12, l'.map (·.2), rfl, SqL.of e12, fun ns' p13 hp13 hs13 np13 => ?_⟩
      have ens : ns' = l'.map (·.2) := K23M.sorted_uniq hs13 hmono hp13
      subst ens
      have s13 : Same H12 (upd H12 p13 (.lst ((l'.map (·.2)).map V.int))) := same_upd np13
      have e13 : (upd H12 p13 (.lst ((l'.map (·.2)).map V.int))) p13 = some (.lst ((l'.map (·.2)).map V.int)) := upd_same
      generalize (upd H12 p13 (.lst ((l'.map (·.2)).map V.int))) = H13 at s13 e13 ⊢
      refine ⟨_, rfl, pl, rfl, ⟨_, SqL.of ((s12.trans s13) _ _ e11)⟩, fun D14 n14 => lc_snd (epl.same (s12.trans s13)) n14 (by omega) (fun _ _ => rfl) (fun _ _ => rfl) fun H14 s14 e14 => ?_⟩
      refine ⟨dI (l'.map (·.2)), dI (l'.map (·.2)), .lst (SqL.of (s14 _ _ e13)) (dp_ints _), .lst (SqL.of e14) (dp_ints _), sh_ints _, sh_ints _, _, rfl, ?_⟩
      rw [eqv_ints]
      refine iteF ?_
      have sAll := s9.trans (s11.trans ((s12.trans s13).trans s14))
      have Rz := Rg.ofSame sAll
      have xz : Exs s H' H14 := ((((((Exs.ex xa).trans (.same sb)).trans (.same sdd)).trans (.ex xe)).trans (.ex xf)).trans (.ex xg)).trans (.same sAll)
      have tps : tp ≠ s := by
        obtain ⟨q1, q2, q3, e⟩ := R.src
        exact ne_of et e (by intro z; cases z)
      exact ⟨_, _, _, _, _, rfl, Rz, y.trans xz, xz.ext _ _ tps et (fun _ z => nomatch z)⟩
    · rintro σ H' ⟨z6, z7, z8, z9, z10, rfl, R, y, _⟩
      have h16 := lims_mem h16_in
      -- a symbol, a copy
      refine ⟨_, rfl, _, rfl, a, wK ws, ws.map (·.1), rfl, R.wts, wK_keys ws, fun ys p hp1 _ np => ?_⟩
      have s1' : Same H' (upd H' p (.lst (ys.map V.int))) := same_upd np
      have R1 := R.ofSame s1'
      have ps : p ≠ s := (R.src.new (o := .lst (ys.map V.int)) np).2
      have hyl : ys.length = ws.length := by rw [hp1.length_eq, List.length_map]
      refine ⟨s, p, ys.map V.int, rfl, R1.src, SqL.of upd_same, ps, by rw [List.length_map]; omega, by rw [List.length_map]; omega, fun Ha xk ka hsa hxk => ?_⟩
      obtain ⟨k, hk1, rfl⟩ := List.mem_map.mp hxk
      have hk : k ∈ ws.map (·.1) := hp1.subset hk1
      have Ra := R1.ofKp ka hsa
      refine ⟨_, rfl, a, wK ws, rfl, .inl Ra.wts, fun mo nmo => ?_⟩
      have Rb := Ra.ofSame (same_upd (o := .dK (wK ws)) nmo)
      have yb : Exs s H (upd Ha mo (.dK (wK ws))) := ((y.trans (.same s1')).trans (.kp ka)).trans (.same (same_upd nmo))
      have emo : (upd Ha mo (.dK (wK ws))) mo = some (.dK (wK ws)) := upd_same
      have newm : New Ha mo := New.of (T := T) (Ex.refl Ha) nmo
      have xab : Exs s Ha (upd Ha mo (.dK (wK ws))) := .same (same_upd nmo)
      have mos : mo ≠ s := (Ra.src.new (o := .dK (wK ws)) nmo).2
      refine ⟨_, _, rfl, ?_⟩
      generalize (upd Ha mo (.dK (wK ws))) = Hb at Rb yb emo xab ⊢
      -- a greater weight
      obtain ⟨pk0, hpk0, epk0⟩ := List.mem_map.mp hk
      have hwt := ok.wt pk0 hpk0
      have ewt : wtO ws k = pk0.2 := by rw [← epk0, wtO_mem ok.nd hpk0]
      refine ⟨_, rfl, _, rfl, mo, V.int (wtO ws k), rfl, .inl ⟨wK ws, Sum.inl k, .inl emo, rfl, (valV_wtO ok.nd k hk).symm⟩, _, _, rfl, rfl, ?_⟩
      refine ⟨_, rfl, s, 100, rfl, Rb.src, by decide, by decide, fun Hc rv kc hsc rv0 rv1 => ?_⟩
      refine ⟨_, _, rfl, rfl, _, _, rfl, rfl, ⟨by decide, by decide, by decide⟩, wtO ws k + 1 + rv, 1000000000000000000, rfl, ?_⟩
      have emc := kc _ _ mos emo
      have Rc := Rb.ofKp kc hsc
      have hv : 1 ≤ (if (1000000000000000000 : Int) < wtO ws k + 1 + rv then 1000000000000000000 else wtO ws k + 1 + rv) ∧ (if (1000000000000000000 : Int) < wtO ws k + 1 + rv then 1000000000000000000 else wtO ws k + 1 + rv) ≤ 1000000000000000000 ∧ wtO ws k ≤ (if (1000000000000000000 : Int) < wtO ws k + 1 + rv then 1000000000000000000 else wtO ws k + 1 + rv) := by
        rw [ewt]
        split <;> omega
      refine ⟨_, rfl, _, rfl, mo, _, rfl, DPut.k (k := Sum.inl k) emc ?_, ?_⟩
      · rw [wK_len]; exact small1000 (by omega)
      have xd : Exs s Ha (upd Hc mo (.dK (putK (wK ws) (Sum.inl k) (V.int (if (1000000000000000000 : Int) < wtO ws k + 1 + rv then 1000000000000000000 else wtO ws k + 1 + rv))))) := (xab.trans (.kp kc)).over newm
      have Rd : Rt T s a lm du ws (upd Hc mo (.dK (putK (wK ws) (Sum.inl k) (V.int (if (1000000000000000000 : Int) < wtO ws k + 1 + rv then 1000000000000000000 else wtO ws k + 1 + rv))))) := Ra.to xd (tabs_over Rc.tab emc (fun _ z => nomatch z) (fun c q z => by cases z)) (Rc.src.upd mos)
      have emd : (upd Hc mo (.dK (putK (wK ws) (Sum.inl k) (V.int (if (1000000000000000000 : Int) < wtO ws k + 1 + rv then 1000000000000000000 else wtO ws k + 1 + rv))))) mo = some (.dK (wK (moreW ws k (if (1000000000000000000 : Int) < wtO ws k + 1 + rv then 1000000000000000000 else wtO ws k + 1 + rv)))) := by rw [upd_same, put_wK hk]
      have ya : Exs s H Ha := (y.trans (.same s1')).trans (.kp ka)
      have yd := ya.trans xd
      generalize (upd Hc mo (.dK (putK (wK ws) (Sum.inl k) (V.int (if (1000000000000000000 : Int) < wtO ws k + 1 + rv then 1000000000000000000 else wtO ws k + 1 + rv))))) = Hd at xd Rd emd yd ⊢
      generalize (if (1000000000000000000 : Int) < wtO ws k + 1 + rv then 1000000000000000000 else wtO ws k + 1 + rv) = vv at hv emd
      -- a symbol less
      refine ⟨_, rfl, a, wK ws, rfl, .inl Rd.wts, fun le nle => ?_⟩
      have se : Same Hd (upd Hd le (.dK (wK ws))) := same_upd nle
      have Re := Rd.ofSame se
      have ele : (upd Hd le (.dK (wK ws))) le = some (.dK (wK ws)) := upd_same
      have newl : New Hd le := New.of (T := T) (Ex.refl Hd) nle
      have les : le ≠ s := (Rd.src.new (o := .dK (wK ws)) nle).2
      have lemo : le ≠ mo := Ne.symm (ne_of_none emd nle)
      have eme := se _ _ emd
      have xe : Exs s Hd (upd Hd le (.dK (wK ws))) := .same se
      generalize (upd Hd le (.dK (wK ws))) = He at se Re ele eme xe ⊢
      refine ⟨_, rfl, le, rfl, .inl ⟨_, .inl ele⟩, _, rfl, wK ws, Sum.inl k, V.int (wtO ws k), ele, rfl, valV_wtO ok.nd k hk, ?_⟩
      have xf : Exs s Hd (upd He le (.dK (dropK (wK ws) (Sum.inl k)))) := xe.over newl
      have Rf : Rt T s a lm du ws (upd He le (.dK (dropK (wK ws) (Sum.inl k)))) := Rd.to xf (tabs_over Re.tab ele (fun _ z => nomatch z) (fun c q z => by cases z)) (Re.src.upd les)
      have elf : (upd He le (.dK (dropK (wK ws) (Sum.inl k)))) le = some (.dK (wK (lessW ws k))) := by rw [upd_same, drop_wK]
      have emf : (upd He le (.dK (dropK (wK ws) (Sum.inl k)))) mo = some (.dK (wK (moreW ws k vv))) := by rw [upd_ne (Ne.symm lemo)]; exact eme
      generalize (upd He le (.dK (dropK (wK ws) (Sum.inl k)))) = Hf at xf Rf elf emf ⊢
      -- the comparison
      have okl := less_ok ok k
      have okm := more_ok ok (k := k) ⟨hv.1, hv.2.1⟩
      refine ⟨_, rfl, le, lessW ws k, 16, rfl, elf, okl, ⟨by decide, by decide⟩, Nat.lt_of_le_of_lt okl.len (by decide), Rf.tab, fun Hg xg => ?_⟩
      have Rg := Rf.ofEx xg
      have hl17 := due_len hform
      obtain ⟨as, td, edu, has, htd⟩ := pairs_at Rg.due (due_get hform (i := 16 - m) (by omega))
      have hasl : as.length = 17 - m := by
        obtain ⟨as2, f1, f2, _⟩ := id Rg.due
        rw [edu] at f1
        have e := (List.map_inj_right (fun a b h => V.ref.inj h)).mp (HO.lst.inj (Option.some.inj f1))
        rw [e, f2, hl17]
      have eas : as.map V.ref = (as.dropLast).map V.ref ++ [V.ref td] := by
        have hne : as ≠ [] := fun z => by rw [z] at hasl; simp at hasl; omega
        have e1 : as.getLast hne = td := by
          rw [List.getLast_eq_getElem]
          have : as[as.length - 1]? = some td := by rw [hasl, show 17 - m - 1 = 16 - m by omega]; exact has
          exact (List.getElem?_eq_some_iff.mp this).2
        have e2 : as = as.dropLast ++ [td] := by
          rw [← e1]; exact (List.dropLast_concat_getLast hne).symm
        calc as.map V.ref = (as.dropLast ++ [td]).map V.ref := by rw [← e2]
          _ = _ := by rw [List.map_append]; rfl
      have e16 : m + (16 - m) = 16 := by omega
      rw [e16] at htd
      refine ⟨_, rfl, 1, rfl, du, _, -1, .ref td, rfl, rfl, SqL.of edu, by rw [eas]; exact atI_last _ _, td, _, 1, .int (few ws 16), rfl, rfl, SqT.of htd, atI_nat (j := 1) rfl, ?_⟩
      refine ⟨_, _, rfl, rfl, _, rfl, ?_⟩
      rw [decide_eq_true (few_less ok hk)]
      refine iteT ?_
      have eml : (moreW ws k vv).length = ws.length := by unfold moreW; rw [List.length_map]
      refine ⟨_, rfl, mo, moreW ws k vv, 16, rfl, xg.dk emf, okm, ⟨by decide, by decide⟩, by rw [eml]; exact Nat.lt_of_le_of_lt hlen (by decide), Rg.tab, fun Hh xh => ?_⟩
      refine ⟨_, _, rfl, rfl, ?_⟩
      have Rh := Rg.ofEx xh
      show Q (.bl (decide (few ws 16 ≤ few (moreW ws k vv) 16))) Hh
      rw [decide_eq_true (few_more ok hk hv.2.2 hv.2.1)]
      exact q _ (((yd.trans xf).trans (.ex xg)).trans (.ex xh)) Rh.tab
end
end K23
set_option Elab.async false
set_option linter.all false
set_option maxRecDepth 100000
set_option maxHeartbeats 4000000
namespace K23
open PySem PySem.Spec PyProof.Rows L2
theorem wok_nil : WOk [] := ⟨by simp, by simp, by simp, by simp⟩
theorem due_nil : dueL [] = (List.range 16).map fun i : Nat => ((1 + (i : Int)), (0 : Int)) := by
  have e : limsL 0 = (List.range 16).map fun i => 1 + i := by decide +kernel
  unfold dueL
  rw [show ([] : List (Int × Int)).length = 0 from rfl, e, List.map_map]
  refine List.map_congr_left fun i _ => ?_
  show (((1 + i : Nat) : Int), few [] (1 + i)) = _
  have h : few [] (1 + i) = 0 := rfl
  rw [h, Int.natCast_add]
  rfl
theorem cnts_nil (ts : List Nat) : cnts 0 ts = List.replicate 16 0 := by
  unfold cnts lensL
  rw [List.range_zero, List.map_nil]
  decide
theorem syms_nil : syms [] = [] := by unfold syms; simp
def dTT (a b : List Int) : PyData := .tuple [dTi a, dTi b]
theorem sh_tt (a b : List Int) : SeqAt.shaped (dTT a b) = true := by
  have h1 := dep_ints a
  have h2 := dep_ints b
  unfold SeqAt.shaped dTT dTi
  rw [Bool.and_eq_true]
  exact ⟨by simp [PyData.canLay0, PyData.canLayAll0, lay_ints], decide_eq_true (by simp only [PyData.depth, PyData.depthAll]; omega)⟩
theorem eqv_tt (a b : List Int) : PyData.eqv (dTT a b) (dTT a b) = true := SeqAt.eqv_refl _ (by unfold dTT dTi; simp [PyData.canLay0, PyData.canLayAll0, lay_ints])
theorem dp_tt {K : PySem.W.Frag} {H : Hp} {t x y : Addr} {a b : List Int} (e1 : H t = some (.tup [.ref x, .ref y])) (e2 : H x = some (.tup (a.map V.int))) (e3 : H y = some (.tup (b.map V.int))) : Dp K H (.ref t) (dTT a b) :=
  .tup (SqT.of e1) (.cons (.tup (SqT.of e2) (dp_ints _)) (.cons (.tup (SqT.of e3) (dp_ints _)) .nil))
theorem Ex.sqL {T : List (Addr × Str)} {K : PySem.W.Frag} {H H' : Hp} {a : Addr} {xs : List V} (e : Ex T H H') (h : SqL K H a xs) : SqL K H' a xs := by
  rcases h with (h | ⟨o, h⟩) | h
  · exact .inl (.inl (e.lst h))
  · exact .inl (.inr ⟨o, e.int h fun _ z => nomatch z⟩)
  · exact .inr h
theorem Exs.sqL {s : Addr} {K : PySem.W.Frag} {H H1 H2 : Hp} {a : Addr} {xs : List V} (sm : Same H H1) (n : H s = none) (e : Exs s H1 H2) (h : SqL K H a xs) : SqL K H2 a xs := by
  rcases h with (h | ⟨o, h⟩) | h
  · exact .inl (.inl (e.ext _ _ (ne_of_none h n) (sm _ _ h) fun _ z => nomatch z))
  · exact .inl (.inr ⟨o, e.ext _ _ (ne_of_none h n) (sm _ _ h) fun _ z => nomatch z⟩)
  · exact .inr h
section
variable {P : Program} {w : World} {K : PySem.W.Frag} {mg : Str → Option Value} {base : Heap} {T : List (Addr × Str)}
/-! ### law -/
abbrev sLaw : Stmt := topS 48
abbrev nLaw : List Str := ["_law_script", "_law_k", "_law_one_here"]
theorem scLaw : FnScope nLaw ["_law_script"] (defScope sLaw) := ⟨rfl, rfl, rfl, by decide +kernel, rfl, by decide +kernel, by decide +kernel⟩
def spLaw (K : PySem.W.Frag) (T : List (Addr × Str)) : Sp := fun vs H Q _ => ∃ (a : Addr) (ns : List Int), vs = [.ref a] ∧ SqL K H a (ns.map V.int) ∧ LamX.Tabs T H ∧ ∀ H', Q (.bl true) H'
theorem ok_law {f fL fT fR fS fC : Addr} {fd fdL fdT fdR fdS fdC : FuncData} {d16 : List Value} (F : Fun K "law" "law" sLaw f fd) (X : Txt mg)
    (BL : Cl P w K mg base "by_limits" 4 ["weights"] (spBl T) fL fdL) (LT : Cl P w K mg base "least_table" 5 ["weights", "limit"] (spLt T) fT fdT) (v16 : Vals [.int 16] d16) (b16 : Binds K fdT ["weights", "limit"] d16)
    (RT : Cl P w K mg base "_law_right" 7 ["_law_source"] (spRt T) fR fdR) (SO : Cl P w K mg base "_law_source_of" 1 ["_law_cell"] spSrc fS fdS) (CA : Cl P w K mg base "_law_cell_at" 1 ["_law_script", "_law_k"] (spCellA K) fC fdC) : FnOk P w K mg base CX0 8 f fd ["_law_script"] (spLaw K T) := by
  refine F.ok scLaw (fun vs H Q E h => ?_) (fun cdv A outer s0 H vs Q E hr h => ?_)
  · obtain ⟨a, ns, rfl, _⟩ := h
    rfl
  · obtain ⟨a, ns, rfl, ha, hT, q⟩ := h
    have hu64 := hr.units
    refine ⟨_, pss_cons (ps_if (PW.pt (pw_or (pt_cmpR (op_neD hu64) (pe_call BL.ok (hr.mono (by decide)) (by rfl) BL.g BL.kp BL.b .nil pass0 (pa_cons pe_dnewK pa_nil))
          (pe_lc (own := [("_law_one_here", 2)]) (g := gName 2) (tt := tYes) rfl scLaw.nd (pi_range2 (by rfl) X.range (pa_cons pe_int (pa_cons pe_int pa_nil))) (blkOk_by (N := nLaw) (sc := defScope sLaw) (by decide +kernel)) (fun _ _ _ _ _ => pg_name (i := 2) scLaw.nd rfl (Or.inl rfl)) (fun _ _ _ _ _ => pts_nil)
            (fun _ _ _ _ _ => pe_tup (pa_cons (pv 2) (pa_cons pe_int pa_nil)))) (nomark _))
        (pw_or1 (pt_cmpR (op_neD hu64) (pe_call LT.ok (hr.mono (by decide)) (by rfl) LT.g LT.kp b16 v16 pass0 (pa_cons pe_dnewK pa_nil)) (pe_tup (pa_cons (pe_op op_repT (pe_tup (pa_cons pe_int pa_nil)) pe_int) (pa_cons (pe_tup pa_nil) pa_nil))) (nomark _))))) (pss_one (ps_ret pe_bl)) pss_nil)
      (pss_cons (ps_for PassesOwn.never rfl (pi_range1 (by rfl) X.range (pa_cons (pe_callB (call_max2 rfl) (by rfl) X.max bt_max (pa_cons pe_int (pa_cons (pe_callB (call_min2 rfl) (by rfl) X.min bt_min (pa_cons pe_int (pa_cons (pe_callB call_len_seq (by rfl) X.len bt_len (pa_cons (pv 0) pa_nil)) pa_nil))) pa_nil))) pa_nil)) (pg_name (i := 1) scLaw.nd rfl (.inl rfl))
        (pss_one (ps_if (pt_not (pt_val (pe_call RT.ok hr (by rfl) RT.g RT.kp RT.b .nil pass0 (pa_cons (pe_call SO.ok (hr.mono (by decide)) (by rfl) SO.g SO.kp SO.b .nil pass0 (pa_cons (pe_call CA.ok (hr.mono (by decide)) (by rfl) CA.g CA.kp CA.b .nil pass0 (pa_cons (pv 0) (pa_cons (pv 1) pa_nil))) pa_nil)) pa_nil)))) (pss_one (ps_ret pe_bl)) pss_nil)))
      (pss_one (ps_ret pe_bl))), ?_⟩
    intro d1 n1
    have s1 : Same H (upd H d1 (.dK [])) := same_upd n1
    refine ⟨d1, [], rfl, upd_same, wok_nil, hT.ext s1, fun H2 r x2 n2 hr2 => ?_⟩
    refine ⟨1, 17, rfl, ⟨by decide, by decide, by decide, by decide⟩, fun D nD => lc_pairs (ys := (List.range 16).map fun i : Nat => ((1 + (i : Int)), (0 : Int))) plain_range nD ?_ ?_ ?_ ?_⟩
    · simp only [List.length_map, List.length_range]; rfl
    · simp only [List.length_map, List.length_range]; decide
    · intro i x y H3 Q3 ex ey sm q3
      have hi : i < 16 := by
        have := (List.getElem?_eq_some_iff.mp ey).1
        simpa using this
      rw [List.getElem?_map, List.getElem?_range (show i < ((17 : Int) - 1).toNat from hi)] at ex
      rw [List.getElem?_map, List.getElem?_range hi] at ey
      have ex' : V.int (1 + (i : Int)) = x := Option.some.inj ex
      have ey' := Option.some.inj ey
      subst ex' ey'
      exact ⟨rfl, _, rfl, by show 2 ≤ sizeLine; decide, fun t nt => q3 _ t (same_upd nt) nt upd_same⟩
    intro H3 s3 hp3
    have hr3 := hr2.same s3
    rw [due_nil] at hr3
    refine ⟨dP _, dP _, dp_pairs hr3, dp_pairs hp3, sh_pairs _, sh_pairs _, _, rfl, ?_⟩
    rw [eqv_pairs]
    refine iteF ?_
    have y3 : Ex T H H3 := (Ex.of s1).trans (x2.trans (.of s3))
    -- least_table({})
    intro d4 n4
    have s4 : Same H3 (upd H3 d4 (.dK [])) := same_upd n4
    refine ⟨d4, [], 16, rfl, upd_same, wok_nil, ⟨by decide, by decide⟩, by decide, (y3.tab hT).ext s4, fun H5 t ca sa ts x5 hts hta => ?_⟩
    have y5 : Ex T H H5 := (y3.trans (.of s4)).trans x5
    have hta' : TabAt H5 t ca sa (List.replicate 16 0) [] := by
      have := hta
      rw [show ([] : List (Int × Int)).length = 0 from rfl, cnts_nil, syms_nil] at this
      exact this
    refine ⟨by show 1 ≤ sizeLine; decide, fun p6 n6 => ?_⟩
    have s6 : Same H5 (upd H5 p6 (.tup [.int 0])) := same_upd n6
    refine ⟨p6, 16, [.int 0], rfl, rfl, SqT.of upd_same, by simp, by decide, by decide, by decide, fun p7 n7 => ?_⟩
    have e7 : (List.replicate (16 : Int).toNat [V.int 0]).flatten = (List.replicate 16 (0 : Int)).map V.int := rfl
    rw [e7]
    have s7 : Same (upd H5 p6 (.tup [.int 0])) (upd (upd H5 p6 (.tup [.int 0])) p7 (.tup ((List.replicate 16 (0 : Int)).map V.int))) := same_upd n7
    have ep7 : (upd (upd H5 p6 (.tup [.int 0])) p7 (.tup ((List.replicate 16 (0 : Int)).map V.int))) p7 = some (.tup ((List.replicate 16 (0 : Int)).map V.int)) := upd_same
    have s67 := s6.trans s7
    generalize (upd (upd H5 p6 (.tup [.int 0])) p7 (.tup ((List.replicate 16 (0 : Int)).map V.int))) = H7 at s67 ep7 ⊢
    refine ⟨Nat.zero_le _, fun p8 n8 => ?_⟩
    have s8 : Same H7 (upd H7 p8 (.tup [])) := same_upd n8
    refine ⟨by show 2 ≤ sizeLine; decide, fun p9 n9 => ?_⟩
    have s9 : Same (upd H7 p8 (.tup [])) (upd (upd H7 p8 (.tup [])) p9 (.tup [.ref p7, .ref p8])) := same_upd n9
    have s59 : Same H5 (upd (upd H7 p8 (.tup [])) p9 (.tup [.ref p7, .ref p8])) := s67.trans (s8.trans s9)
    have e8 : (upd (upd H7 p8 (.tup [])) p9 (.tup [.ref p7, .ref p8])) p8 = some (.tup (([] : List Int).map V.int)) := s9 _ _ upd_same
    have e97 := s9 _ _ (s8 _ _ ep7)
    have e9 : (upd (upd H7 p8 (.tup [])) p9 (.tup [.ref p7, .ref p8])) p9 = some (.tup [.ref p7, .ref p8]) := upd_same
    generalize (upd (upd H7 p8 (.tup [])) p9 (.tup [.ref p7, .ref p8])) = H9 at s59 e8 e97 e9 ⊢
    refine ⟨dTT (List.replicate 16 0) [], dTT (List.replicate 16 0) [], dp_tt (s59 _ _ hta'.top) (s59 _ _ hta'.cnt) (s59 _ _ hta'.sym), dp_tt e9 e97 e8, sh_tt _ _, sh_tt _ _, _, rfl, ?_⟩
    rw [eqv_tt]
    refine iteF ?_
    have y9 : Ex T H H9 := y5.trans (.of s59)
    have ha9 := y9.sqL ha
    -- the turns
    refine ⟨_, rfl, a, _, rfl, .inl ha9, _, _, rfl, _, _, rfl, _, rfl, ?_, ?_, ?_⟩
    · split <;> (try split) <;> omega
    · split <;> (try split) <;> omega
    refine for_range (lo := 0) (fun i σ H' => ∃ y1 : Option V, σ = [some (.ref a), y1, none] ∧ SqL K H' a (ns.map V.int) ∧ LamX.Tabs T H') ⟨none, rfl, ha9, y9.tab hT⟩ ?_ ?_
    · rintro i σ H' hi ⟨y1, rfl, hsq, ht⟩
      refine ⟨_, rfl, _, rfl, a, ns, 0 + i, ?_, hsq, fun c => ?_⟩
      · rw [Int.natCast_add]; rfl
      refine ⟨c, rfl, fun H2 s sm ns' hs => ?_⟩
      refine ⟨s, rfl, hs, ht.ext sm, fun H3 xs t3 => ⟨_, rfl, iteF ?_⟩⟩
      exact ⟨_, rfl, Exs.sqL sm ns' xs hsq, t3⟩
    · rintro σ H' ⟨y1, rfl, _, _⟩
      exact q H'
end
end K23
set_option Elab.async false
set_option linter.all false
set_option maxRecDepth 100000
set_option maxHeartbeats 4000000
namespace K23
open PySem PySem.Spec PyProof.Rows L2
theorem all_mk {l : PySem.W.OpenLaw} {w : World} {K : PySem.W.Frag} {h : Heap} {mg : Str → Option Value} {fa : Addr} {ts : List Addr} (X : K.In h) (G : h.Ns mainGlobals mg) (hfa : mg "law" = some (.ref fa)) (ht : ∀ P ∈ ts, h.get? P = some (PySem.W.tabObj #[]))
    {f10 f11 f12 f13 f14 f15 f16 f17 f18 f21 f22 f23 f24 f25 f26 f27 f28 f29 f30 f31 f32 f33 f34 f35 f36 f37 f39 f40 f41 f42 f43 f44 f45 f46 f47 f48 P22 P33 c22 c33 T30 T33 T36 : Addr} {od10 an10 od11 an11 od12 an12 od13 an13 od14 an14 od15 an15 od16 an16 od17 an17 od18 an18 od21 an21 od22 an22 od23 an23 od24 an24 od25 an25 od26 an26 od27 an27 od28 an28 od29 an29 od30 an30 od31 an31 od32 an32 od33 an33 od34 an34 od35 an35 od36 an36 od37 an37 od39 an39 od40 an40 od41 an41 od42 an42 od43 an43 od44 an44 od45 an45 od46 an46 od47 an47 od48 an48 dd22 dd33 : Option Addr} {sl10 sl11 sl12 sl13 sl14 sl15 sl16 sl17 sl18 sl21 sl22 sl23 sl24 sl25 sl26 sl27 sl28 sl29 sl30 sl31 sl32 sl33 sl34 sl35 sl36 sl37 sl39 sl40 sl41 sl42 sl43 sl44 sl45 sl46 sl47 sl48 cs22 cs33 : Array (Option Value)} {oc10 kV10 dc10 pm10 ct10 cd10 oc11 kV11 dc11 pm11 ct11 cd11 oc12 kV12 dc12 pm12 ct12 cd12 oc13 kV13 dc13 pm13 ct13 cd13 oc14 kV14 dc14 pm14 ct14 cd14 oc15 kV15 dc15 pm15 ct15 cd15 oc16 kV16 dc16 pm16 ct16 cd16 oc17 kV17 dc17 pm17 ct17 cd17 oc18 kV18 dc18 pm18 ct18 cd18 oc21 kV21 dc21 pm21 ct21 cd21 oc22 kV22 dc22 pm22 ct22 oc23 kV23 dc23 pm23 ct23 cd23 oc24 kV24 dc24 pm24 ct24 cd24 oc25 kV25 dc25 pm25 ct25 cd25 oc26 kV26 dc26 pm26 ct26 cd26 oc27 kV27 dc27 pm27 ct27 cd27 oc28 kV28 dc28 pm28 ct28 cd28 oc29 kV29 dc29 pm29 ct29 cd29 oc30 kV30 dc30 pm30 ct30 cd30 oc31 kV31 dc31 pm31 ct31 cd31 oc32 kV32 dc32 pm32 ct32 cd32 oc33 kV33 dc33 pm33 ct33 oc34 kV34 dc34 pm34 ct34 cd34 oc35 kV35 dc35 pm35 ct35 cd35 oc36 kV36 dc36 pm36 ct36 cd36 oc37 kV37 dc37 pm37 ct37 cd37 oc39 kV39 dc39 pm39 ct39 cd39 oc40 kV40 dc40 pm40 ct40 cd40 oc41 kV41 dc41 pm41 ct41 cd41 oc42 kV42 dc42 pm42 ct42 cd42 oc43 kV43 dc43 pm43 ct43 cd43 oc44 kV44 dc44 pm44 ct44 cd44 oc45 kV45 dc45 pm45 ct45 cd45 oc46 kV46 dc46 pm46 ct46 cd46 oc47 kV47 dc47 pm47 ct47 cd47 oc48 kV48 dc48 pm48 ct48 cd48 : Value} {vs22 vs33 : Array Value} {fi22 fi33 : Str} {fg22 fg33 tx22 tx33 : Int} {nb22 nb33 : Bool} {ft22 ft33 gt22 gt33 xt22 xt33 : Tok} {oT30 oT33 oT36 : Obj} {nn30 nn33 nn36 : Nat} {tt30 tt33 tt36 tL tW tM : Tok}
    (a10 : PySem.W.nsIn K mainGlobals "is_integer" = some (some (.ref f10))) (l10 : K.lookup f10 = some ⟨oc10, od10, .func (PySem.W.fnOf "is_integer" "is_integer" (defArgs (topS 10)) (defBody (topS 10)) (defScope (topS 10)) .none kV10 dc10 pm10 an10 cd10 ct10), sl10⟩) (k10 : PySem.W.keepIn K (.ref f10) = true) (e10 : PySem.W.codeIn K cd10 "is_integer" = true)
    (a11 : PySem.W.nsIn K mainGlobals "are_counts" = some (some (.ref f11))) (l11 : K.lookup f11 = some ⟨oc11, od11, .func (PySem.W.fnOf "are_counts" "are_counts" (defArgs (topS 11)) (defBody (topS 11)) (defScope (topS 11)) .none kV11 dc11 pm11 an11 cd11 ct11), sl11⟩) (k11 : PySem.W.keepIn K (.ref f11) = true) (e11 : PySem.W.codeIn K cd11 "are_counts" = true)
    (a12 : PySem.W.nsIn K mainGlobals "room_taken" = some (some (.ref f12))) (l12 : K.lookup f12 = some ⟨oc12, od12, .func (PySem.W.fnOf "room_taken" "room_taken" (defArgs (topS 12)) (defBody (topS 12)) (defScope (topS 12)) .none kV12 dc12 pm12 an12 cd12 ct12), sl12⟩) (k12 : PySem.W.keepIn K (.ref f12) = true) (e12 : PySem.W.codeIn K cd12 "room_taken" = true)
    (a13 : PySem.W.nsIn K mainGlobals "are_symbols" = some (some (.ref f13))) (l13 : K.lookup f13 = some ⟨oc13, od13, .func (PySem.W.fnOf "are_symbols" "are_symbols" (defArgs (topS 13)) (defBody (topS 13)) (defScope (topS 13)) .none kV13 dc13 pm13 an13 cd13 ct13), sl13⟩) (k13 : PySem.W.keepIn K (.ref f13) = true) (e13 : PySem.W.codeIn K cd13 "are_symbols" = true)
    (a14 : PySem.W.nsIn K mainGlobals "table_fault" = some (some (.ref f14))) (l14 : K.lookup f14 = some ⟨oc14, od14, .func (PySem.W.fnOf "table_fault" "table_fault" (defArgs (topS 14)) (defBody (topS 14)) (defScope (topS 14)) .none kV14 dc14 pm14 an14 cd14 ct14), sl14⟩) (k14 : PySem.W.keepIn K (.ref f14) = true) (e14 : PySem.W.codeIn K cd14 "table_fault" = true)
    (a15 : PySem.W.nsIn K mainGlobals "is_table" = some (some (.ref f15))) (l15 : K.lookup f15 = some ⟨oc15, od15, .func (PySem.W.fnOf "is_table" "is_table" (defArgs (topS 15)) (defBody (topS 15)) (defScope (topS 15)) .none kV15 dc15 pm15 an15 cd15 ct15), sl15⟩) (k15 : PySem.W.keepIn K (.ref f15) = true) (e15 : PySem.W.codeIn K cd15 "is_table" = true)
    (a16 : PySem.W.nsIn K mainGlobals "check_table" = some (some (.ref f16))) (l16 : K.lookup f16 = some ⟨oc16, od16, .func (PySem.W.fnOf "check_table" "check_table" (defArgs (topS 16)) (defBody (topS 16)) (defScope (topS 16)) .none kV16 dc16 pm16 an16 cd16 ct16), sl16⟩) (k16 : PySem.W.keepIn K (.ref f16) = true) (e16 : PySem.W.codeIn K cd16 "check_table" = true)
    (a17 : PySem.W.nsIn K mainGlobals "bits_as" = some (some (.ref f17))) (l17 : K.lookup f17 = some ⟨oc17, od17, .func (PySem.W.fnOf "bits_as" "bits_as" (defArgs (topS 17)) (defBody (topS 17)) (defScope (topS 17)) .none kV17 dc17 pm17 an17 cd17 ct17), sl17⟩) (k17 : PySem.W.keepIn K (.ref f17) = true) (e17 : PySem.W.codeIn K cd17 "bits_as" = true)
    (a18 : PySem.W.nsIn K mainGlobals "codes" = some (some (.ref f18))) (l18 : K.lookup f18 = some ⟨oc18, od18, .func (PySem.W.fnOf "codes" "codes" (defArgs (topS 18)) (defBody (topS 18)) (defScope (topS 18)) .none kV18 dc18 pm18 an18 cd18 ct18), sl18⟩) (k18 : PySem.W.keepIn K (.ref f18) = true) (e18 : PySem.W.codeIn K cd18 "codes" = true)
    (a21 : PySem.W.nsIn K mainGlobals "is_weight" = some (some (.ref f21))) (l21 : K.lookup f21 = some ⟨oc21, od21, .func (PySem.W.fnOf "is_weight" "is_weight" (defArgs (topS 21)) (defBody (topS 21)) (defScope (topS 21)) .none kV21 dc21 pm21 an21 cd21 ct21), sl21⟩) (k21 : PySem.W.keepIn K (.ref f21) = true) (e21 : PySem.W.codeIn K cd21 "is_weight" = true)
    (a22 : PySem.W.nsIn K mainGlobals "check_weights" = some (some (.ref f22))) (l22 : K.lookup f22 = some ⟨oc22, od22, .func (PySem.W.fnOf "check_weights" "check_weights" (defArgs (topS 22)) (defBody (topS 22)) (defScope (topS 22)) .none kV22 dc22 pm22 an22 (.ref c22) ct22), sl22⟩) (k22 : PySem.W.keepIn K (.ref f22) = true) (e22 : PySem.W.codeIn K (.ref c22) "check_weights" = true)
    (a23 : PySem.W.nsIn K mainGlobals "check_limit" = some (some (.ref f23))) (l23 : K.lookup f23 = some ⟨oc23, od23, .func (PySem.W.fnOf "check_limit" "check_limit" (defArgs (topS 23)) (defBody (topS 23)) (defScope (topS 23)) .none kV23 dc23 pm23 an23 cd23 ct23), sl23⟩) (k23 : PySem.W.keepIn K (.ref f23) = true) (e23 : PySem.W.codeIn K cd23 "check_limit" = true)
    (a24 : PySem.W.nsIn K mainGlobals "check_room" = some (some (.ref f24))) (l24 : K.lookup f24 = some ⟨oc24, od24, .func (PySem.W.fnOf "check_room" "check_room" (defArgs (topS 24)) (defBody (topS 24)) (defScope (topS 24)) .none kV24 dc24 pm24 an24 cd24 ct24), sl24⟩) (k24 : PySem.W.keepIn K (.ref f24) = true) (e24 : PySem.W.codeIn K cd24 "check_room" = true)
    (a25 : PySem.W.nsIn K mainGlobals "check_all" = some (some (.ref f25))) (l25 : K.lookup f25 = some ⟨oc25, od25, .func (PySem.W.fnOf "check_all" "check_all" (defArgs (topS 25)) (defBody (topS 25)) (defScope (topS 25)) .none kV25 dc25 pm25 an25 cd25 ct25), sl25⟩) (k25 : PySem.W.keepIn K (.ref f25) = true) (e25 : PySem.W.codeIn K cd25 "check_all" = true)
    (a26 : PySem.W.nsIn K mainGlobals "coins_of" = some (some (.ref f26))) (l26 : K.lookup f26 = some ⟨oc26, od26, .func (PySem.W.fnOf "coins_of" "coins_of" (defArgs (topS 26)) (defBody (topS 26)) (defScope (topS 26)) .none kV26 dc26 pm26 an26 cd26 ct26), sl26⟩) (k26 : PySem.W.keepIn K (.ref f26) = true) (e26 : PySem.W.codeIn K cd26 "coins_of" = true)
    (a27 : PySem.W.nsIn K mainGlobals "pairs_of" = some (some (.ref f27))) (l27 : K.lookup f27 = some ⟨oc27, od27, .func (PySem.W.fnOf "pairs_of" "pairs_of" (defArgs (topS 27)) (defBody (topS 27)) (defScope (topS 27)) .none kV27 dc27 pm27 an27 cd27 ct27), sl27⟩) (k27 : PySem.W.keepIn K (.ref f27) = true) (e27 : PySem.W.codeIn K cd27 "pairs_of" = true)
    (a28 : PySem.W.nsIn K mainGlobals "rows_of" = some (some (.ref f28))) (l28 : K.lookup f28 = some ⟨oc28, od28, .func (PySem.W.fnOf "rows_of" "rows_of" (defArgs (topS 28)) (defBody (topS 28)) (defScope (topS 28)) .none kV28 dc28 pm28 an28 cd28 ct28), sl28⟩) (k28 : PySem.W.keepIn K (.ref f28) = true) (e28 : PySem.W.codeIn K cd28 "rows_of" = true)
    (a29 : PySem.W.nsIn K mainGlobals "fewest_bits" = some (some (.ref f29))) (l29 : K.lookup f29 = some ⟨oc29, od29, .func (PySem.W.fnOf "fewest_bits" "fewest_bits" (defArgs (topS 29)) (defBody (topS 29)) (defScope (topS 29)) .none kV29 dc29 pm29 an29 cd29 ct29), sl29⟩) (k29 : PySem.W.keepIn K (.ref f29) = true) (e29 : PySem.W.codeIn K cd29 "fewest_bits" = true)
    (a30 : PySem.W.nsIn K mainGlobals "least_bits" = some (some (.ref f30))) (l30 : K.lookup f30 = some ⟨oc30, od30, .func (PySem.W.fnOf "least_bits" "least_bits" (defArgs (topS 30)) (defBody (topS 30)) (defScope (topS 30)) (.ref T30) kV30 dc30 pm30 an30 cd30 ct30), sl30⟩) (k30 : PySem.W.keepIn K (.ref f30) = true) (e30 : PySem.W.codeIn K cd30 "least_bits" = true)
    (a31 : PySem.W.nsIn K mainGlobals "coins_among" = some (some (.ref f31))) (l31 : K.lookup f31 = some ⟨oc31, od31, .func (PySem.W.fnOf "coins_among" "coins_among" (defArgs (topS 31)) (defBody (topS 31)) (defScope (topS 31)) .none kV31 dc31 pm31 an31 cd31 ct31), sl31⟩) (k31 : PySem.W.keepIn K (.ref f31) = true) (e31 : PySem.W.codeIn K cd31 "coins_among" = true)
    (a32 : PySem.W.nsIn K mainGlobals "coins_taken" = some (some (.ref f32))) (l32 : K.lookup f32 = some ⟨oc32, od32, .func (PySem.W.fnOf "coins_taken" "coins_taken" (defArgs (topS 32)) (defBody (topS 32)) (defScope (topS 32)) .none kV32 dc32 pm32 an32 cd32 ct32), sl32⟩) (k32 : PySem.W.keepIn K (.ref f32) = true) (e32 : PySem.W.codeIn K cd32 "coins_taken" = true)
    (a33 : PySem.W.nsIn K mainGlobals "least_table" = some (some (.ref f33))) (l33 : K.lookup f33 = some ⟨oc33, od33, .func (PySem.W.fnOf "least_table" "least_table" (defArgs (topS 33)) (defBody (topS 33)) (defScope (topS 33)) (.ref T33) kV33 dc33 pm33 an33 (.ref c33) ct33), sl33⟩) (k33 : PySem.W.keepIn K (.ref f33) = true) (e33 : PySem.W.codeIn K (.ref c33) "least_table" = true)
    (a34 : PySem.W.nsIn K mainGlobals "bits_by" = some (some (.ref f34))) (l34 : K.lookup f34 = some ⟨oc34, od34, .func (PySem.W.fnOf "bits_by" "bits_by" (defArgs (topS 34)) (defBody (topS 34)) (defScope (topS 34)) .none kV34 dc34 pm34 an34 cd34 ct34), sl34⟩) (k34 : PySem.W.keepIn K (.ref f34) = true) (e34 : PySem.W.codeIn K cd34 "bits_by" = true)
    (a35 : PySem.W.nsIn K mainGlobals "table_bits" = some (some (.ref f35))) (l35 : K.lookup f35 = some ⟨oc35, od35, .func (PySem.W.fnOf "table_bits" "table_bits" (defArgs (topS 35)) (defBody (topS 35)) (defScope (topS 35)) .none kV35 dc35 pm35 an35 cd35 ct35), sl35⟩) (k35 : PySem.W.keepIn K (.ref f35) = true) (e35 : PySem.W.codeIn K cd35 "table_bits" = true)
    (a36 : PySem.W.nsIn K mainGlobals "is_least" = some (some (.ref f36))) (l36 : K.lookup f36 = some ⟨oc36, od36, .func (PySem.W.fnOf "is_least" "is_least" (defArgs (topS 36)) (defBody (topS 36)) (defScope (topS 36)) (.ref T36) kV36 dc36 pm36 an36 cd36 ct36), sl36⟩) (k36 : PySem.W.keepIn K (.ref f36) = true) (e36 : PySem.W.codeIn K cd36 "is_least" = true)
    (a37 : PySem.W.nsIn K mainGlobals "by_limits" = some (some (.ref f37))) (l37 : K.lookup f37 = some ⟨oc37, od37, .func (PySem.W.fnOf "by_limits" "by_limits" (defArgs (topS 37)) (defBody (topS 37)) (defScope (topS 37)) .none kV37 dc37 pm37 an37 cd37 ct37), sl37⟩) (k37 : PySem.W.keepIn K (.ref f37) = true) (e37 : PySem.W.codeIn K cd37 "by_limits" = true)
    (a39 : PySem.W.nsIn K mainGlobals "_law_cell_at" = some (some (.ref f39))) (l39 : K.lookup f39 = some ⟨oc39, od39, .func (PySem.W.fnOf "_law_cell_at" "_law_cell_at" (defArgs (topS 39)) (defBody (topS 39)) (defScope (topS 39)) .none kV39 dc39 pm39 an39 cd39 ct39), sl39⟩) (k39 : PySem.W.keepIn K (.ref f39) = true) (e39 : PySem.W.codeIn K cd39 "_law_cell_at" = true)
    (a40 : PySem.W.nsIn K mainGlobals "_law_source_of" = some (some (.ref f40))) (l40 : K.lookup f40 = some ⟨oc40, od40, .func (PySem.W.fnOf "_law_source_of" "_law_source_of" (defArgs (topS 40)) (defBody (topS 40)) (defScope (topS 40)) .none kV40 dc40 pm40 an40 cd40 ct40), sl40⟩) (k40 : PySem.W.keepIn K (.ref f40) = true) (e40 : PySem.W.codeIn K cd40 "_law_source_of" = true)
    (a41 : PySem.W.nsIn K mainGlobals "_law_next" = some (some (.ref f41))) (l41 : K.lookup f41 = some ⟨oc41, od41, .func (PySem.W.fnOf "_law_next" "_law_next" (defArgs (topS 41)) (defBody (topS 41)) (defScope (topS 41)) .none kV41 dc41 pm41 an41 cd41 ct41), sl41⟩) (k41 : PySem.W.keepIn K (.ref f41) = true) (e41 : PySem.W.codeIn K cd41 "_law_next" = true)
    (a42 : PySem.W.nsIn K mainGlobals "_law_one" = some (some (.ref f42))) (l42 : K.lookup f42 = some ⟨oc42, od42, .func (PySem.W.fnOf "_law_one" "_law_one" (defArgs (topS 42)) (defBody (topS 42)) (defScope (topS 42)) .none kV42 dc42 pm42 an42 cd42 ct42), sl42⟩) (k42 : PySem.W.keepIn K (.ref f42) = true) (e42 : PySem.W.codeIn K cd42 "_law_one" = true)
    (a43 : PySem.W.nsIn K mainGlobals "_law_lengths" = some (some (.ref f43))) (l43 : K.lookup f43 = some ⟨oc43, od43, .func (PySem.W.fnOf "_law_lengths" "_law_lengths" (defArgs (topS 43)) (defBody (topS 43)) (defScope (topS 43)) .none kV43 dc43 pm43 an43 cd43 ct43), sl43⟩) (k43 : PySem.W.keepIn K (.ref f43) = true) (e43 : PySem.W.codeIn K cd43 "_law_lengths" = true)
    (a44 : PySem.W.nsIn K mainGlobals "_law_weights" = some (some (.ref f44))) (l44 : K.lookup f44 = some ⟨oc44, od44, .func (PySem.W.fnOf "_law_weights" "_law_weights" (defArgs (topS 44)) (defBody (topS 44)) (defScope (topS 44)) .none kV44 dc44 pm44 an44 cd44 ct44), sl44⟩) (k44 : PySem.W.keepIn K (.ref f44) = true) (e44 : PySem.W.codeIn K cd44 "_law_weights" = true)
    (a45 : PySem.W.nsIn K mainGlobals "_law_free_bits" = some (some (.ref f45))) (l45 : K.lookup f45 = some ⟨oc45, od45, .func (PySem.W.fnOf "_law_free_bits" "_law_free_bits" (defArgs (topS 45)) (defBody (topS 45)) (defScope (topS 45)) .none kV45 dc45 pm45 an45 cd45 ct45), sl45⟩) (k45 : PySem.W.keepIn K (.ref f45) = true) (e45 : PySem.W.codeIn K cd45 "_law_free_bits" = true)
    (a46 : PySem.W.nsIn K mainGlobals "_law_bits_by" = some (some (.ref f46))) (l46 : K.lookup f46 = some ⟨oc46, od46, .func (PySem.W.fnOf "_law_bits_by" "_law_bits_by" (defArgs (topS 46)) (defBody (topS 46)) (defScope (topS 46)) .none kV46 dc46 pm46 an46 cd46 ct46), sl46⟩) (k46 : PySem.W.keepIn K (.ref f46) = true) (e46 : PySem.W.codeIn K cd46 "_law_bits_by" = true)
    (a47 : PySem.W.nsIn K mainGlobals "_law_right" = some (some (.ref f47))) (l47 : K.lookup f47 = some ⟨oc47, od47, .func (PySem.W.fnOf "_law_right" "_law_right" (defArgs (topS 47)) (defBody (topS 47)) (defScope (topS 47)) .none kV47 dc47 pm47 an47 cd47 ct47), sl47⟩) (k47 : PySem.W.keepIn K (.ref f47) = true) (e47 : PySem.W.codeIn K cd47 "_law_right" = true)
    (a48 : PySem.W.nsIn K mainGlobals "law" = some (some (.ref f48))) (l48 : K.lookup f48 = some ⟨oc48, od48, .func (PySem.W.fnOf "law" "law" (defArgs (topS 48)) (defBody (topS 48)) (defScope (topS 48)) .none kV48 dc48 pm48 an48 cd48 ct48), sl48⟩) (k48 : PySem.W.keepIn K (.ref f48) = true) (e48 : PySem.W.codeIn K cd48 "law" = true)
    (lc22 : K.lookup c22 = some ⟨.type "code", dd22, .fields vs22, cs22⟩) (v22 : vs22[11]? = some (.ref P22)) (m22 : P22 ∈ ts) (n22 : K.lookup P22 = none) (w1122 : vs22.getD 11 .none = .ref P22) (w1822 : vs22.getD 18 .none = .str fi22 ft22) (w722 : vs22.getD 7 .none = .int fg22 gt22) (w922 : vs22.getD 9 .none = .bool nb22) (w1022 : vs22.getD 10 .none = .int tx22 xt22) (cp22 : c22 ≠ P22)
    (lc33 : K.lookup c33 = some ⟨.type "code", dd33, .fields vs33, cs33⟩) (v33 : vs33[11]? = some (.ref P33)) (m33 : P33 ∈ ts) (n33 : K.lookup P33 = none) (w1133 : vs33.getD 11 .none = .ref P33) (w1833 : vs33.getD 18 .none = .str fi33 ft33) (w733 : vs33.getD 7 .none = .int fg33 gt33) (w933 : vs33.getD 9 .none = .bool nb33) (w1033 : vs33.getD 10 .none = .int tx33 xt33) (cp33 : c33 ≠ P33)
    (pp : P33 ≠ P22)
    (lT30 : K.lookup T30 = some oT30) (dT30 : oT30.data = .seq #[.int 16 tt30] nn30)
    (lT33 : K.lookup T33 = some oT33) (dT33 : oT33.data = .seq #[.int 16 tt33] nn33)
    (lT36 : K.lookup T36 = some oT36) (dT36 : oT36.data = .seq #[.int 16 tt36] nn36)
    (aL : PySem.W.nsIn K mainGlobals "LONGEST" = some (some (.int 16 tL))) (aW : PySem.W.nsIn K mainGlobals "WHOLE" = some (some (.int 65536 tW))) (aM : PySem.W.nsIn K mainGlobals "MOST_WEIGHT" = some (some (.int 1000000000000000000 tM)))
    (zisinstance : PySem.W.nsIn K mainGlobals "isinstance" = some none) (zlen : PySem.W.nsIn K mainGlobals "len" = some none) (zall : PySem.W.nsIn K mainGlobals "all" = some none) (zsum : PySem.W.nsIn K mainGlobals "sum" = some none) (zenumerate : PySem.W.nsIn K mainGlobals "enumerate" = some none) (zset : PySem.W.nsIn K mainGlobals "set" = some none) (ztuple : PySem.W.nsIn K mainGlobals "tuple" = some none) (zrange : PySem.W.nsIn K mainGlobals "range" = some none) (zsorted : PySem.W.nsIn K mainGlobals "sorted" = some none) (zrepr : PySem.W.nsIn K mainGlobals "repr" = some none) (zint : PySem.W.nsIn K mainGlobals "int" = some none) (zbool : PySem.W.nsIn K mainGlobals "bool" = some none) (zdict : PySem.W.nsIn K mainGlobals "dict" = some none) (zlist : PySem.W.nsIn K mainGlobals "list" = some none) (zmax : PySem.W.nsIn K mainGlobals "max" = some none) (zmin : PySem.W.nsIn K mainGlobals "min" = some none) :
    LamX.LawAtS l w K L2.CX0 8 63 "_law_script" mg fa h := by
  have X0 : Txt mg := ⟨PySem.W.mg_none_of X G zisinstance, PySem.W.mg_none_of X G zlen, PySem.W.mg_none_of X G zall, PySem.W.mg_none_of X G zsum, PySem.W.mg_none_of X G zenumerate, PySem.W.mg_none_of X G zset, PySem.W.mg_none_of X G ztuple, PySem.W.mg_none_of X G zrange, PySem.W.mg_none_of X G zsorted, PySem.W.mg_none_of X G zrepr, PySem.W.mg_none_of X G zint, PySem.W.mg_none_of X G zbool, PySem.W.mg_none_of X G zdict, PySem.W.mg_none_of X G zlist, PySem.W.mg_none_of X G zmax, PySem.W.mg_none_of X G zmin, ⟨_, PySem.W.mg_of X G aL⟩, ⟨_, PySem.W.mg_of X G aW⟩, ⟨_, PySem.W.mg_of X G aM⟩⟩
  have efa : f48 = fa := by
    have := PySem.W.mg_of X G a48
    rw [hfa] at this
    cases this
    rfl
  subst efa
  have F10 : Fun K "is_integer" "is_integer" (topS 10) f10 _ := fun_mk l10 e10 k10
  have b10 : Binds K _ ["value", "low", "high"] [] := F10.binds (fun _ _ _ _ _ _ us hl => match us, hl with | [_, _, _], _ => rfl)
  have F11 : Fun K "are_counts" "are_counts" (topS 11) f11 _ := fun_mk l11 e11 k11
  have b11 : Binds K _ ["value"] [] := F11.binds (fun _ _ _ _ _ _ us hl => match us, hl with | [_], _ => rfl)
  have F12 : Fun K "room_taken" "room_taken" (topS 12) f12 _ := fun_mk l12 e12 k12
  have b12 : Binds K _ ["counts"] [] := F12.binds (fun _ _ _ _ _ _ us hl => match us, hl with | [_], _ => rfl)
  have F13 : Fun K "are_symbols" "are_symbols" (topS 13) f13 _ := fun_mk l13 e13 k13
  have b13 : Binds K _ ["value", "many"] [] := F13.binds (fun _ _ _ _ _ _ us hl => match us, hl with | [_, _], _ => rfl)
  have F14 : Fun K "table_fault" "table_fault" (topS 14) f14 _ := fun_mk l14 e14 k14
  have b14 : Binds K _ ["value"] [] := F14.binds (fun _ _ _ _ _ _ us hl => match us, hl with | [_], _ => rfl)
  have F15 : Fun K "is_table" "is_table" (topS 15) f15 _ := fun_mk l15 e15 k15
  have b15 : Binds K _ ["value"] [] := F15.binds (fun _ _ _ _ _ _ us hl => match us, hl with | [_], _ => rfl)
  have F16 : Fun K "check_table" "check_table" (topS 16) f16 _ := fun_mk l16 e16 k16
  have b16 : Binds K _ ["table"] [] := F16.binds (fun _ _ _ _ _ _ us hl => match us, hl with | [_], _ => rfl)
  have F17 : Fun K "bits_as" "bits_as" (topS 17) f17 _ := fun_mk l17 e17 k17
  have b17 : Binds K _ ["number", "length"] [] := F17.binds (fun _ _ _ _ _ _ us hl => match us, hl with | [_, _], _ => rfl)
  have F18 : Fun K "codes" "codes" (topS 18) f18 _ := fun_mk l18 e18 k18
  have b18 : Binds K _ ["table"] [] := F18.binds (fun _ _ _ _ _ _ us hl => match us, hl with | [_], _ => rfl)
  have F21 : Fun K "is_weight" "is_weight" (topS 21) f21 _ := fun_mk l21 e21 k21
  have b21 : Binds K _ ["symbol", "weight"] [] := F21.binds (fun _ _ _ _ _ _ us hl => match us, hl with | [_, _], _ => rfl)
  have F23 : Fun K "check_limit" "check_limit" (topS 23) f23 _ := fun_mk l23 e23 k23
  have b23 : Binds K _ ["limit"] [] := F23.binds (fun _ _ _ _ _ _ us hl => match us, hl with | [_], _ => rfl)
  have F24 : Fun K "check_room" "check_room" (topS 24) f24 _ := fun_mk l24 e24 k24
  have b24 : Binds K _ ["weights", "limit"] [] := F24.binds (fun _ _ _ _ _ _ us hl => match us, hl with | [_, _], _ => rfl)
  have F25 : Fun K "check_all" "check_all" (topS 25) f25 _ := fun_mk l25 e25 k25
  have b25 : Binds K _ ["weights", "limit"] [] := F25.binds (fun _ _ _ _ _ _ us hl => match us, hl with | [_, _], _ => rfl)
  have F26 : Fun K "coins_of" "coins_of" (topS 26) f26 _ := fun_mk l26 e26 k26
  have b26 : Binds K _ ["weights"] [] := F26.binds (fun _ _ _ _ _ _ us hl => match us, hl with | [_], _ => rfl)
  have F27 : Fun K "pairs_of" "pairs_of" (topS 27) f27 _ := fun_mk l27 e27 k27
  have b27 : Binds K _ ["row"] [] := F27.binds (fun _ _ _ _ _ _ us hl => match us, hl with | [_], _ => rfl)
  have F28 : Fun K "rows_of" "rows_of" (topS 28) f28 _ := fun_mk l28 e28 k28
  have b28 : Binds K _ ["weights", "limit"] [] := F28.binds (fun _ _ _ _ _ _ us hl => match us, hl with | [_, _], _ => rfl)
  have F29 : Fun K "fewest_bits" "fewest_bits" (topS 29) f29 _ := fun_mk l29 e29 k29
  have b29 : Binds K _ ["weights", "limit"] [] := F29.binds (fun _ _ _ _ _ _ us hl => match us, hl with | [_, _], _ => rfl)
  have F31 : Fun K "coins_among" "coins_among" (topS 31) f31 _ := fun_mk l31 e31 k31
  have b31 : Binds K _ ["coins", "pairs", "many"] [] := F31.binds (fun _ _ _ _ _ _ us hl => match us, hl with | [_, _, _], _ => rfl)
  have F32 : Fun K "coins_taken" "coins_taken" (topS 32) f32 _ := fun_mk l32 e32 k32
  have b32 : Binds K _ ["weights", "limit"] [] := F32.binds (fun _ _ _ _ _ _ us hl => match us, hl with | [_, _], _ => rfl)
  have F34 : Fun K "bits_by" "bits_by" (topS 34) f34 _ := fun_mk l34 e34 k34
  have b34 : Binds K _ ["weights", "known"] [] := F34.binds (fun _ _ _ _ _ _ us hl => match us, hl with | [_, _], _ => rfl)
  have F35 : Fun K "table_bits" "table_bits" (topS 35) f35 _ := fun_mk l35 e35 k35
  have b35 : Binds K _ ["weights", "table"] [] := F35.binds (fun _ _ _ _ _ _ us hl => match us, hl with | [_, _], _ => rfl)
  have F37 : Fun K "by_limits" "by_limits" (topS 37) f37 _ := fun_mk l37 e37 k37
  have b37 : Binds K _ ["weights"] [] := F37.binds (fun _ _ _ _ _ _ us hl => match us, hl with | [_], _ => rfl)
  have F39 : Fun K "_law_cell_at" "_law_cell_at" (topS 39) f39 _ := fun_mk l39 e39 k39
  have b39 : Binds K _ ["_law_script", "_law_k"] [] := F39.binds (fun _ _ _ _ _ _ us hl => match us, hl with | [_, _], _ => rfl)
  have F40 : Fun K "_law_source_of" "_law_source_of" (topS 40) f40 _ := fun_mk l40 e40 k40
  have b40 : Binds K _ ["_law_cell"] [] := F40.binds (fun _ _ _ _ _ _ us hl => match us, hl with | [_], _ => rfl)
  have F41 : Fun K "_law_next" "_law_next" (topS 41) f41 _ := fun_mk l41 e41 k41
  have b41 : Binds K _ ["_law_source", "_law_many"] [] := F41.binds (fun _ _ _ _ _ _ us hl => match us, hl with | [_, _], _ => rfl)
  have F42 : Fun K "_law_one" "_law_one" (topS 42) f42 _ := fun_mk l42 e42 k42
  have b42 : Binds K _ ["_law_source", "_law_some"] [] := F42.binds (fun _ _ _ _ _ _ us hl => match us, hl with | [_, _], _ => rfl)
  have F43 : Fun K "_law_lengths" "_law_lengths" (topS 43) f43 _ := fun_mk l43 e43 k43
  have b43 : Binds K _ ["_law_table"] [] := F43.binds (fun _ _ _ _ _ _ us hl => match us, hl with | [_], _ => rfl)
  have F44 : Fun K "_law_weights" "_law_weights" (topS 44) f44 _ := fun_mk l44 e44 k44
  have b44 : Binds K _ ["_law_source"] [] := F44.binds (fun _ _ _ _ _ _ us hl => match us, hl with | [_], _ => rfl)
  have F45 : Fun K "_law_free_bits" "_law_free_bits" (topS 45) f45 _ := fun_mk l45 e45 k45
  have b45 : Binds K _ ["_law_weights_so"] [] := F45.binds (fun _ _ _ _ _ _ us hl => match us, hl with | [_], _ => rfl)
  have F46 : Fun K "_law_bits_by" "_law_bits_by" (topS 46) f46 _ := fun_mk l46 e46 k46
  have b46 : Binds K _ ["_law_weights_so", "_law_limit"] [] := F46.binds (fun _ _ _ _ _ _ us hl => match us, hl with | [_, _], _ => rfl)
  have F47 : Fun K "_law_right" "_law_right" (topS 47) f47 _ := fun_mk l47 e47 k47
  have b47 : Binds K _ ["_law_source"] [] := F47.binds (fun _ _ _ _ _ _ us hl => match us, hl with | [_], _ => rfl)
  have F48 : Fun K "law" "law" (topS 48) f48 _ := fun_mk l48 e48 k48
  have b48 : Binds K _ ["_law_script"] [] := F48.binds (fun _ _ _ _ _ _ us hl => match us, hl with | [_], _ => rfl)
  have D30 : FunD K "least_bits" "least_bits" (defArgs (topS 30)) (defBody (topS 30)) (defScope (topS 30)) [.int 16] [] f30 _ := ⟨⟨_, _, _, _, _, _, _, _, _, _, rfl, l30, e30, .inr ⟨by simp, T30, oT30, [.int 16 tt30], nn30, rfl, lT30, dT30, .cons ⟨_, rfl⟩ .nil⟩, .inl rfl⟩, k30⟩
  have D33 : FunD K "least_table" "least_table" (defArgs (topS 33)) (defBody (topS 33)) (defScope (topS 33)) [.int 16] [] f33 _ := ⟨⟨_, _, _, _, _, _, _, _, _, _, rfl, l33, e33, .inr ⟨by simp, T33, oT33, [.int 16 tt33], nn33, rfl, lT33, dT33, .cons ⟨_, rfl⟩ .nil⟩, .inl rfl⟩, k33⟩
  have D36 : FunD K "is_least" "is_least" (defArgs (topS 36)) (defBody (topS 36)) (defScope (topS 36)) [.int 16] [] f36 _ := ⟨⟨_, _, _, _, _, _, _, _, _, _, rfl, l36, e36, .inr ⟨by simp, T36, oT36, [.int 16 tt36], nn36, rfl, lT36, dT36, .cons ⟨_, rfl⟩ .nil⟩, .inl rfl⟩, k36⟩
  have C22 : FunC K "check_weights" "check_weights" (topS 22) c22 f22 _ := ⟨⟨_, _, _, _, _, _, _, _, _, rfl, l22, e22⟩⟩
  have C33 : FunC K "least_table" "least_table" (topS 33) c33 f33 _ := ⟨⟨_, _, _, _, _, _, _, _, _, rfl, l33, e33⟩⟩
  have b22 : Binds K (PySem.W.fnOf "check_weights" "check_weights" (defArgs (topS 22)) (defBody (topS 22)) (defScope (topS 22)) .none kV22 dc22 pm22 an22 (.ref c22) ct22) ["weights"] [] := .all (fun us hl => match us, hl with | [_], _ => rfl)
  obtain ⟨ds30, r30, b30⟩ := FunD.binds1 (ps := ["weights", "limit"]) D30 2 1 (by simp) rfl (fun _ _ _ _ _ _ _ us its h1 h2 => match us, its, h1, h2 with | [_, _], [_], _, _ => ⟨_, rfl, rfl⟩)
  cases (show Vals [] ds30 from r30)
  obtain ⟨ds33, r33, b33⟩ := FunD.binds1 (ps := ["weights", "limit"]) D33 2 1 (by simp) rfl (fun _ _ _ _ _ _ _ us its h1 h2 => match us, its, h1, h2 with | [_, _], [_], _, _ => ⟨_, rfl, rfl⟩)
  cases (show Vals [] ds33 from r33)
  obtain ⟨ds36, r36, b36⟩ := FunD.binds1 (ps := ["weights", "table", "limit"]) D36 3 1 (by simp) rfl (fun _ _ _ _ _ _ _ us its h1 h2 => match us, its, h1, h2 with | [_, _, _], [_], _, _ => ⟨_, rfl, rfl⟩)
  cases (show Vals [] ds36 from r36)
  obtain ⟨es30, q30, d30⟩ := FunD.binds1 (ps := ["weights", "limit"]) D30 1 0 (by simp) rfl (fun _ _ _ _ _ _ _ us its h1 h2 => match us, its, h1, h2 with | [_], [_], _, _ => ⟨_, rfl, rfl⟩)
  have q30 : Vals [.int 16] es30 := q30
  obtain ⟨es33, q33, d33⟩ := FunD.binds1 (ps := ["weights", "limit"]) D33 1 0 (by simp) rfl (fun _ _ _ _ _ _ _ us its h1 h2 => match us, its, h1, h2 with | [_], [_], _, _ => ⟨_, rfl, rfl⟩)
  have q33 : Vals [.int 16] es33 := q33
  have g10 := PySem.W.mg_of X G a10
  have g11 := PySem.W.mg_of X G a11
  have g12 := PySem.W.mg_of X G a12
  have g13 := PySem.W.mg_of X G a13
  have g14 := PySem.W.mg_of X G a14
  have g15 := PySem.W.mg_of X G a15
  have g16 := PySem.W.mg_of X G a16
  have g17 := PySem.W.mg_of X G a17
  have g18 := PySem.W.mg_of X G a18
  have g21 := PySem.W.mg_of X G a21
  have g22 := PySem.W.mg_of X G a22
  have g23 := PySem.W.mg_of X G a23
  have g24 := PySem.W.mg_of X G a24
  have g25 := PySem.W.mg_of X G a25
  have g26 := PySem.W.mg_of X G a26
  have g27 := PySem.W.mg_of X G a27
  have g28 := PySem.W.mg_of X G a28
  have g29 := PySem.W.mg_of X G a29
  have g30 := PySem.W.mg_of X G a30
  have g31 := PySem.W.mg_of X G a31
  have g32 := PySem.W.mg_of X G a32
  have g33 := PySem.W.mg_of X G a33
  have g34 := PySem.W.mg_of X G a34
  have g35 := PySem.W.mg_of X G a35
  have g36 := PySem.W.mg_of X G a36
  have g37 := PySem.W.mg_of X G a37
  have g39 := PySem.W.mg_of X G a39
  have g40 := PySem.W.mg_of X G a40
  have g41 := PySem.W.mg_of X G a41
  have g42 := PySem.W.mg_of X G a42
  have g43 := PySem.W.mg_of X G a43
  have g44 := PySem.W.mg_of X G a44
  have g45 := PySem.W.mg_of X G a45
  have g46 := PySem.W.mg_of X G a46
  have g47 := PySem.W.mg_of X G a47
  have g48 := PySem.W.mg_of X G a48
  have bk37 : KBinds K (PySem.W.fnOf "by_limits" "by_limits" (defArgs (topS 37)) (defBody (topS 37)) (defScope (topS 37)) .none kV37 dc37 pm37 an37 cd37 ct37) ["weights"] ["weights"] (fun us ws => us ++ ws) (fun us ws => us ++ ws) :=
    ⟨fun s us ws _ hl => match us, ws, hl with
      | [u], [], _ => .of_eq rfl
      | [], [u], _ => .of_eq rfl, fun r z => r.append z⟩
  refine ⟨PySem.W.fnOf "law" "law" (defArgs (topS 48)) (defBody (topS 48)) (defScope (topS 48)) .none kV48 dc48 pm48 an48 cd48 ct48, [(c22, P22), (c33, P33)], spLaw K [(P22, "check_weights.<locals>.<lambda>"), (P33, "least_table.<locals>.<lambda>")], ?_, ?_, ?_, ?_, ?_, ?_⟩
  · intro p hp
    simp only [List.mem_cons, List.not_mem_nil, or_false] at hp
    rcases hp with rfl | rfl
    · exact ht _ m22
    · exact ht _ m33
  · intro p hp
    simp only [List.mem_cons, List.not_mem_nil, or_false] at hp
    rcases hp with rfl | rfl
    · exact n22
    · exact n33
  · intro p hp
    simp only [List.mem_cons, List.not_mem_nil, or_false] at hp
    rcases hp with rfl | rfl
    · exact ⟨_, vs22, _, _, _, _, _, _, _, X _ _ lc22, rfl, rfl, v22, w1122, w1822, w722, w922, w1022, cp22⟩
    · exact ⟨_, vs33, _, _, _, _, _, _, _, X _ _ lc33, rfl, rfl, v33, w1133, w1833, w733, w933, w1033, cp33⟩
  · exact fun s u => .of_eq rfl
  · intro H a ns _ _ hT hS
    refine ⟨a, ns, rfl, hS, fun p hp => ?_, fun _ => rfl⟩
    simp only [List.mem_cons, List.not_mem_nil, or_false] at hp
    rcases hp with rfl | rfl
    · exact LamX.TabS.nil (hT (c22, P22) (by simp))
    · exact LamX.TabS.nil (hT (c33, P33) (by simp))
  · intro base KB NB TBs
    have B22 : LamX.TabB base mg c22 P22 := TBs (c22, P22) (by simp)
    have B33 : LamX.TabB base mg c33 P33 := TBs (c33, P33) (by simp)
    let T : List (Addr × Str) := [(P22, "check_weights.<locals>.<lambda>"), (P33, "least_table.<locals>.<lambda>")]
    have hm22 : (P22, ("check_weights.<locals>.<lambda>" : Str)) ∈ T := by simp [T]
    have hm33 : (P33, ("least_table.<locals>.<lambda>" : Str)) ∈ T := by simp [T]
    have hu22 : ∀ q ∈ T, q.1 = P22 → q.2 = "check_weights.<locals>.<lambda>" := fun q hq e => by
      rcases List.mem_cons.mp hq with z | z
      · rw [z]
      · have z := List.mem_singleton.mp z
        rw [z] at e
        exact absurd e pp
    have hu33 : ∀ q ∈ T, q.1 = P33 → q.2 = "least_table.<locals>.<lambda>" := fun q hq e => by
      rcases List.mem_cons.mp hq with z | z
      · rw [z] at e
        exact absurd e.symm pp
      · have z := List.mem_singleton.mp z
        rw [z]
    have G10 := ok_isInt (P := l.prog) (w := w) (base := base) F10 X0
    have G11 := ok_areC (P := l.prog) (w := w) (base := base) F11 X0 F10 b10 g10 F12 b12 g12
    have G13 := ok_areS (P := l.prog) (w := w) (base := base) F13 X0 F10 b10 g10
    have G14 := ok_fault (P := l.prog) (w := w) (base := base) F14 X0 G11 b11 k11 g11 G13 b13 k13 g13
    have G15 := ok_isTab F15 G14 b14 k14 g14
    have G16 := ok_chkT F16 G14 b14 k14 g14
    have G17 := ok_bits (P := l.prog) (w := w) (base := base) F17 X0
    have G18 := ok_codes F18 X0 G16 b16 k16 g16 G17 b17 k17 g17
    have G21 := ok_isW (P := l.prog) (w := w) (base := base) F21 X0 F10 b10 g10
    have G22 := ok_chkW (T := T) C22 X0 B22 hm22 hu22 G21 b21 k21 g21
    have G23 := ok_chkL (P := l.prog) (w := w) (base := base) F23 X0 F10 b10 g10
    have G24 := ok_chkR (P := l.prog) (w := w) (base := base) F24 X0
    have G25 := ok_chkA F25 G22 b22 k22 g22 G23 b23 k23 g23 G24 b24 k24 g24
    have G26 := ok_coins (P := l.prog) (w := w) (base := base) F26 X0
    have G27 := ok_pairs (P := l.prog) (w := w) (base := base) F27 X0
    have G28 := ok_rows F28 X0 G26 b26 k26 g26 G27 b27 k27 g27
    have G29 := ok_few F29 X0 G28 b28 k28 g28
    have G30 := ok_lb D30 G25 b25 k25 g25 G29 b29 k29 g29
    have G31 := ok_among (P := l.prog) (w := w) (base := base) F31 X0
    have G32 := ok_taken F32 X0 G26 b26 k26 g26 G28 b28 k28 g28 G31 b31 k31 g31 G27 b27 k27 g27
    have G33 := ok_lt (T := T) C33 X0 B33 hm33 hu33 G25 b25 k25 g25 G32 b32 k32 g32
    have G34 := ok_by (P := l.prog) (w := w) (base := base) F34 X0
    have G35 := ok_tb F35 G22 b22 k22 g22 G18 b18 k18 g18 G34 b34 k34 g34
    have G36 := ok_il D36 X0 G22 b22 k22 g22 G16 b16 k16 g16 G23 b23 k23 g23 G24 b24 k24 g24 G18 b18 k18 g18 G34 b34 k34 g34 G29 b29 k29 g29
    have G37 := ok_bl F37 X0 G22 b22 k22 g22 G29 b29 k29 g29
    have G39 := ok_cell (P := l.prog) (w := w) (base := base) F39 X0
    have G40 := ok_src (P := l.prog) (w := w) (base := base) F40 X0
    have G41 := ok_next (P := l.prog) (w := w) (base := base) F41 X0
    have G42 := ok_one F42 X0 G41 b41 k41 g41
    have G43 := ok_len (P := l.prog) (w := w) (base := base) F43 X0
    have G44 := ok_lw F44 X0 G41 b41 k41 g41 G42 b42 k42 g42
    have G45 := ok_free (P := l.prog) (w := w) (base := base) F45 X0
    have G46 := ok_lby (P := l.prog) (w := w) (base := base) F46 X0
    have G47 := ok_rt F47 X0 ⟨G44, b44, k44, g44⟩ ⟨G45, b45, k45, g45⟩ ⟨G46, b46, k46, g46⟩ ⟨G37, b37, k37, g37⟩ bk37 ⟨G42, b42, k42, g42⟩ ⟨G41, b41, k41, g41⟩ ⟨G33, b33, k33, g33⟩ ⟨G43, b43, k43, g43⟩ ⟨G15, b15, k15, g15⟩ ⟨G30, b30, k30, g30⟩ q30 d30 ⟨G35, b35, k35, g35⟩ ⟨G36, b36, k36, g36⟩
    exact ok_law F48 X0 ⟨G37, b37, k37, g37⟩ ⟨G33, b33, k33, g33⟩ q33 d33 ⟨G47, b47, k47, g47⟩ ⟨G40, b40, k40, g40⟩ ⟨G39, b39, k39, g39⟩
end K23
open PySem PySem.W PyProof.Rows
set_option Elab.async false
set_option linter.all false
set_option maxRecDepth 100000
set_option maxHeartbeats 0 in
theorem PySem.Challenge.cw_blockpics_k23_whole_least_tables_of_many_holds : PySem.Challenge.rw_blockpics_k23_whole_least_tables_of_many.Holds := by
  w_on; o_law; k_head; (case hw => w_witness2)
  k_fill
  refine LamX.walk_ofTs (l := PySem.Challenge.rw_blockpics_k23_whole_least_tables_of_many) (n := 63) (k := 8) (x := "_law_script") (CX := fun _ => L2.CX0) rfl (by decide) rfl ⟨rfl, by decide, by decide⟩ (fun w h Y => PySem.W.km_in_of Y) ?F (fun _ _ _ _ _ h => h)
  case F =>
    intro w mg fa h Y KX G hmg
    have ht := PySem.W.km_tabs_of Y
    refine' K23.all_mk KX G hmg ht ?a10 ?l10 ?k10 ?e10 ?a11 ?l11 ?k11 ?e11 ?a12 ?l12 ?k12 ?e12 ?a13 ?l13 ?k13 ?e13 ?a14 ?l14 ?k14 ?e14 ?a15 ?l15 ?k15 ?e15 ?a16 ?l16 ?k16 ?e16 ?a17 ?l17 ?k17 ?e17 ?a18 ?l18 ?k18 ?e18 ?a21 ?l21 ?k21 ?e21 ?a22 ?l22 ?k22 ?e22 ?a23 ?l23 ?k23 ?e23 ?a24 ?l24 ?k24 ?e24 ?a25 ?l25 ?k25 ?e25 ?a26 ?l26 ?k26 ?e26 ?a27 ?l27 ?k27 ?e27 ?a28 ?l28 ?k28 ?e28 ?a29 ?l29 ?k29 ?e29 ?a30 ?l30 ?k30 ?e30 ?a31 ?l31 ?k31 ?e31 ?a32 ?l32 ?k32 ?e32 ?a33 ?l33 ?k33 ?e33 ?a34 ?l34 ?k34 ?e34 ?a35 ?l35 ?k35 ?e35 ?a36 ?l36 ?k36 ?e36 ?a37 ?l37 ?k37 ?e37 ?a39 ?l39 ?k39 ?e39 ?a40 ?l40 ?k40 ?e40 ?a41 ?l41 ?k41 ?e41 ?a42 ?l42 ?k42 ?e42 ?a43 ?l43 ?k43 ?e43 ?a44 ?l44 ?k44 ?e44 ?a45 ?l45 ?k45 ?e45 ?a46 ?l46 ?k46 ?e46 ?a47 ?l47 ?k47 ?e47 ?a48 ?l48 ?k48 ?e48 ?lc22 ?v22 ?m22 ?n22 ?w1122 ?w1822 ?w722 ?w922 ?w1022 ?cp22 ?lc33 ?v33 ?m33 ?n33 ?w1133 ?w1833 ?w733 ?w933 ?w1033 ?cp33 ?pp ?lT30 ?dT30 ?lT33 ?dT33 ?lT36 ?dT36 ?aL ?aW ?aM ?zisinstance ?zlen ?zall ?zsum ?zenumerate ?zset ?ztuple ?zrange ?zsorted ?zrepr ?zint ?zbool ?zdict ?zlist ?zmax ?zmin
    (case a10 => k_is)
    (case l10 => k_is)
    (case k10 => k_is)
    (case e10 => k_is)
    (case a11 => k_is)
    (case l11 => k_is)
    (case k11 => k_is)
    (case e11 => k_is)
    (case a12 => k_is)
    (case l12 => k_is)
    (case k12 => k_is)
    (case e12 => k_is)
    (case a13 => k_is)
    (case l13 => k_is)
    (case k13 => k_is)
    (case e13 => k_is)
    (case a14 => k_is)
    (case l14 => k_is)
    (case k14 => k_is)
    (case e14 => k_is)
    (case a15 => k_is)
    (case l15 => k_is)
    (case k15 => k_is)
    (case e15 => k_is)
    (case a16 => k_is)
    (case l16 => k_is)
    (case k16 => k_is)
    (case e16 => k_is)
    (case a17 => k_is)
    (case l17 => k_is)
    (case k17 => k_is)
    (case e17 => k_is)
    (case a18 => k_is)
    (case l18 => k_is)
    (case k18 => k_is)
    (case e18 => k_is)
    (case a21 => k_is)
    (case l21 => k_is)
    (case k21 => k_is)
    (case e21 => k_is)
    (case a22 => k_is)
    (case l22 => k_is)
    (case k22 => k_is)
    (case e22 => k_is)
    (case a23 => k_is)
    (case l23 => k_is)
    (case k23 => k_is)
    (case e23 => k_is)
    (case a24 => k_is)
    (case l24 => k_is)
    (case k24 => k_is)
    (case e24 => k_is)
    (case a25 => k_is)
    (case l25 => k_is)
    (case k25 => k_is)
    (case e25 => k_is)
    (case a26 => k_is)
    (case l26 => k_is)
    (case k26 => k_is)
    (case e26 => k_is)
    (case a27 => k_is)
    (case l27 => k_is)
    (case k27 => k_is)
    (case e27 => k_is)
    (case a28 => k_is)
    (case l28 => k_is)
    (case k28 => k_is)
    (case e28 => k_is)
    (case a29 => k_is)
    (case l29 => k_is)
    (case k29 => k_is)
    (case e29 => k_is)
    (case a30 => k_is)
    (case l30 => k_is)
    (case k30 => k_is)
    (case e30 => k_is)
    (case a31 => k_is)
    (case l31 => k_is)
    (case k31 => k_is)
    (case e31 => k_is)
    (case a32 => k_is)
    (case l32 => k_is)
    (case k32 => k_is)
    (case e32 => k_is)
    (case a33 => k_is)
    (case l33 => k_is)
    (case k33 => k_is)
    (case e33 => k_is)
    (case a34 => k_is)
    (case l34 => k_is)
    (case k34 => k_is)
    (case e34 => k_is)
    (case a35 => k_is)
    (case l35 => k_is)
    (case k35 => k_is)
    (case e35 => k_is)
    (case a36 => k_is)
    (case l36 => k_is)
    (case k36 => k_is)
    (case e36 => k_is)
    (case a37 => k_is)
    (case l37 => k_is)
    (case k37 => k_is)
    (case e37 => k_is)
    (case a39 => k_is)
    (case l39 => k_is)
    (case k39 => k_is)
    (case e39 => k_is)
    (case a40 => k_is)
    (case l40 => k_is)
    (case k40 => k_is)
    (case e40 => k_is)
    (case a41 => k_is)
    (case l41 => k_is)
    (case k41 => k_is)
    (case e41 => k_is)
    (case a42 => k_is)
    (case l42 => k_is)
    (case k42 => k_is)
    (case e42 => k_is)
    (case a43 => k_is)
    (case l43 => k_is)
    (case k43 => k_is)
    (case e43 => k_is)
    (case a44 => k_is)
    (case l44 => k_is)
    (case k44 => k_is)
    (case e44 => k_is)
    (case a45 => k_is)
    (case l45 => k_is)
    (case k45 => k_is)
    (case e45 => k_is)
    (case a46 => k_is)
    (case l46 => k_is)
    (case k46 => k_is)
    (case e46 => k_is)
    (case a47 => k_is)
    (case l47 => k_is)
    (case k47 => k_is)
    (case e47 => k_is)
    (case a48 => k_is)
    (case l48 => k_is)
    (case k48 => k_is)
    (case e48 => k_is)
    (case lc22 => k_is)
    (case v22 => rfl)
    (case m22 => decide)
    (case n22 => rfl)
    (case w1122 => rfl)
    (case w1822 => rfl)
    (case w722 => rfl)
    (case w922 => rfl)
    (case w1022 => rfl)
    (case cp22 => decide)
    (case lc33 => k_is)
    (case v33 => rfl)
    (case m33 => decide)
    (case n33 => rfl)
    (case w1133 => rfl)
    (case w1833 => rfl)
    (case w733 => rfl)
    (case w933 => rfl)
    (case w1033 => rfl)
    (case cp33 => decide)
    (case pp => decide)
    (case lT30 => k_is)
    (case dT30 => rfl)
    (case lT33 => k_is)
    (case dT33 => rfl)
    (case lT36 => k_is)
    (case dT36 => rfl)
    (case aL => k_is)
    (case aW => k_is)
    (case aM => k_is)
    (case zisinstance => k_is)
    (case zlen => k_is)
    (case zall => k_is)
    (case zsum => k_is)
    (case zenumerate => k_is)
    (case zset => k_is)
    (case ztuple => k_is)
    (case zrange => k_is)
    (case zsorted => k_is)
    (case zrepr => k_is)
    (case zint => k_is)
    (case zbool => k_is)
    (case zdict => k_is)
    (case zlist => k_is)
    (case zmax => k_is)
    (case zmin => k_is)
