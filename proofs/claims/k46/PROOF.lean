import PyProof.Rows.All
import Wide.All
import OpenK.AllK
import Wide.FinOn
import PySem.Challenge.RW_surecounts_k46_whole_greatest_joins
import HandS.GenList
import HandS.SlotsOwn
import HandS.ForMost
import HandS.Zip
import HandS.Star
import KE.KDictZip
import HandS.ForExc
import HandS.SortKw
import HandS.Codes
import KE.DatumOrd
import HandS.ExcSuper
import KE.KExcSuper
import HandS.IsInst
import HandS.Evl
import HandS.GenYield
import HandS.TupMul
import HandS.TupAny
import HandS.Style
import KE.KRevSl
import PyProof.MeetsIn
import HandS.Deep
import HandS.Defaults
import KE.KExcLine
import KE.RegKSuper
set_option Elab.async false
section
/-! K46: the plain law of greatest_join and least_join over spreads of at most four values. -/
namespace K46
/-- steep heights: d values, `left` rows more than one each -/
def steepGo (most : Option Nat) : Nat → Nat → List Nat
  | 0, _ => []
  | d + 1, left =>
    (1 + (match most with | none => left | some m => min left (m - 1))) :: steepGo most d (left - (match most with | none => left | some m => min left (m - 1)))
def steep (rows d : Nat) (most : Option Nat) : List Nat := steepGo most d (rows - d)
def zeros (n : Nat) : List Nat := List.replicate n 0
def forced (rows free : Nat) (most : Option Nat) (common : Nat) : Nat :=
  match most with
  | none => if free > 0 then common else rows
  | some m => max common (rows - free * m)
def apart (n r1 d1 r2 d2 : Nat) (m1 m2 : Option Nat) : List Nat × List Nat :=
  if d1 + d2 - n = 0 then (steep r1 d1 m1 ++ zeros (n - d1), zeros (n - d2) ++ steep r2 d2 m2) else
  (steep (forced r1 (n - d2) m1 (d1 + d2 - n)) (d1 + d2 - n) m1 ++ steep (r1 - forced r1 (n - d2) m1 (d1 + d2 - n)) (n - d2) m1 ++ zeros (n - d1),
   (steep (forced r2 (n - d1) m2 (d1 + d2 - n)) (d1 + d2 - n) m2).reverse ++ zeros (n - d2) ++ steep (r2 - forced r2 (n - d1) m2 (d1 + d2 - n)) (n - d1) m2)
def dot : List Nat → List Nat → Nat
  | x :: xs, y :: ys => x * y + dot xs ys
  | _, _ => 0
def kinds : List Nat → Nat
  | [] => 0
  | x :: xs => (if 0 < x then 1 else 0) + kinds xs
def splits : Nat → Nat → List (List Nat)
  | _, 0 => [[]]
  | t, n + 1 => (List.range (t + 1)).flatMap fun f => (splits (t - f) n).map (f :: ·)
def sortedD : List Nat → Bool
  | x :: y :: r => decide (y ≤ x) && sortedD (y :: r)
  | _ => true
def under (m : Option Nat) (h : List Nat) : Bool := match m with | none => true | some m => h.all fun x => decide (x ≤ m)
def mosts : List (Option Nat) := [none, some 1, some 2, some 3]

/-! ### splits -/
theorem mem_splits : ∀ {n t : Nat} {h : List Nat}, h ∈ splits t n ↔ h.length = n ∧ h.sum ≤ t
  | 0, t, h => by
    simp only [splits, List.mem_singleton]
    constructor
    · rintro rfl
      simp
    · rintro ⟨e, _⟩
      exact List.length_eq_zero_iff.mp e
  | n + 1, t, h => by
    simp only [splits, List.mem_flatMap, List.mem_range, List.mem_map]
    constructor
    · rintro ⟨f, hf, r, hr, rfl⟩
      obtain ⟨e1, e2⟩ := mem_splits.mp hr
      simp only [List.length_cons, List.sum_cons]
      omega
    · rintro ⟨e1, e2⟩
      cases h with
      | nil => simp at e1
      | cons x r =>
        simp only [List.length_cons, List.sum_cons] at e1 e2
        exact ⟨x, by omega, r, mem_splits.mpr ⟨by omega, by omega⟩, rfl⟩

/-! ### the spread -/
structure Tl where
  n : Nat
  r0 : Nat
  r1 : Nat
  d0 : Nat
  d1 : Nat
  most : Option Nat
def Fits (T : Tl) (h : List Nat) : Prop :=
  h.length = T.n ∧ T.r0 ≤ h.sum ∧ h.sum ≤ T.r1 ∧ T.d0 ≤ kinds h ∧ kinds h ≤ T.d1 ∧ under T.most h = true
instance (T : Tl) (h : List Nat) : Decidable (Fits T h) := by unfold Fits; infer_instance
/-- greatest rows of so many different values -/
def hiOf (r1 : Nat) (m : Option Nat) (d : Nat) : Nat :=
  if d = 0 then min (match m with | none => r1 | some m => min r1 (d * m)) 0 else match m with | none => r1 | some m => min r1 (d * m)
def pairAt (T : Tl) (d : Nat) : List (Nat × Nat × Nat) := if max T.r0 d ≤ hiOf T.r1 T.most d then [(d, max T.r0 d, hiOf T.r1 T.most d)] else []
def pairs (T : Tl) : List (Nat × Nat × Nat) := (List.range (min T.d1 T.n + 1 - T.d0)).flatMap fun i => pairAt T (T.d0 + i)
theorem mem_pairs {T : Tl} {d lo hi : Nat} : (d, lo, hi) ∈ pairs T ↔ T.d0 ≤ d ∧ d ≤ T.d1 ∧ d ≤ T.n ∧ lo = max T.r0 d ∧ hi = hiOf T.r1 T.most d ∧ lo ≤ hi := by
  unfold pairs pairAt
  simp only [List.mem_flatMap, List.mem_range]
  constructor
  · rintro ⟨i, hi', hm⟩
    split at hm
    · rename_i hle
      simp only [List.mem_singleton, Prod.mk.injEq] at hm
      obtain ⟨rfl, rfl, rfl⟩ := hm
      refine ⟨by omega, by omega, by omega, rfl, rfl, hle⟩
    · simp at hm
  · rintro ⟨h1, h2, h3, rfl, rfl, h4⟩
    refine ⟨d - T.d0, by omega, ?_⟩
    rw [show T.d0 + (d - T.d0) = d by omega, if_pos h4]
    simp
theorem hiOf_zero (r1 : Nat) (m : Option Nat) : hiOf r1 m 0 = 0 := by
  unfold hiOf
  rw [if_pos rfl]
  exact Nat.min_zero _
theorem hiOf_none {r1 d : Nat} (h : 0 < d) : hiOf r1 none d = r1 := by
  unfold hiOf
  rw [if_neg (by omega)]
theorem hiOf_some {r1 d m : Nat} (h : 0 < d) : hiOf r1 (some m) d = min r1 (d * m) := by
  unfold hiOf
  rw [if_neg (by omega)]
theorem under_some {m : Nat} {h : List Nat} : under (some m) h = true ↔ ∀ x ∈ h, x ≤ m := by
  unfold under
  simp
theorem kinds_le_sum : ∀ h : List Nat, kinds h ≤ h.sum
  | [] => Nat.le_refl _
  | x :: r => by
    have := kinds_le_sum r
    simp only [kinds, List.sum_cons]
    split <;> omega
theorem kinds_le_length : ∀ h : List Nat, kinds h ≤ h.length
  | [] => Nat.le_refl _
  | x :: r => by
    have := kinds_le_length r
    simp only [kinds, List.length_cons]
    split <;> omega
theorem sum_of_kinds_zero : ∀ h : List Nat, kinds h = 0 → h.sum = 0
  | [], _ => rfl
  | x :: r, e => by
    simp only [kinds] at e
    have := sum_of_kinds_zero r (by omega)
    simp only [List.sum_cons]
    split at e <;> omega
theorem sum_le_kinds_mul {m : Nat} : ∀ h : List Nat, (∀ x ∈ h, x ≤ m) → h.sum ≤ kinds h * m
  | [], _ => Nat.zero_le _
  | x :: r, e => by
    have ih := sum_le_kinds_mul r fun y hy => e y (List.mem_cons_of_mem _ hy)
    have hx := e x List.mem_cons_self
    simp only [kinds, List.sum_cons]
    split
    · rw [Nat.add_mul, Nat.one_mul]
      omega
    · rw [Nat.zero_add]
      omega
/-- heights that fit are of a possible pair -/
theorem pair_of {T : Tl} {h : List Nat} (f : Fits T h) : (kinds h, max T.r0 (kinds h), hiOf T.r1 T.most (kinds h)) ∈ pairs T ∧ max T.r0 (kinds h) ≤ h.sum ∧ h.sum ≤ hiOf T.r1 T.most (kinds h) := by
  obtain ⟨e1, e2, e3, e4, e5, e6⟩ := f
  have k1 := kinds_le_sum h
  have k2 := kinds_le_length h
  have hs : h.sum ≤ hiOf T.r1 T.most (kinds h) := by
    by_cases k0 : kinds h = 0
    · rw [sum_of_kinds_zero h k0]
      exact Nat.zero_le _
    · cases em : T.most with
      | none =>
        rw [hiOf_none (by omega)]
        exact e3
      | some m =>
        rw [em] at e6
        have := sum_le_kinds_mul h (under_some.mp e6)
        rw [hiOf_some (by omega)]
        omega
  refine ⟨mem_pairs.mpr ⟨e4, e5, by omega, rfl, rfl, by omega⟩, by omega, hs⟩

/-! ### sums of the first few -/
def pre (k : Nat) (h : List Nat) : Nat := (h.take k).sum
theorem pre_zero (h : List Nat) : pre 0 h = 0 := rfl
theorem pre_cons (k x : Nat) (h : List Nat) : pre (k + 1) (x :: h) = x + pre k h := by
  unfold pre
  rw [List.take_succ_cons, List.sum_cons]
theorem pre_nil (k : Nat) : pre k [] = 0 := by
  unfold pre
  simp
theorem pre_le_sum : ∀ (k : Nat) (h : List Nat), pre k h ≤ h.sum
  | 0, h => Nat.zero_le _
  | k + 1, [] => by rw [pre_nil]; exact Nat.zero_le _
  | k + 1, x :: r => by
    have := pre_le_sum k r
    rw [pre_cons, List.sum_cons]
    omega
theorem pre_all : ∀ (k : Nat) (h : List Nat), h.length ≤ k → pre k h = h.sum
  | k, [], _ => by rw [pre_nil]; rfl
  | 0, x :: r, e => by simp at e
  | k + 1, x :: r, e => by
    rw [pre_cons, List.sum_cons, pre_all k r (by simpa using e)]
/-- the others have one row each -/
theorem pre_kinds : ∀ (k : Nat) (h : List Nat), pre k h + kinds h ≤ h.sum + k
  | 0, h => by
    have := kinds_le_sum h
    rw [pre_zero]
    omega
  | k + 1, [] => by
    rw [pre_nil]
    simp [kinds]
  | k + 1, x :: r => by
    have := pre_kinds k r
    rw [pre_cons, List.sum_cons]
    simp only [kinds]
    split <;> omega
theorem pre_mul {m : Nat} : ∀ (k : Nat) (h : List Nat), (∀ x ∈ h, x ≤ m) → pre k h ≤ k * m
  | 0, h, _ => by rw [pre_zero]; exact Nat.zero_le _
  | k + 1, [], _ => by rw [pre_nil]; exact Nat.zero_le _
  | k + 1, x :: r, e => by
    have ih := pre_mul k r fun y hy => e y (List.mem_cons_of_mem _ hy)
    have hx := e x List.mem_cons_self
    rw [pre_cons, Nat.add_mul, Nat.one_mul]
    omega
theorem pre_append : ∀ (k : Nat) (a b : List Nat), k ≤ a.length → pre k (a ++ b) = pre k a
  | 0, _, _, _ => rfl
  | k + 1, [], _, e => by simp at e
  | k + 1, x :: a, b, e => by
    rw [List.cons_append, pre_cons, pre_cons, pre_append k a b (by simpa using e)]
/-- sums by parts -/
theorem abel : ∀ (a b c : List Nat) (e : Nat), a.length = b.length → b.length = c.length → sortedD a = true → (∀ k, pre k b ≤ pre k c + e) → dot a b ≤ dot a c + e * a.headD 0
  | [], _, _, e, _, _, _, _ => by simp [dot]
  | x :: a, [], _, _, h, _, _, _ => by simp at h
  | x :: a, y :: b, [], _, _, h, _, _ => by simp at h
  | x :: a, y :: b, z :: c, e, h1, h2, hs, hp => by
    have p1 := hp 1
    rw [pre_cons, pre_cons, pre_zero, pre_zero] at p1
    have hs' : sortedD a = true ∧ a.headD 0 ≤ x := by
      cases a with
      | nil => exact ⟨rfl, Nat.zero_le _⟩
      | cons w a =>
        simp only [sortedD, Bool.and_eq_true, decide_eq_true_eq] at hs
        exact ⟨hs.2, hs.1⟩
    have ih := abel a b c (z + e - y) (by simpa using h1) (by simpa using h2) hs'.1 fun k => by
      have := hp (k + 1)
      rw [pre_cons, pre_cons] at this
      omega
    simp only [dot, List.headD_cons]
    have m1 : (z + e - y) * a.headD 0 ≤ (z + e - y) * x := Nat.mul_le_mul_left _ hs'.2
    have m2 : x * y + (z + e - y) * x = x * z + e * x := by
      rw [Nat.mul_comm _ x, ← Nat.mul_add, Nat.mul_comm e x, ← Nat.mul_add]
      congr 1
      omega
    omega
theorem dot_comm : ∀ a b : List Nat, dot a b = dot b a
  | [], [] => rfl
  | [], _ :: _ => rfl
  | _ :: _, [] => rfl
  | x :: a, y :: b => by
    simp only [dot]
    rw [dot_comm a b, Nat.mul_comm]

/-! ### steep heights -/
theorem steepGo_length (m : Option Nat) : ∀ d l : Nat, (steepGo m d l).length = d
  | 0, _ => rfl
  | d + 1, l => by
    simp only [steepGo, List.length_cons]
    rw [steepGo_length m d]
theorem steepGo_pos (m : Option Nat) : ∀ d l : Nat, kinds (steepGo m d l) = d
  | 0, _ => rfl
  | d + 1, l => by
    simp only [steepGo, kinds]
    rw [steepGo_pos m d, if_pos (by omega)]
    omega
theorem steepGo_under {m : Nat} (hm : 1 ≤ m) : ∀ d l : Nat, ∀ x ∈ steepGo (some m) d l, x ≤ m
  | 0, _, x, h => by simp [steepGo] at h
  | d + 1, l, x, h => by
    simp only [steepGo, List.mem_cons] at h
    rcases h with rfl | h
    · omega
    · exact steepGo_under hm d _ x h
theorem steepGo_head (m : Option Nat) (d l : Nat) : (steepGo m d l).headD 0 ≤ 1 + l ∧ ∀ k, m = some k → 1 ≤ k → (steepGo m d l).headD 0 ≤ k := by
  cases d with
  | zero => exact ⟨Nat.zero_le _, fun _ _ _ => Nat.zero_le _⟩
  | succ d =>
    simp only [steepGo, List.headD_cons]
    cases m with
    | none => exact ⟨by simp, fun k e => by cases e⟩
    | some m =>
      refine ⟨by simp only []; omega, fun k e hk => ?_⟩
      cases e
      simp only []
      omega
theorem sortedD_cons {x : Nat} {r : List Nat} (h1 : r.headD 0 ≤ x) (h2 : sortedD r = true) : sortedD (x :: r) = true := by
  cases r with
  | nil => rfl
  | cons y r =>
    simp only [sortedD, Bool.and_eq_true, decide_eq_true_eq]
    exact ⟨h1, h2⟩
theorem zeros_sorted : ∀ n, sortedD (zeros n) = true
  | 0 => rfl
  | 1 => rfl
  | n + 2 => by
    have := zeros_sorted (n + 1)
    simp only [zeros, List.replicate_succ] at this ⊢
    simp only [sortedD, Nat.le_refl, decide_true, Bool.true_and]
    exact this
theorem headD_append_zeros (a : List Nat) (n : Nat) : (a ++ zeros n).headD 0 = a.headD 0 := by
  cases a with
  | nil => cases n <;> rfl
  | cons x a => rfl
theorem steepGo_sorted {m : Option Nat} (hm : ∀ k, m = some k → 1 ≤ k) (n : Nat) : ∀ d l : Nat, sortedD (steepGo m d l ++ zeros n) = true
  | 0, _ => zeros_sorted n
  | d + 1, l => by
    simp only [steepGo, List.cons_append]
    refine sortedD_cons ?_ (steepGo_sorted hm n d _)
    rw [headD_append_zeros]
    have h := steepGo_head m d (l - (match m with | none => l | some m => min l (m - 1)))
    cases m with
    | none =>
      simp only [] at h ⊢
      omega
    | some k =>
      have h2 := h.2 k rfl (hm k rfl)
      have h3 := h.1
      have := hm k rfl
      simp only [] at h2 h3 ⊢
      omega
theorem steepGo_pre_some {m : Nat} : ∀ k d l : Nat, k ≤ d → pre k (steepGo (some m) d l) = k + min l (k * (m - 1))
  | 0, d, l, _ => by
    rw [pre_zero]
    omega
  | k + 1, 0, l, h => by omega
  | k + 1, d + 1, l, h => by
    simp only [steepGo, pre_cons]
    rw [steepGo_pre_some k d _ (by omega), Nat.add_mul, Nat.one_mul]
    omega
theorem steepGo_pre_none : ∀ k d l : Nat, k < d → pre (k + 1) (steepGo none d l) = k + 1 + l
  | k, 0, l, h => by omega
  | 0, d + 1, l, h => by
    simp only [steepGo, pre_cons, pre_zero]
    omega
  | k + 1, d + 1, l, h => by
    simp only [steepGo, pre_cons]
    have := steepGo_pre_none k d (l - l) (by omega)
    rw [this]
    omega
theorem steepGo_sum {m : Option Nat} {d l : Nat} (h : match m with | none => d = 0 → l = 0 | some m => l ≤ d * (m - 1)) : (steepGo m d l).sum = d + l := by
  rw [← pre_all d _ (Nat.le_of_eq (steepGo_length m d l))]
  cases m with
  | none =>
    cases d with
    | zero =>
      have := h rfl
      rw [pre_zero, this]
    | succ d => rw [steepGo_pre_none d _ l (by omega)]
  | some m =>
    rw [steepGo_pre_some d d l (Nat.le_refl _)]
    simp only [] at h
    omega
theorem sum_zeros (n : Nat) : (zeros n).sum = 0 := by simp [zeros]
theorem kinds_append : ∀ a b : List Nat, kinds (a ++ b) = kinds a + kinds b
  | [], b => by simp [kinds]
  | x :: a, b => by
    simp only [List.cons_append, kinds, kinds_append a b]
    omega
theorem kinds_zeros : ∀ n, kinds (zeros n) = 0
  | 0 => rfl
  | n + 1 => by
    have := kinds_zeros n
    simp only [zeros, List.replicate_succ, kinds] at this ⊢
    rw [this]
    rfl

/-! ### the greatest -/
/-- the greatest rows, and with them the fewest different values -/
def IsFull (T : Tl) (R D : Nat) : Prop := (∃ lo, (D, lo, R) ∈ pairs T) ∧ ∀ d lo hi, (d, lo, hi) ∈ pairs T → hi ≤ R ∧ (hi = R → D ≤ d)
def steepest (T : Tl) (R D : Nat) : List Nat := steep R D T.most ++ zeros (T.n - D)
/-- the most of a spread is at least 1 -/
def Pos (T : Tl) : Prop := ∀ k, T.most = some k → 1 ≤ k
theorem mul_pred {d m : Nat} (h : 1 ≤ m) : d * (m - 1) + d = d * m := by
  rw [← Nat.mul_succ]
  congr 1
  omega
theorem full_facts {T : Tl} {R D : Nat} (hp : Pos T) (f : IsFull T R D) : T.r0 ≤ R ∧ R ≤ T.r1 ∧ T.d0 ≤ D ∧ D ≤ T.d1 ∧ D ≤ T.n ∧ D ≤ R ∧ (D = 0 → R = 0) ∧ ∀ m, T.most = some m → R - D ≤ D * (m - 1) := by
  obtain ⟨⟨lo, h⟩, _⟩ := f
  obtain ⟨h1, h2, h3, h4, h5, h6⟩ := mem_pairs.mp h
  by_cases hD : D = 0
  · subst hD
    rw [hiOf_zero] at h5
    subst h5
    refine ⟨by omega, by omega, h1, h2, h3, by omega, fun _ => rfl, fun m _ => by simp⟩
  · cases em : T.most with
    | none =>
      rw [em, hiOf_none (by omega)] at h5
      refine ⟨by omega, by omega, h1, h2, h3, by omega, fun z => absurd z hD, fun m z => by cases z⟩
    | some m =>
      rw [em, hiOf_some (by omega)] at h5
      refine ⟨by omega, by omega, h1, h2, h3, by omega, fun z => absurd z hD, fun k z => ?_⟩
      cases z
      have := mul_pred (d := D) (hp m em)
      omega
theorem steepest_fits {T : Tl} {R D : Nat} (hp : Pos T) (f : IsFull T R D) : Fits T (steepest T R D) ∧ sortedD (steepest T R D) = true := by
  obtain ⟨h1, h2, h3, h4, h5, h6, h7, h8⟩ := full_facts hp f
  have hs : (steepest T R D).sum = R := by
    unfold steepest steep
    rw [List.sum_append, sum_zeros, steepGo_sum]
    · omega
    · cases em : T.most with
      | none =>
        intro z
        have := h7 z
        omega
      | some m => exact h8 m em
  have hk : kinds (steepest T R D) = D := by
    unfold steepest steep
    rw [kinds_append, kinds_zeros, steepGo_pos]
    omega
  refine ⟨⟨?_, by omega, by omega, by omega, by omega, ?_⟩, steepGo_sorted hp _ _ _⟩
  · unfold steepest steep zeros
    rw [List.length_append, steepGo_length, List.length_replicate]
    omega
  · cases em : T.most with
    | none => rfl
    | some m =>
      rw [under_some]
      intro x hx
      unfold steepest steep zeros at hx
      rw [em] at hx
      rcases List.mem_append.mp hx with z | z
      · exact steepGo_under (hp m em) _ _ x z
      · rw [(List.mem_replicate.mp z).2]
        exact Nat.zero_le _
/-- heights that fit have no more rows beyond one each -/
theorem full_more {T : Tl} {R D : Nat} {h : List Nat} (hp : Pos T) (f : IsFull T R D) (g : Fits T h) : h.sum ≤ R ∧ h.sum - kinds h ≤ R - D := by
  obtain ⟨h1, h2, h3, h4, h5, h6, h7, h8⟩ := full_facts hp f
  obtain ⟨p, q1, q2⟩ := pair_of g
  obtain ⟨f1, f2⟩ := f.2 _ _ _ p
  have k1 := kinds_le_sum h
  refine ⟨by omega, ?_⟩
  by_cases hd : D ≤ kinds h
  · omega
  · by_cases k0 : kinds h = 0
    · rw [sum_of_kinds_zero h k0]
      omega
    · cases em : T.most with
      | none =>
        exfalso
        have e1 : hiOf T.r1 T.most (kinds h) = T.r1 := by rw [em, hiOf_none (by omega)]
        have := f2 (by omega)
        omega
      | some m =>
        have hm := hp m em
        have e1 : hiOf T.r1 T.most (kinds h) = min T.r1 (kinds h * m) := by rw [em, hiOf_some (by omega)]
        have e2 : kinds h * m < R := by
          rcases Nat.lt_or_ge (kinds h * m) R with z | z
          · exact z
          · exfalso
            have := f2 (by omega)
            omega
        have e3 : kinds h * m ≤ (D - 1) * m := Nat.mul_le_mul_right _ (by omega)
        have e4 : D - 1 ≤ (D - 1) * m := Nat.le_mul_of_pos_right _ (by omega)
        have e5 : hiOf T.r1 T.most (D - 1) = min T.r1 ((D - 1) * m) := by rw [em, hiOf_some (by omega)]
        have g2 := g.2.1
        have g3 := g.2.2.1
        have g4 := g.2.2.2.1
        have mp : (D - 1, max T.r0 (D - 1), hiOf T.r1 T.most (D - 1)) ∈ pairs T := mem_pairs.mpr ⟨by omega, by omega, by omega, rfl, rfl, by omega⟩
        obtain ⟨f3, f4⟩ := f.2 _ _ _ mp
        have e6 : (D - 1) * m < R := by
          rcases Nat.lt_or_ge ((D - 1) * m) R with z | z
          · exact z
          · exfalso
            have := f4 (by omega)
            omega
        have e7 := mul_pred (d := kinds h) hm
        have e8 := mul_pred (d := D - 1) hm
        have e9 : kinds h * (m - 1) ≤ (D - 1) * (m - 1) := Nat.mul_le_mul_right _ (by omega)
        omega
theorem full_pre {T : Tl} {R D : Nat} {h : List Nat} (hp : Pos T) (f : IsFull T R D) (g : Fits T h) (k : Nat) : pre k h ≤ pre k (steepest T R D) := by
  obtain ⟨h1, h2, h3, h4, h5, h6, h7, h8⟩ := full_facts hp f
  obtain ⟨m1, m2⟩ := full_more hp f g
  have k1 := kinds_le_sum h
  have k2 := pre_kinds k h
  have k3 := pre_le_sum k h
  by_cases hk : k ≤ D
  · have e : pre k (steepest T R D) = pre k (steepGo T.most D (R - D)) := pre_append _ _ _ (by rw [show steep R D T.most = steepGo T.most D (R - D) from rfl, steepGo_length]; exact hk)
    rw [e]
    cases em : T.most with
    | none =>
      cases k with
      | zero => exact Nat.le_refl _
      | succ k =>
        rw [steepGo_pre_none k D _ (by omega)]
        omega
    | some m =>
      have hm := hp m em
      have g6 := g.2.2.2.2.2
      rw [em] at g6
      have k4 := pre_mul k h (under_some.mp g6)
      have k5 := mul_pred (d := k) hm
      rw [steepGo_pre_some k D _ hk]
      omega
  · have e : pre k (steepest T R D) = R := by
      have hs := (steepest_fits hp f).1
      have z : pre D (steepest T R D) = pre D (steepGo T.most D (R - D)) := pre_append _ _ _ (by rw [show steep R D T.most = steepGo T.most D (R - D) from rfl, steepGo_length]; exact Nat.le_refl _)
      have z2 : pre k (steepest T R D) = pre D (steepest T R D) := by
        unfold steepest pre
        rw [List.take_append, List.take_append, List.sum_append, List.sum_append, show (steep R D T.most).length = D from steepGo_length _ _ _]
        have zz : ∀ j n, (List.take j (zeros n)).sum = 0 := fun j n => by simp [zeros]
        rw [zz, zz, List.take_of_length_le (by rw [show (steep R D T.most).length = D from steepGo_length _ _ _]; omega), List.take_of_length_le (by rw [show (steep R D T.most).length = D from steepGo_length _ _ _]; exact Nat.le_refl _)]
      rw [z2, z, pre_all D _ (Nat.le_of_eq (steepGo_length _ _ _)), steepGo_sum]
      · omega
      · cases em : T.most with
        | none =>
          intro z
          have := h7 z
          omega
        | some m => exact h8 m em
    omega
/-- no join of sorted heights with any has more -/
theorem greatest_of {T U : Tl} {R D R' D' : Nat} {h g : List Nat} (hn : T.n = U.n) (hp : Pos T) (hp' : Pos U) (f : IsFull T R D) (f' : IsFull U R' D') (hh : Fits T h) (hs : sortedD h = true) (hg : Fits U g) :
    dot h g ≤ dot (steepest T R D) (steepest U R' D') := by
  obtain ⟨s1, s2⟩ := steepest_fits hp f
  obtain ⟨s3, s4⟩ := steepest_fits hp' f'
  have a1 := abel h g (steepest U R' D') 0 (by rw [hh.1, hg.1, hn]) (by rw [hg.1, s3.1]) hs fun k => full_pre hp' f' hg k
  have a2 := abel (steepest U R' D') h (steepest T R D) 0 (by rw [hh.1, s3.1, hn]) (by rw [hh.1, s1.1]) s4 fun k => full_pre hp f hh k
  rw [Nat.zero_mul] at a1 a2
  rw [dot_comm (steepest U R' D') h, dot_comm (steepest U R' D') (steepest T R D)] at a2
  omega
end K46
end
section
namespace K46
/-! ### the least: joins of few rows, by looking at all -/
def check1 (n : Nat) (h1 h2 : List Nat) : Bool :=
  mosts.all fun m1 => !under m1 h1 || mosts.all fun m2 => !under m2 h2 ||
    Nat.ble (dot (apart n h1.sum (kinds h1) h2.sum (kinds h2) m1 m2).1 (apart n h1.sum (kinds h1) h2.sum (kinds h2) m1 m2).2) (dot h1 h2)
def check (n cap : Nat) : Bool := (splits cap n).all fun h1 => !sortedD h1 || (splits cap n).all fun h2 => check1 n h1 h2
theorem check_1 : check 1 4 = true := by decide +kernel
theorem check_2 : check 2 4 = true := by decide +kernel
theorem check_4 : check 4 4 = true := by decide +kernel
theorem check_3 : check 3 6 = true := by decide +kernel
def capOf (n : Nat) : Nat := if n = 3 then 6 else 4
theorem check_all {n : Nat} (h1 : 1 ≤ n) (h2 : n ≤ 4) : check n (capOf n) = true := by
  have : n = 1 ∨ n = 2 ∨ n = 3 ∨ n = 4 := by omega
  rcases this with rfl | rfl | rfl | rfl
  · exact check_1
  · exact check_2
  · exact check_3
  · exact check_4
/-- the heights told are of the pairs -/
def okH (n r d : Nat) (m : Option Nat) (h : List Nat) : Bool := Nat.beq h.length n && (Nat.beq h.sum r && (Nat.beq (kinds h) d && under m h))
def okPair (n r d : Nat) (m : Option Nat) : Bool := Nat.ble d n && (Nat.ble d r && Nat.ble r (hiOf r m d))
def fit1 (n : Nat) (r1 d1 r2 d2 : Nat) : Bool :=
  mosts.all fun m1 => !okPair n r1 d1 m1 || mosts.all fun m2 => !okPair n r2 d2 m2 ||
    (okH n r1 d1 m1 (apart n r1 d1 r2 d2 m1 m2).1 && okH n r2 d2 m2 (apart n r1 d1 r2 d2 m1 m2).2)
def fit (n cap : Nat) : Bool := (List.range (cap + 1)).all fun r1 => (List.range (n + 1)).all fun d1 => (List.range (cap + 1)).all fun r2 => (List.range (n + 1)).all fun d2 => fit1 n r1 d1 r2 d2
theorem fit_1 : fit 1 4 = true := by decide +kernel
theorem fit_2 : fit 2 4 = true := by decide +kernel
theorem fit_3 : fit 3 6 = true := by decide +kernel
theorem fit_4 : fit 4 4 = true := by decide +kernel
theorem fit_all {n : Nat} (h1 : 1 ≤ n) (h2 : n ≤ 4) : fit n (capOf n) = true := by
  have : n = 1 ∨ n = 2 ∨ n = 3 ∨ n = 4 := by omega
  rcases this with rfl | rfl | rfl | rfl
  · exact fit_1
  · exact fit_2
  · exact fit_3
  · exact fit_4

/-! ### fewer rows -/
/-- g lies under h, where the same values occur -/
structure Less (g h : List Nat) : Prop where
  len : g.length = h.length
  kin : kinds g = kinds h
  dl : ∀ k, dot g k ≤ dot h k
  dr : ∀ k, dot k g ≤ dot k h
  un : ∀ m, under m h = true → under m g = true
theorem Less.refl (h : List Nat) : Less h h := ⟨rfl, rfl, fun _ => Nat.le_refl _, fun _ => Nat.le_refl _, fun _ x => x⟩
theorem Less.trans {a b c : List Nat} (x : Less a b) (y : Less b c) : Less a c :=
  ⟨x.len.trans y.len, x.kin.trans y.kin, fun k => Nat.le_trans (x.dl k) (y.dl k), fun k => Nat.le_trans (x.dr k) (y.dr k), fun m h => x.un m (y.un m h)⟩
theorem under_cons {m : Option Nat} {x : Nat} {h : List Nat} : under m (x :: h) = true ↔ (∀ k, m = some k → x ≤ k) ∧ under m h = true := by
  cases m with
  | none => simp [under]
  | some k => simp [under]
theorem Less.cons {x y : Nat} {g h : List Nat} (hx : y ≤ x) (h0 : 0 < y ↔ 0 < x) (l : Less g h) : Less (y :: g) (x :: h) where
  len := by simp [l.len]
  kin := by
    simp only [kinds, l.kin]
    by_cases z : 0 < x
    · rw [if_pos z, if_pos (h0.mpr z)]
    · rw [if_neg z, if_neg (fun q => z (h0.mp q))]
  dl := fun k => by
    cases k with
    | nil => exact Nat.le_refl _
    | cons z k =>
      simp only [dot]
      have := l.dl k
      have := Nat.mul_le_mul_right z hx
      omega
  dr := fun k => by
    cases k with
    | nil => exact Nat.le_refl _
    | cons z k =>
      simp only [dot]
      have := l.dr k
      have := Nat.mul_le_mul_left z hx
      omega
  un := fun m h => by
    rw [under_cons] at h ⊢
    exact ⟨fun k e => Nat.le_trans hx (h.1 k e), l.un m h.2⟩
theorem less_one : ∀ h : List Nat, kinds h < h.sum → ∃ g, Less g h ∧ g.sum + 1 = h.sum
  | [], e => by simp [kinds] at e
  | x :: r, e => by
    by_cases hx : 2 ≤ x
    · refine ⟨(x - 1) :: r, Less.cons (by omega) (by omega) (Less.refl r), ?_⟩
      simp only [List.sum_cons]
      omega
    · have er : kinds r < r.sum := by
        simp only [kinds, List.sum_cons] at e
        split at e <;> omega
      obtain ⟨g, l, s⟩ := less_one r er
      refine ⟨x :: g, Less.cons (Nat.le_refl _) Iff.rfl l, ?_⟩
      simp only [List.sum_cons]
      omega
theorem less_to : ∀ (j s : Nat) (h : List Nat), h.sum = s + j → kinds h ≤ s → ∃ g, Less g h ∧ g.sum = s
  | 0, s, h, e, _ => ⟨h, Less.refl h, by omega⟩
  | j + 1, s, h, e, k => by
    obtain ⟨g, l, q⟩ := less_one h (by omega)
    obtain ⟨g', l', q'⟩ := less_to j s g (by omega) (by rw [l.kin]; exact k)
    exact ⟨g', l'.trans l, q'⟩

/-! ### sorted together -/
def dotP (ps : List (Nat × Nat)) : Nat := (ps.map fun p => p.1 * p.2).sum
theorem dot_zip : ∀ a b : List Nat, dot a b = dotP (a.zip b)
  | [], _ => by simp [dot, dotP]
  | _ :: _, [] => by simp [dot, dotP]
  | x :: a, y :: b => by
    simp only [dot, dotP, List.zip_cons_cons, List.map_cons, List.sum_cons]
    rw [dot_zip a b]
    rfl
theorem dot_unzip : ∀ ps : List (Nat × Nat), dot (ps.map (·.1)) (ps.map (·.2)) = dotP ps
  | [] => rfl
  | p :: ps => by
    simp only [List.map_cons, dot, dotP, List.sum_cons]
    rw [dot_unzip ps]
    rfl
theorem perm_sum {a b : List Nat} (p : a.Perm b) : a.sum = b.sum := by
  induction p with
  | nil => rfl
  | cons x _ ih => simp only [List.sum_cons, ih]
  | swap x y l => simp only [List.sum_cons]; omega
  | trans _ _ i1 i2 => exact i1.trans i2
theorem perm_kinds {a b : List Nat} (p : a.Perm b) : kinds a = kinds b := by
  induction p with
  | nil => rfl
  | cons x _ ih => simp only [kinds, ih]
  | swap x y l => simp only [kinds]; omega
  | trans _ _ i1 i2 => exact i1.trans i2
theorem perm_under {a b : List Nat} (p : a.Perm b) (m : Option Nat) : under m a = under m b := by
  cases m with
  | none => rfl
  | some m =>
    rw [Bool.eq_iff_iff, under_some, under_some]
    exact ⟨fun h x hx => h x (p.mem_iff.mpr hx), fun h x hx => h x (p.mem_iff.mp hx)⟩
theorem sortedD_of : ∀ l : List Nat, l.Pairwise (fun a b => b ≤ a) → sortedD l = true
  | [], _ => rfl
  | [_], _ => rfl
  | x :: y :: r, h => by
    simp only [sortedD, Bool.and_eq_true, decide_eq_true_eq]
    rw [List.pairwise_cons] at h
    exact ⟨h.1 y List.mem_cons_self, sortedD_of (y :: r) h.2⟩
theorem sort_both (a b : List Nat) (hl : a.length = b.length) : ∃ a' b' : List Nat, a'.Perm a ∧ b'.Perm b ∧ sortedD a' = true ∧ dot a' b' = dot a b := by
  let le : Nat × Nat → Nat × Nat → Bool := fun p q => decide (q.1 ≤ p.1)
  have hs := List.pairwise_mergeSort (le := le) (fun x y z h1 h2 => by simp only [le, decide_eq_true_eq] at *; omega) (fun x y => by simp only [le, Bool.or_eq_true, decide_eq_true_eq]; omega) (a.zip b)
  have hp := List.mergeSort_perm (a.zip b) le
  refine ⟨((a.zip b).mergeSort le).map (·.1), ((a.zip b).mergeSort le).map (·.2), ?_, ?_, ?_, ?_⟩
  · have := hp.map (·.1)
    rwa [List.map_fst_zip (Nat.le_of_eq hl)] at this
  · have := hp.map (·.2)
    rwa [List.map_snd_zip (Nat.le_of_eq hl.symm)] at this
  · refine sortedD_of _ ?_
    rw [List.pairwise_map]
    exact hs.imp fun {p q} h => by simpa [le] using h
  · rw [dot_unzip, dot_zip]
    exact perm_sum (hp.map _)

theorem fits_perm {T : Tl} {a b : List Nat} (p : a.Perm b) (f : Fits T b) : Fits T a := by
  obtain ⟨h1, h2, h3, h4, h5, h6⟩ := f
  exact ⟨p.length_eq.trans h1, by rw [perm_sum p]; exact h2, by rw [perm_sum p]; exact h3, by rw [perm_kinds p]; exact h4, by rw [perm_kinds p]; exact h5, by rw [perm_under p]; exact h6⟩

/-! ### the least join -/
/-- a spread as the law draws it: small -/
structure Small (T : Tl) : Prop where
  n1 : 1 ≤ T.n
  n4 : T.n ≤ 4
  low : T.r0 ≤ capOf T.n
  mo : T.most ∈ mosts
theorem Small.pos {T : Tl} (s : Small T) : Pos T := fun k e => by
  have := s.mo
  rw [e] at this
  simp only [mosts, List.mem_cons, Option.some.injEq, List.not_mem_nil, or_false] at this
  rcases this with z | z | z | z
  · cases z
  · omega
  · omega
  · omega
theorem Small.low_cap {T : Tl} (s : Small T) {d : Nat} (h : d ≤ T.n) : max T.r0 d ≤ capOf T.n := by
  have h1 := s.low
  have h2 := s.n1
  have h3 := s.n4
  unfold capOf at *
  by_cases z : T.n = 3
  · rw [if_pos z] at h1 ⊢
    omega
  · rw [if_neg z] at h1 ⊢
    omega
/-- heights of two possible pairs of least rows, told apart -/
def apartOf (T U : Tl) (d e : Nat) : List Nat × List Nat := apart T.n (max T.r0 d) d (max U.r0 e) e T.most U.most
theorem okPair_of {T : Tl} {d lo hi : Nat} (h : (d, lo, hi) ∈ pairs T) : okPair T.n lo d T.most = true := by
  obtain ⟨h1, h2, h3, h4, h5, h6⟩ := mem_pairs.mp h
  unfold okPair
  simp only [Bool.and_eq_true, Nat.ble_eq]
  refine ⟨h3, by omega, ?_⟩
  by_cases z : d = 0
  · subst z
    rw [hiOf_zero] at h5 ⊢
    omega
  · cases em : T.most with
    | none =>
      rw [hiOf_none (by omega)]
      exact Nat.le_refl _
    | some m =>
      rw [em, hiOf_some (by omega)] at h5
      rw [hiOf_some (by omega)]
      omega
theorem fits_ok {T : Tl} {d lo hi : Nat} {h : List Nat} (hm : (d, lo, hi) ∈ pairs T) (o : okH T.n lo d T.most h = true) : Fits T h := by
  obtain ⟨h1, h2, h3, h4, h5, h6⟩ := mem_pairs.mp hm
  unfold okH at o
  simp only [Bool.and_eq_true, Nat.beq_eq] at o
  obtain ⟨o1, o2, o3, o4⟩ := o
  have hr : hi ≤ T.r1 := by
    rw [h5]
    unfold hiOf
    split
    · omega
    · cases T.most with
      | none => exact Nat.le_refl _
      | some m => exact Nat.min_le_left _ _
  exact ⟨o1, by omega, by omega, by omega, by omega, o4⟩
/-- what is told fits -/
theorem apart_fits {T U : Tl} (hn : T.n = U.n) (s : Small T) (t : Small U) {d lo hi e lo' hi' : Nat} (h : (d, lo, hi) ∈ pairs T) (g : (e, lo', hi') ∈ pairs U) :
    Fits T (apart T.n lo d lo' e T.most U.most).1 ∧ Fits U (apart T.n lo d lo' e T.most U.most).2 := by
  have h' := mem_pairs.mp h
  have g' := mem_pairs.mp g
  have key := fit_all s.n1 s.n4
  unfold fit at key
  simp only [List.all_eq_true, List.mem_range] at key
  have c1 := s.low_cap h'.2.2.1
  have c2 := t.low_cap g'.2.2.1
  have k := key lo (by omega) d (by omega) lo' (by rw [hn]; omega) e (by omega)
  unfold fit1 at k
  rw [List.all_eq_true] at k
  have k1 := k T.most s.mo
  rw [okPair_of h, Bool.not_true, Bool.false_or, List.all_eq_true] at k1
  have k2 := k1 U.most t.mo
  rw [hn, okPair_of g, Bool.not_true, Bool.false_or, Bool.and_eq_true] at k2
  refine ⟨fits_ok h ?_, fits_ok g ?_⟩
  · rw [hn]
    exact k2.1
  · rw [hn]
    exact k2.2
/-- heights that fit have no less -/
theorem least_of {T U : Tl} (hn : T.n = U.n) (s : Small T) (t : Small U) {h g : List Nat} (f : Fits T h) (f' : Fits U g) :
    ∃ d lo hi e lo' hi', (d, lo, hi) ∈ pairs T ∧ (e, lo', hi') ∈ pairs U ∧
      dot (apart T.n lo d lo' e T.most U.most).1 (apart T.n lo d lo' e T.most U.most).2 ≤ dot h g := by
  obtain ⟨p1, p2, p3⟩ := pair_of f
  obtain ⟨q1, q2, q3⟩ := pair_of f'
  refine ⟨_, _, _, _, _, _, p1, q1, ?_⟩
  obtain ⟨h1, l1, s1⟩ := less_to (h.sum - max T.r0 (kinds h)) (max T.r0 (kinds h)) h (by omega) (by omega)
  obtain ⟨g1, l2, s2⟩ := less_to (g.sum - max U.r0 (kinds g)) (max U.r0 (kinds g)) g (by omega) (by omega)
  obtain ⟨h2, g2, r1, r2, r3, r4⟩ := sort_both h1 g1 (by rw [l1.len, l2.len, f.1, f'.1, hn])
  have a1 : dot h1 g1 ≤ dot h g := Nat.le_trans (l1.dl g1) (l2.dr h)
  have m1 := mem_pairs.mp p1
  have m2 := mem_pairs.mp q1
  have c1 := s.low_cap m1.2.2.1
  have c2 := t.low_cap m2.2.2.1
  have key := check_all s.n1 s.n4
  unfold check at key
  rw [List.all_eq_true] at key
  have e1 : h2.sum = max T.r0 (kinds h) := by rw [perm_sum r1, s1]
  have e2 : g2.sum = max U.r0 (kinds g) := by rw [perm_sum r2, s2]
  have k1 : kinds h2 = kinds h := by rw [perm_kinds r1, l1.kin]
  have k2 : kinds g2 = kinds g := by rw [perm_kinds r2, l2.kin]
  have z1 := key h2 (mem_splits.mpr ⟨by rw [r1.length_eq, l1.len, f.1], by omega⟩)
  rw [r3, Bool.not_true, Bool.false_or, List.all_eq_true] at z1
  have z2 := z1 g2 (mem_splits.mpr ⟨by rw [r2.length_eq, l2.len, f'.1, hn], by rw [hn]; omega⟩)
  unfold check1 at z2
  rw [List.all_eq_true] at z2
  have z3 := z2 T.most s.mo
  rw [perm_under r1, l1.un _ f.2.2.2.2.2, Bool.not_true, Bool.false_or, List.all_eq_true] at z3
  have z4 := z3 U.most t.mo
  rw [perm_under r2, l2.un _ f'.2.2.2.2.2, Bool.not_true, Bool.false_or, Nat.ble_eq, e1, e2, k1, k2, r4] at z4
  exact Nat.le_trans z4 a1
end K46
end
section
set_option Elab.async false
set_option linter.all false
set_option autoImplicit false
set_option maxRecDepth 100000
/-! Sleeping generators that nobody wakes: a run in which they cannot be woken is a run with the true ones. -/
namespace Frz
open PySem
open Sem (wp)

/-- a sleeper that cannot be woken -/
def dead : GenState → GenState
  | .suspended _ l c p fs cl => .suspended (fun _ => .unsupported "") l c p fs cl
  | x => x
def Slp : Option GenState → Prop
  | some (.suspended ..) => True
  | _ => False
def plainF : List Frame → Bool
  | [] => true
  | .ret .. :: r => plainF r
  | .gen .. :: _ => false
theorem plainF_append : ∀ {a b : List Frame}, plainF a = true → plainF b = true → plainF (a ++ b) = true
  | [], _, _, h => h
  | .ret .. :: r, b, h, h2 => plainF_append (a := r) h h2
  | .gen .. :: _, _, h, _ => by simp [plainF] at h
theorem split_plain : ∀ {fs : List Frame}, plainF fs = true → splitAtGen fs = none
  | [], _ => rfl
  | .ret .. :: r, h => by
    simp only [splitAtGen]
    rw [split_plain (fs := r) h]
    rfl
  | .gen .. :: _, h => by simp [plainF] at h
def plainS : GenState → Prop
  | .suspended _ _ _ _ fs _ => plainF fs = true
  | _ => True
def plainE : End → Prop
  | .ret _ => True
  | .susp _ _ _ _ _ _ fs => plainF fs = true
theorem plain_genState {e : End} (h : plainE e) : plainS e.genState := by
  cases e with
  | ret _ => trivial
  | susp _ _ _ _ _ _ fs => exact h
/-- G: the true table; D: the one in which the sleepers of B are dead -/
structure Rel (B G D : Array GenState) : Prop where
  size : G.size = D.size
  slp : ∀ i : Nat, Slp B[i]? → ∃ x, B[i]? = some x ∧ G[i]? = some x ∧ D[i]? = some (dead x)
  oth : ∀ i : Nat, ¬ Slp B[i]? → G[i]? = D[i]? ∧ ∀ x, D[i]? = some x → plainS x
theorem dead_seen (x : GenState) : (dead x).seen = x.seen := by cases x <;> rfl
theorem slp_some {x : GenState} (h : Slp (some x)) : ∃ k l c p fs cl, x = .suspended k l c p fs cl := by
  cases x with
  | suspended k l c p fs cl => exact ⟨k, l, c, p, fs, cl, rfl⟩
  | _ => exact h.elim
theorem Rel.start (B : Array GenState) : Rel B B (B.map dead) where
  size := by simp
  slp := fun i h => by
    cases e : B[i]? with
    | none => rw [e] at h; exact h.elim
    | some x => exact ⟨x, rfl, rfl, by rw [Array.getElem?_map, e]; rfl⟩
  oth := fun i h => by
    cases e : B[i]? with
    | none => exact ⟨by rw [Array.getElem?_map, e]; rfl, fun x hx => by rw [Array.getElem?_map, e] at hx; cases hx⟩
    | some x =>
      have q : dead x = x := by
        rw [e] at h
        cases x with
        | suspended => exact absurd trivial h
        | _ => rfl
      refine ⟨by rw [Array.getElem?_map, e]; show some x = some (dead x); rw [q], fun y hy => ?_⟩
      rw [Array.getElem?_map, e] at hy
      have : dead x = y := Option.some.inj hy
      rw [← this, q]
      rw [e] at h
      cases x with
      | suspended => exact absurd trivial h
      | _ => trivial
section
variable {B G D : Array GenState}
/-- what is read of an entry -/
theorem Rel.at (r : Rel B G D) {g : Nat} {y : GenState} (h : D[g]? = some y) : (∃ x, Slp B[g]? ∧ G[g]? = some x ∧ y = dead x ∧ ∃ k l c p fs cl, x = .suspended k l c p fs cl) ∨ (¬ Slp B[g]? ∧ G[g]? = some y ∧ plainS y) := by
  by_cases hs : Slp B[g]?
  · obtain ⟨x, h1, h2, h3⟩ := r.slp g hs
    refine .inl ⟨x, hs, h2, ?_, ?_⟩
    · rw [h] at h3
      exact Option.some.inj h3
    · rw [h1] at hs
      exact slp_some hs
  · obtain ⟨h1, h2⟩ := r.oth g hs
    exact .inr ⟨hs, h1.trans h, h2 y h⟩
/-- an entry that is no dead sleeper -/
theorem Rel.at' (r : Rel B G D) {g : Nat} {y : GenState} (h : D[g]? = some y) (hy : ∀ k l c p fs cl, y ≠ .suspended k l c p fs cl) : ¬ Slp B[g]? ∧ G[g]? = some y := by
  rcases r.at h with ⟨x, _, _, e, k, l, c, p, fs, cl, ex⟩ | ⟨h1, h2, _⟩
  · rw [ex] at e
    exact absurd e (hy _ _ _ _ _ _)
  · exact ⟨h1, h2⟩
theorem Rel.set (r : Rel B G D) {g : Nat} (hg : ¬ Slp B[g]?) {x : GenState} (hx : plainS x) : Rel B (G.setIfInBounds g x) (D.setIfInBounds g x) where
  size := by simp [r.size]
  slp := fun i hi => by
    have ne : g ≠ i := fun z => hg (z ▸ hi)
    obtain ⟨y, h1, h2, h3⟩ := r.slp i hi
    exact ⟨y, h1, by rw [Array.getElem?_setIfInBounds_ne ne]; exact h2, by rw [Array.getElem?_setIfInBounds_ne ne]; exact h3⟩
  oth := fun i hi => by
    obtain ⟨h1, h2⟩ := r.oth i hi
    by_cases e : g = i
    · subst e
      simp only [Array.getElem?_setIfInBounds, if_pos]
      rw [r.size]
      refine ⟨rfl, fun y hy => ?_⟩
      split at hy
      · cases hy
        exact hx
      · cases hy
    · rw [Array.getElem?_setIfInBounds_ne e, Array.getElem?_setIfInBounds_ne e]
      exact ⟨h1, h2⟩
theorem Rel.push (r : Rel B G D) {c : Code} : Rel B (G.push (.fresh c)) (D.push (.fresh c)) where
  size := by simp [r.size]
  slp := fun i hi => by
    obtain ⟨y, h1, h2, h3⟩ := r.slp i hi
    have l1 : i < G.size := (Array.getElem?_eq_some_iff.mp h2).1
    have l2 : i < D.size := by rw [← r.size]; exact l1
    refine ⟨y, h1, ?_, ?_⟩
    · rw [Array.getElem?_push, if_neg (by omega)]
      exact h2
    · rw [Array.getElem?_push, if_neg (by omega)]
      exact h3
  oth := fun i hi => by
    obtain ⟨h1, h2⟩ := r.oth i hi
    rw [Array.getElem?_push, Array.getElem?_push, r.size]
    by_cases e : i = D.size
    · simp only [if_pos e]
      exact ⟨trivial, fun y hy => by cases hy; trivial⟩
    · simp only [if_neg e]
      exact ⟨h1, h2⟩
theorem Rel.bare (r : Rel B G D) (hB : ∀ y ∈ B, y.bare = true) (hD : ∀ y ∈ D, y.bare = true) : ∀ y ∈ G, y.bare = true := fun y hy => by
  obtain ⟨i, hi, e⟩ := Array.mem_iff_getElem.mp hy
  have e' : G[i]? = some y := by rw [Array.getElem?_eq_getElem hi, e]
  by_cases hs : Slp B[i]?
  · obtain ⟨x, h1, h2, _⟩ := r.slp i hs
    rw [e'] at h2
    cases h2
    exact hB y (Array.mem_of_getElem? h1)
  · have := (r.oth i hs).1
    rw [e'] at this
    exact hD y (Array.mem_of_getElem? this.symm)
end
theorem dead_bare {B : Array GenState} (hB : ∀ y ∈ B, y.bare = true) : ∀ y ∈ B.map dead, y.bare = true := fun y hy => by
  obtain ⟨x, hx, e⟩ := Array.mem_map.mp hy
  have := hB x hx
  rw [← e]
  cases x <;> exact this

/-- what is unsupported runs nowhere -/
theorem no_runs {M : Model} {Γ : Ctx} {p : Pos} {t : Sem PySem.Fin} {fs : List Frame} {s s' : Shared} {e : End} (h : Runs M Γ p t fs s e s') : ∀ w, t = .unsupported w → False := by
  induction h <;> intro w ew <;> first | (cases ew; done) | (rename_i ih _; exact ih w ew) | (rename_i ih; exact ih w ew) | (rename_i ih _ _; exact ih w ew) | (rename_i ih _ _ _; exact ih w ew)

theorem runs_frz {M : Model} {B : Array GenState} {Γ : Ctx} {p : Pos} {t : Sem PySem.Fin} {fs : List Frame} {s s' : Shared} {e : End} (h : Runs M Γ p t fs s e s') :
    plainF fs = true → ∀ G, Rel B G s.gens → ∃ G', Runs M Γ p t fs { s with gens := G } e { s' with gens := G' } ∧ Rel B G' s'.gens ∧ plainE e := by
  induction h with
  | done => exact fun _ G r => ⟨G, .done, r, trivial⟩
  | raise => exact fun _ G r => ⟨G, .raise, r, trivial⟩
  | again hq _ ih => exact fun hp G r => let ⟨G', h1, h2⟩ := ih hp G r; ⟨G', .again hq h1, h2⟩
  | rule _ ih => exact fun hp G r => let ⟨G', h1, h2⟩ := ih hp G r; ⟨G', .rule h1, h2⟩
  | «at» _ ih => exact fun hp G r => let ⟨G', h1, h2⟩ := ih hp G r; ⟨G', .at h1, h2⟩
  | load ho _ ih => exact fun hp G r => let ⟨G', h1, h2⟩ := ih hp G r; ⟨G', .load ho h1, h2⟩
  | update ho _ ih => exact fun hp G r => let ⟨G', h1, h2⟩ := ih hp G r; ⟨G', .update ho h1, h2⟩
  | loadIfAlive _ ih => exact fun hp G r => let ⟨G', h1, h2⟩ := ih hp G r; ⟨G', .loadIfAlive h1, h2⟩
  | point _ ih => exact fun hp G r => let ⟨G', h1, h2⟩ := ih hp G r; ⟨G', .point h1, h2⟩
  | alloc _ ih => exact fun hp G r => let ⟨G', h1, h2⟩ := ih hp G r; ⟨G', .alloc h1, h2⟩
  | fresh _ ih => exact fun hp G r => let ⟨G', h1, h2⟩ := ih hp G r; ⟨G', .fresh h1, h2⟩
  | ask _ ih => exact fun hp G r => let ⟨G', h1, h2⟩ := ih hp G r; ⟨G', .ask h1, h2⟩
  | choose hn _ ih => exact fun hp G r => let ⟨G', h1, h2⟩ := ih hp G r; ⟨G', .choose hn h1, h2⟩
  | os _ ih => exact fun hp G r => let ⟨G', h1, h2⟩ := ih hp G r; ⟨G', .os h1, h2⟩
  | handled _ ih => exact fun hp G r => let ⟨G', h1, h2⟩ := ih hp G r; ⟨G', .handled h1, h2⟩
  | stack _ ih => exact fun hp G r => let ⟨G', h1, h2⟩ := ih hp G r; ⟨G', .stack h1, h2⟩
  | thread _ ih => exact fun hp G r => let ⟨G', h1, h2⟩ := ih hp G r; ⟨G', .thread h1, h2⟩
  | genState hg _ ih =>
    intro hp G r
    obtain ⟨G', h1, h2⟩ := ih hp G r
    rcases r.at hg with ⟨x, _, hx, e, _⟩ | ⟨_, hx, _⟩
    · rw [e, dead_seen] at h1
      exact ⟨G', .genState hx h1, h2⟩
    · exact ⟨G', .genState hx h1, h2⟩
  | @newGen Γ p k s e s' c _ ih =>
    intro hp G r
    obtain ⟨G', h1, h2⟩ := ih hp (G.push _) r.push
    refine ⟨G', .newGen ?_, h2⟩
    show Runs M Γ p (k G.size) _ _ _ _
    rw [r.size]
    exact h1
  | call _ _ ih1 ih2 =>
    intro hp G r
    obtain ⟨G1, h1, r1, _⟩ := ih1 rfl G r
    obtain ⟨G2, h2, r2⟩ := ih2 hp G1 r1
    exact ⟨G2, .call h1 h2, r2⟩
  | callSusp _ ih1 =>
    intro hp G r
    obtain ⟨G1, h1, r1, q⟩ := ih1 rfl G r
    exact ⟨G1, .callSusp h1, r1, plainF_append q rfl⟩
  | yield => exact fun _ G r => ⟨G, .yield, r, rfl⟩
  | resumeFresh hg _ hq _ ih1 ih2 =>
    intro hp G r
    obtain ⟨ns, hG⟩ := r.at' hg (fun _ _ _ _ _ _ z => nomatch z)
    obtain ⟨G1, h1, r1, q1⟩ := ih1 rfl _ (r.set ns (x := .running) trivial)
    obtain ⟨G2, h2, r2, q2⟩ := ih2 hp _ (r1.set ns (plain_genState q1))
    exact ⟨G2, .resumeFresh hG h1 hq h2, r2, q2⟩
  | resumeSuspended hg hr hq _ ih1 ih2 =>
    intro hp G r
    rcases r.at hg with ⟨x, _, hx, e, k, l, c, p, fs, cl, ex⟩ | ⟨ns, hG, pl⟩
    · rw [ex] at e
      simp only [dead, GenState.suspended.injEq] at e
      rw [e.1] at hr
      exact (no_runs hr _ rfl).elim
    · obtain ⟨G1, h1, r1, q1⟩ := ih1 pl _ (r.set ns (x := .running) trivial)
      obtain ⟨G2, h2, r2, q2⟩ := ih2 hp _ (r1.set ns (plain_genState q1))
      exact ⟨G2, .resumeSuspended hG h1 hq h2, r2, q2⟩
  | resumeJustStarted hg hv _ ih =>
    intro hp G r
    obtain ⟨ns, hG⟩ := r.at' hg (fun _ _ _ _ _ _ z => nomatch z)
    obtain ⟨G1, h1, r1⟩ := ih hp G r
    exact ⟨G1, .resumeJustStarted hG hv h1, r1⟩
  | resumeThrowFresh hg _ ih =>
    intro hp G r
    obtain ⟨ns, hG⟩ := r.at' hg (fun _ _ _ _ _ _ z => nomatch z)
    obtain ⟨G1, h1, r1⟩ := ih hp _ (r.set ns (x := .finished) trivial)
    exact ⟨G1, .resumeThrowFresh hG h1, r1⟩
  | resumeRunning hg _ ih =>
    intro hp G r
    obtain ⟨ns, hG⟩ := r.at' hg (fun _ _ _ _ _ _ z => nomatch z)
    obtain ⟨G1, h1, r1⟩ := ih hp G r
    exact ⟨G1, .resumeRunning hG h1, r1⟩
  | resumeFinished hg _ ih =>
    intro hp G r
    obtain ⟨ns, hG⟩ := r.at' hg (fun _ _ _ _ _ _ z => nomatch z)
    obtain ⟨G1, h1, r1⟩ := ih hp G r
    exact ⟨G1, .resumeFinished hG h1, r1⟩
  | segRet _ _ ih1 ih2 =>
    intro hp G r
    obtain ⟨G1, h1, r1, _⟩ := ih1 rfl G r
    obtain ⟨G2, h2, r2⟩ := ih2 hp G1 r1
    exact ⟨G2, .segRet h1 h2, r2⟩
  | segGen _ _ ih1 ih2 =>
    intro hp G r
    simp [plainF] at hp
  | segSuspOut hsp _ ih1 =>
    intro hp G r
    obtain ⟨G1, h1, r1, q⟩ := ih1 rfl G r
    exact ⟨G1, .segSuspOut hsp h1, r1, plainF_append q hp⟩
  | segSuspGen hsp _ _ _ ih1 ih2 =>
    intro hp G r
    rw [split_plain hp] at hsp
    cases hsp

theorem wp_frz {M : Model} {B : Array GenState} {α : Type} (t : Sem α) : ∀ {Γ : Ctx} {p : Pos} {Q : α → Pos → Shared → Prop} {E : Value → Pos → Shared → Prop} {s : Shared} {G : Array GenState}, wp M Γ t Q E p s → Rel B G s.gens →
    wp M Γ t (fun a p' s1 => ∃ s2, Q a p' s2 ∧ s1 = { s2 with gens := s1.gens } ∧ Rel B s1.gens s2.gens) (fun a p' s1 => ∃ s2, E a p' s2 ∧ s1 = { s2 with gens := s1.gens } ∧ Rel B s1.gens s2.gens) p { s with gens := G } := by
  induction t with
  | pure a => exact fun {Γ p Q E s G} h r => ⟨s, h, rfl, r⟩
  | raise e => exact fun {Γ p Q E s G} h r => ⟨s, h, rfl, r⟩
  | unsupported _ => exact fun h _ => h
  | finish _ => exact fun h _ => h
  | rule _ k ih => exact fun h r => ih () h r
  | «at» p' k ih => exact fun h r => ih () h r
  | load a _ k ih => exact fun ⟨o, ho, h⟩ r => ⟨o, ho, ih o h r⟩
  | update a _ f k ih =>
    intro Γ p Q E s G h r
    exact ⟨h.1, ih () (s := { s with heap := s.heap.update a f }) h.2 r⟩
  | loadIfAlive a k ih => exact fun h r => ih _ h r
  | point _ k ih => exact fun h r => ih () h r
  | register _ _ => exact fun h _ => h
  | alloc o k ih =>
    intro Γ p Q E s G h r
    exact ih _ (s := { s with heap := s.heap.push o }) h r
  | fresh k ih =>
    intro Γ p Q E s G h r
    exact ih _ (s := { s with toks := s.toks + 1 }) h r
  | ask k ih => exact fun h r => ih _ h r
  | choose src m k ih =>
    intro Γ p Q E s G h r
    exact ⟨h.1, ih _ (s := { s with drawn := s.drawn.bump src }) h.2 r⟩
  | os q _ k ih =>
    intro Γ p Q E s G h r
    exact ih _ (s := { s with os := (Os.step s.os q).1 }) h r
  | call c hd _ _ k ih =>
    intro Γ p Q E s G h r
    obtain ⟨res, s1, hr, h1⟩ := h
    obtain ⟨G1, hr1, r1, _⟩ := runs_frz (B := B) hr rfl G r
    exact ⟨res, { s1 with gens := G1 }, hr1, ih res h1 r1⟩
  | handled own k ih => exact fun h r => ih _ h r
  | genState g k ih =>
    intro Γ p Q E s G h r
    obtain ⟨st, hs, h⟩ := h
    rcases r.at hs with ⟨x, _, hx, e, _⟩ | ⟨_, hx, _⟩
    · rw [e, dead_seen] at h
      exact ⟨x, hx, ih _ h r⟩
    · exact ⟨st, hx, ih _ h r⟩
  | newGen c k ih =>
    intro Γ p Q E s G h r
    have z := ih s.gens.size (s := { s with gens := s.gens.push (.fresh c) }) (G := G.push (.fresh c)) h r.push
    show wp M Γ (k G.size) _ _ p _
    rw [r.size]
    exact z
  | resume g q l k ih =>
    intro Γ p Q E s G h r
    obtain ⟨res, s1, hw, h1⟩ := h
    have key : ∃ G1, Wakes M Γ p g q { s with gens := G } res { s1 with gens := G1 } ∧ Rel B G1 s1.gens := by
      unfold Wakes at hw ⊢
      cases hg : s.gens[g]? with
      | none => rw [hg] at hw; exact hw.elim
      | some x =>
        rw [hg] at hw
        cases x with
        | fresh c =>
          obtain ⟨ns, hG⟩ := r.at' hg (fun _ _ _ _ _ _ z => nomatch z)
          rw [show ({ s with gens := G } : Shared).gens[g]? = some (.fresh c) from hG]
          cases q with
          | throw x =>
            obtain ⟨e1, rfl⟩ := hw
            exact ⟨G.setIfInBounds g .finished, ⟨e1, rfl⟩, r.set ns (x := .finished) trivial⟩
          | send v =>
            cases v with
            | none =>
              obtain ⟨e1, s2, hr, hq, e2, rfl⟩ := hw
              obtain ⟨G1, hr1, r1, q1⟩ := runs_frz (B := B) hr rfl _ (r.set ns (x := .running) trivial)
              exact ⟨G1.setIfInBounds g e1.genState, ⟨e1, { s2 with gens := G1 }, hr1, hq, e2, rfl⟩, r1.set ns (plain_genState q1)⟩
            | _ =>
              obtain ⟨e1, rfl⟩ := hw
              exact ⟨G, ⟨e1, rfl⟩, r⟩
        | suspended k0 l0 c0 p0 fs cl =>
          obtain ⟨e1, s2, hr, hq, e2, rfl⟩ := hw
          rcases r.at hg with ⟨x, _, hx, e, k, l, c, p, fs, cl, ex⟩ | ⟨ns, hG, pl⟩
          · rw [ex] at e
            simp only [dead, GenState.suspended.injEq] at e
            rw [e.1] at hr
            exact (no_runs hr _ rfl).elim
          · rw [show ({ s with gens := G } : Shared).gens[g]? = some (.suspended k0 l0 c0 p0 fs cl) from hG]
            obtain ⟨G1, hr1, r1, q1⟩ := runs_frz (B := B) hr pl _ (r.set ns (x := .running) trivial)
            exact ⟨G1.setIfInBounds g e1.genState, ⟨e1, { s2 with gens := G1 }, hr1, hq, e2, rfl⟩, r1.set ns (plain_genState q1)⟩
        | running =>
          obtain ⟨ns, hG⟩ := r.at' hg (fun _ _ _ _ _ _ z => nomatch z)
          obtain ⟨e1, rfl⟩ := hw
          exact ⟨G, by rw [show ({ s1 with gens := G } : Shared).gens[g]? = some .running from hG]; exact ⟨e1, rfl⟩, r⟩
        | finished =>
          obtain ⟨ns, hG⟩ := r.at' hg (fun _ _ _ _ _ _ z => nomatch z)
          obtain ⟨e1, rfl⟩ := hw
          exact ⟨G, by rw [show ({ s1 with gens := G } : Shared).gens[g]? = some .finished from hG]; exact ⟨e1, rfl⟩, r⟩
    obtain ⟨G1, hw1, r1⟩ := key
    exact ⟨res, { s1 with gens := G1 }, hw1, ih res h1 r1⟩
  | yield _ _ _ _ => exact fun h _ => h
  | stack k ih => exact fun h r => ih _ h r
  | fork _ _ => exact fun h _ => h
  | thread k ih => exact fun h r => ih _ h r
  | await _ _ _ _ _ => exact fun h _ => h

/-- THE RULE: what is shown with dead sleepers holds with the true ones -/
theorem wpAny_frz {M : Model} {A : Around} {B G : Array GenState} {α : Type} {t : Sem α} {Q : α → Shared → Prop} {E : Value → Shared → Prop} {s : Shared} (r : Rel B G s.gens) (h : wpAny M A t Q E s) :
    wpAny M A t (fun a s1 => ∃ s2, Q a s2 ∧ s1 = { s2 with gens := s1.gens } ∧ Rel B s1.gens s2.gens) (fun e s1 => ∃ s2, E e s2 ∧ s1 = { s2 with gens := s1.gens } ∧ Rel B s1.gens s2.gens) { s with gens := G } :=
  fun Γ p hΓ => wp_frz t (h Γ p hΓ) r
end Frz
end
section
set_option Elab.async false
set_option linter.all false
set_option autoImplicit false
set_option maxRecDepth 100000
set_option maxHeartbeats 1000000
/-! One stretch of a generator's run, with what it leaves told in full. -/
namespace Gy
open PySem PySem.Spec PyProof.Rows L2 GenW
open Sem (wp)

/-- from here the code runs to its next stop, of which Ph holds -/
def Leg (M : Model) (A : Around) (Ph : End → Shared → Prop) (c : Code) (t : Sem PySem.Fin) (fs : List Frame) (s : Shared) : Prop :=
  ∀ (G : PySem.Ctx) (p : Pos), G.code = c → G.Woken A → ∃ e s', Runs M G p t fs s e s' ∧ Ph e s'
section
variable {M : Model} {A : Around} {Ph : End → Shared → Prop} {c : Code} {fs : List Frame} {s : Shared}
theorem leg_wrap {α : Type} {m : Sem α} {K : α → Sem PySem.Fin} {J : Value → Sem PySem.Fin} {gd : Bool → Bool} {lv : List Value → List Value}
    (h : wpAny M (A.over c fs) m (fun a s' => Leg M A Ph c (K a) fs s') (fun x s' => Leg M A Ph c (J x) fs s') s) : Leg M A Ph c (m.wrap K J gd lv) fs s := by
  intro G p hc hG
  subst hc
  exact runs_wrap_of_wp K J gd lv m (h (G.over fs) p (hG.over fs)) (fun a p' s' z => z G p' rfl hG) fun x p' s' z => z G p' rfl hG
theorem leg_bind {α : Type} {m : Sem α} {K : α → Sem PySem.Fin} (h : wpAny M (A.over c fs) m (fun a s' => Leg M A Ph c (K a) fs s') (fun x s' => Leg M A Ph c (.raise x) fs s') s) : Leg M A Ph c (m >>= K) fs s := by
  rw [Sem.bind_eq_wrap']
  exact leg_wrap h
/-- the first part of a bind under a wrap -/
theorem leg_bindw {α β : Type} {m : Sem α} {f : α → Sem β} {K : β → Sem PySem.Fin} {J : Value → Sem PySem.Fin} {gd : Bool → Bool} {lv : List Value → List Value}
    (h : wpAny M (A.over c fs) m (fun a s' => Leg M A Ph c ((f a).wrap K J gd lv) fs s') (fun x s' => Leg M A Ph c (J x) fs s') s) : Leg M A Ph c ((m >>= f).wrap K J gd lv) fs s := by
  rw [Sem.bind_eq_wrap', Sem.wrap_wrap]
  exact leg_wrap h
theorem leg_at {p : Pos} {k : Unit → Sem PySem.Fin} (h : Leg M A Ph c (k ()) fs s) : Leg M A Ph c (.at p k) fs s :=
  leg_wrap (m := standAt p) (K := k) (J := .raise) (gd := id) (lv := id) (wpAny_standAt h)
theorem leg_point {l : List Value} {k : Unit → Sem PySem.Fin} (h : Leg M A Ph c (k ()) fs s) : Leg M A Ph c (.point l k) fs s :=
  leg_wrap (m := point) (K := k) (J := .raise) (gd := id) (lv := fun _ => l) (wpAny_point h)
theorem leg_call {c' : Code} {hd : Option Value} {g : Bool} {l : List Value} {k : Result → Sem PySem.Fin} (h : ∀ p, Leg M A Ph c' (M.den c') (.ret k hd g l c p [] :: fs) s) : Leg M A Ph c (.call c' hd g l k) fs s := by
  intro G p hc hG
  subst hc
  obtain ⟨e, s', hr, q⟩ := h p (G.goto c') p rfl (hG.goto c')
  exact ⟨e, s', runs_call_seg hr, q⟩
theorem leg_leaf {k : Result → Sem PySem.Fin} {hd : Option Value} {g : Bool} {l kp : List Value} {c1 : Code} {p1 : Pos} (r : Result) (h : Leg M A Ph c1 (k r) fs s) : Leg M A Ph c (leafOf r) (.ret k hd g l c1 p1 kp :: fs) s := by
  intro G p hc hG
  subst hc
  obtain ⟨e, s', hr, q⟩ := h (G.goto c1) p1 rfl (hG.goto c1)
  exact ⟨e, s', Runs.pop r hr, q⟩
theorem leg_again {c' : Code} (hq : c'.quiet = true) (h : Leg M A Ph c' (M.den c') fs s) : Leg M A Ph c (.pure (.again c')) fs s := by
  intro G p hc hG
  subst hc
  obtain ⟨e, s', hr, q⟩ := h (G.goto c') p rfl (hG.goto c')
  exact ⟨e, s', Runs.head (c₁ := c') (fun _ _ x => .again hq x) hr, q⟩
theorem leg_end (r : Result) (h : Ph (.ret r) s) : Leg M A Ph c (leafOf r) [] s := fun G p _ _ => ⟨.ret r, s, Runs.leaf r, h⟩
theorem leg_yield {v : Value} {g : Bool} {l : List Value} {k : Resume → Sem PySem.Fin} (hfs : splitAtGen fs = none) (h : ∀ p, Ph (.susp v g l k c p fs) s) : Leg M A Ph c (.yield v g l k) fs s := by
  intro G p hc hG
  subst hc
  exact ⟨_, s, Runs.yield' fs hfs, h p⟩
theorem leg_imp {Ph' : End → Shared → Prop} {t : Sem PySem.Fin} (h : Leg M A Ph c t fs s) (hi : ∀ e s', Ph e s' → Ph' e s') : Leg M A Ph' c t fs s := fun G p hc hG =>
  let ⟨e, s', hr, q⟩ := h G p hc hG
  ⟨e, s', hr, hi e s' q⟩
end

/-! ### a list's iterator, asked by its own method -/
section
variable {prog : Program} {w : World} {A : Around} {E : Value → Shared → Prop} {s : Shared}
theorem ask_list_item {it l : Addr} {i : Nat} {items : Array Value} {x : Value} {Q : Option Value → Shared → Prop} (hi : s.heap.IsListIter it l i) (hl : s.heap.IsList l items) (hx : items[i]? = some x)
    (hQ : ∀ h', h'.IsListIter it l (i + 1) → Heap.SameBut it s.heap h' → Q (some x) { s with heap := h' }) : wpAny (model prog w) A (callSpecial? (.ref it) "__next__") Q E s := by
  obtain ⟨o, e1, e2, e3⟩ := id hi
  obtain ⟨ol, q1, _, nl, q2⟩ := hl
  refine wpAny_callSpecial?_slot (name := Str.ofString "__next__") hi.typeIs slot_listiter_next (wpAny_call_entry slot_listiter_next hi.typeIs entry_listiter_next ?_ (args_listiter_next _))
  show wpAny _ _ (field (.ref it) 0 >>= _) _ _ s
  refine wpAny_bind (wpAny_field e1 e3 (x := .ref l) rfl ?_)
  show wpAny _ _ (if (Value.ref l == Value.none) = true then _ else _) _ _ s
  rw [if_neg (show ¬ ((Value.ref l == Value.none) = true) from Bool.false_ne_true)]
  show wpAny _ _ (field (.ref it) 1 >>= _) _ _ s
  refine wpAny_bind (wpAny_field e1 e3 (x := .int i 0) rfl ?_)
  show wpAny _ _ (seqItems? (.ref l) >>= _) _ _ s
  refine wpAny_bind (wpAny_seqItems q1 q2 ?_)
  simp only [Int.toNat_natCast, hx]
  refine wpAny_bind (wpAny_setField e1 e3 (by simp) (wpAny_pure ⟨x, rfl, hQ _ ?_ (Heap.SameBut.update ..)⟩))
  exact ⟨_, Heap.get?_update_self _ e1 (Obj.isFreed_of_fields (Obj.data_mapFields e3 _)), (Obj.cls_mapFields ..).trans e2, by
    rw [Obj.data_mapFields e3]; simp [rawInt]⟩
theorem ask_list_end {it l : Addr} {i : Nat} {items : Array Value} {Q : Option Value → Shared → Prop} (hh : A.handled = none) (hi : s.heap.IsListIter it l i) (hl : s.heap.IsList l items) (hx : items[i]? = none)
    (hE : ∀ e h', StopX e h' → Heap.ExtBut it s.heap h' → E e { s with heap := h' }) : wpAny (model prog w) A (callSpecial? (.ref it) "__next__") Q E s := by
  obtain ⟨o, e1, e2, e3⟩ := id hi
  obtain ⟨ol, q1, _, nl, q2⟩ := hl
  refine wpAny_callSpecial?_slot (name := Str.ofString "__next__") hi.typeIs slot_listiter_next (wpAny_call_entry slot_listiter_next hi.typeIs entry_listiter_next ?_ (args_listiter_next _))
  show wpAny _ _ (field (.ref it) 0 >>= _) _ _ s
  refine wpAny_bind (wpAny_field e1 e3 (x := .ref l) rfl ?_)
  show wpAny _ _ (if (Value.ref l == Value.none) = true then _ else _) _ _ s
  rw [if_neg (show ¬ ((Value.ref l == Value.none) = true) from Bool.false_ne_true)]
  show wpAny _ _ (field (.ref it) 1 >>= _) _ _ s
  refine wpAny_bind (wpAny_field e1 e3 (x := .int i 0) rfl ?_)
  show wpAny _ _ (seqItems? (.ref l) >>= _) _ _ s
  refine wpAny_bind (wpAny_seqItems q1 q2 ?_)
  simp only [Int.toNat_natCast, hx]
  refine wpAny_bind (wpAny_rule (wpAny_bind (wpAny_setField e1 e3 (by simp) ?_)))
  show wpAny _ _ (newExc (.type "StopIteration") [] >>= _) _ _ _
  refine wpAny_bind ?_
  simp only [newExc, newTuple]
  refine wpAny_bind (wpAny_newObj_type ?_ (by size_fits))
  refine wpAny_bind (m := firstArgMember _ _) (wpAny_of_eq (a := Value.none) (by first | rfl | (simp only [firstArgMember]; rfl)) ?_)
  refine wpAny_newObj_type ?_ (by size_fits)
  simp only [raiseNew]
  refine wpAny_bind (wpAny_handled ?_)
  first | rw [show A.in1.handled = none from hh] | rw [hh]
  refine wpAny_bind (wpAny_pure (wpAny_throw ?_))
  refine hE _ _ ⟨_, _, _, rfl, Heap.get?_push_size _ rfl, rfl, rfl, ?_⟩ (((Heap.SameBut.update ..).extBut.push _).push _)
  first
    | rfl
    | (rw [Array.getElem?_append_left (by decide)]; rfl)
    | kernel_rfl
end
theorem close_lst : typeLookup (.type "list_iterator") "close" = pure none := by rw [typeLookup_type, builtinLookup_eq_fast]; kernel_rfl

/-- «yield from» over a list's iterator, at work -/
abbrev codeYf (it : Addr) : Code := .builtin "proto.yield_from" ⟨[.ref it, .bool false, .none], []⟩
/-- asleep there: woken it asks the iterator again -/
def Wk (M : Model) (A : Around) (it : Addr) (fs : List Frame) (k : Resume → Sem PySem.Fin) : Prop :=
  ∀ (s : Shared) (Ph : End → Shared → Prop), (∃ o, s.heap.get? it = some o ∧ o.cls = .type "list_iterator") → Leg M A Ph (codeYf it) (M.den (codeYf it)) fs s → Leg M A Ph (codeYf it) (k (.send .none)) fs s
theorem den_codeYf {prog : Program} {w : World} {it : Addr} : (model prog w).den (codeYf it) = Builtin.«proto.yield_from» ⟨[.ref it, .bool false, .none], []⟩ := by
  show (match entryFor table "proto.yield_from" with | some b => b ⟨[.ref it, .bool false, .none], []⟩ | none => unsupported ((withoutEnding? "proto.yield_from" "#data").getD "proto.yield_from")) = _
  rw [entry_yf]
section
variable {prog : Program} {w : World} {A : Around} {Ph : End → Shared → Prop} {fs : List Frame} {s : Shared}
theorem leg_yf {it l : Addr} {j : Nat} {items : Array Value} (hh : (A.over (codeYf it) fs).handled = none) (hsp : splitAtGen fs = none) (hi : s.heap.IsListIter it l j) (hl : s.heap.IsList l items)
    (hy : ∀ v, items[j]? = some v → ∀ h' k lv p, h'.IsListIter it l (j + 1) → Heap.SameBut it s.heap h' → Wk (model prog w) A it fs k → Ph (.susp v false lv k (codeYf it) p fs) { s with heap := h' })
    (hd : items[j]? = none → ∀ h', Heap.ExtBut it s.heap h' → Leg (model prog w) A Ph (codeYf it) (.pure (.done (.ret .none))) fs { s with heap := h' }) :
    Leg (model prog w) A Ph (codeYf it) ((model prog w).den (codeYf it)) fs s := by
  rw [den_codeYf]
  unfold Builtin.«proto.yield_from»
  try dsimp only
  refine leg_bind (wpAny_pure ?_)
  try dsimp only
  refine leg_bind (wpAny_attempt (wpAny_holding ?_))
  rw [if_neg Bool.false_ne_true, if_pos (show (Value.none == Value.none) = true from rfl)]
  refine wpAny_bind (wpAny_rule (wpAny_bind ?_))
  cases hx : items[j]? with
  | none =>
    refine ask_list_end hh hi hl hx fun e h' hS hk => ?_
    obtain ⟨a, o, vs, rfl, hoa, hcls, hdat, h5⟩ := hS
    try dsimp only
    refine leg_bind (wpAny_endsTurn hoa hcls ?_)
    try dsimp only
    rw [if_pos rfl]
    first
      | refine leg_bind (wpAny_rule ?_)
      | (rw [if_neg Bool.false_ne_true]; refine leg_bind (wpAny_rule ?_))
      | (rw [if_neg Bool.false_ne_true]; refine leg_bind (wpAny_pure ?_); refine leg_bind (wpAny_rule ?_))
    refine leg_bind (wpAny_field hoa hdat h5 ?_)
    exact hd hx h' hk
  | some v =>
    refine ask_list_item hi hl hx fun h' hi' hk => ?_
    obtain ⟨oi, hoi, hoc, _⟩ := id hi'
    refine wpAny_pure ?_
    try dsimp only
    refine leg_bind (wpAny_typeOf (T := "list_iterator") ⟨oi, hoi, hoc⟩ ?_)
    try dsimp only
    first
      | (refine leg_bind (wpAny_of_eq close_lst ?_); refine leg_bind (wpAny_pure ?_))
      | refine leg_bind (wpAny_bind (wpAny_of_eq close_lst (wpAny_pure ?_)))
      | refine leg_bind (wpAny_of_eq close_lst ?_)
    try dsimp only
    refine leg_bind (wpAny_sleptOver hoi hoc (by decide) ?_)
    refine leg_yield hsp fun p => hy v hx h' _ _ p hi' hk fun s2 Ph2 ho2 hL => ?_
    obtain ⟨o2, e1, e2⟩ := ho2
    show Leg _ _ _ _ (Builtin.Generator.sleptOver (.ref it) false >>= fun _ => _) fs s2
    refine leg_bind (wpAny_sleptOver e1 e2 (by decide) ?_)
    try dsimp only
    refine leg_bind (wpAny_pure ?_)
    exact leg_again (plainId_quiet plain_yf _) hL
end
end Gy
end
section
set_option Elab.async false
set_option linter.all false
set_option autoImplicit false
set_option maxRecDepth 100000
set_option maxHeartbeats 1000000
/-! A generator's next, by its legs; a generator def of one «yield from»; a for over such a generator. -/
namespace Gy
open PySem PySem.Spec PyProof.Rows L2 GenW
open Sem (wp)

/-- what a generator does when it is asked -/
def LegOf (M : Model) (A : Around) (Ph : End → Shared → Prop) (gs : GenState) (s : Shared) : Prop :=
  match gs with
  | .fresh c => Leg M A Ph c (M.den c) [] s
  | .suspended k _ c _ fs _ => Leg M A Ph c (k (.send .none)) fs s
  | _ => False
section
variable {M : Model} {A : Around} {E : Value → Shared → Prop} {s : Shared}
theorem wake_leg {g : Nat} {gs : GenState} {l : List Value} {α : Type} {k : GenResult → Sem α} {Q : α → Shared → Prop} {Ph : End → Shared → Prop} (hg : s.gens[g]? = some gs) (hgo : LegOf M A Ph gs (s.setGen g .running))
    (h : ∀ e s1, Ph e s1 → e.quiet = true ∧ wpAny M A (k e.result) Q E (s1.setGen g e.genState)) : wpAny M A (.resume g (.send .none) l k) Q E s := by
  intro G p hG
  rw [Sem.wp_resume]
  cases gs with
  | fresh c =>
    obtain ⟨e, s1, hr, q⟩ := hgo (G.wake c p) p rfl (hG.wake c p)
    obtain ⟨hq, hw⟩ := h e s1 q
    exact ⟨_, _, by unfold Wakes; rw [hg]; exact ⟨e, s1, hr, hq, rfl, rfl⟩, hw G p hG⟩
  | suspended k0 l0 c0 p0 fs0 cl =>
    obtain ⟨e, s1, hr, q⟩ := hgo (G.wake c0 p) p0 rfl (hG.wake c0 p)
    obtain ⟨hq, hw⟩ := h e s1 q
    exact ⟨_, _, by unfold Wakes; rw [hg]; exact ⟨e, s1, hr, hq, rfl, rfl⟩, hw G p hG⟩
  | running => exact hgo.elim
  | finished => exact hgo.elim
end
section
variable {prog : Program} {w : World} {A : Around} {E : Value → Shared → Prop} {s : Shared}
theorem next_leg {a : Addr} {g : Nat} {gs : GenState} {Q : Option Value → Shared → Prop} {Ph : End → Shared → Prop} (hh : A.handled = none) (hl : s.heap.NoLimit) (hroom : A.depth < recursionLimit) (hg : s.heap.IsGen a g) (hgs : s.gens[g]? = some gs)
    (hgo : LegOf (model prog w) A.in1 Ph gs (s.setGen g .running))
    (hP : ∀ e s1, Ph e s1 → (e = .ret (.ok (.ret .none)) ∧ ∀ h', (∀ b o, s1.heap.get? b = some o → h'.get? b = some o) → Q none { s1.setGen g .finished with heap := h' }) ∨
      ∃ v lv k c p fs, e = .susp v false lv k c p fs ∧ fs.any Frame.guarded = false ∧ Q (some v) (s1.setGen g (.suspended k lv c p fs false))) :
    wpAny (model prog w) A (pyNext (.ref a)) Q E s := by
  unfold pyNext
  refine wpAny_bind (wpAny_attempt (wpAny_callSpecial?_slot (name := Str.ofString "__next__") hg.typeIs slot_gen_next (wpAny_call_entry slot_gen_next hg.typeIs entry_gen_next ?_ (args_gen_next _))))
  show wpAny _ A.in1 (Builtin.Generator.genWake (.ref a) (.send .none)) _ _ s
  unfold Builtin.Generator.genWake
  refine wpAny_bind (wpAny_holding (wpAny_genNumber hg (wpAny_bind (wpAny_genState hgs ?_))))
  have main : ∀ e s1, Ph e s1 → e.quiet = true ∧ wpAny (model prog w) A.in1 (match e.result with
      | .yielded v => (ret v : Sem PySem.Fin)
      | .returned v => do
        if v == .none then raiseNew (← newExc (.type "StopIteration") [])
        rule "generator.return-value"; throw (← newExc (.type "StopIteration") [v])
      | _ => unsupported "") (fun fin s' => ∃ v, fin = .done (.ret v) ∧ Q (some v) s')
      (fun x s' => wpAny (model prog w) A (isInstance x (.type "StopIteration")) (fun b s2 => b = true ∧ Q none s2) E s') (s1.setGen g e.genState) := by
    intro e s1 hp
    rcases hP e s1 hp with ⟨rfl, hq⟩ | ⟨v, lv, k, c, p, fs, rfl, hfs, hq⟩
    · refine ⟨rfl, ?_⟩
      show wpAny _ A.in1 (newExc (.type "StopIteration") [] >>= _) _ _ _
      refine wpAny_bind ?_
      simp only [newExc, newTuple]
      refine wpAny_bind (wpAny_newObj_type ?_ (by size_fits))
      refine wpAny_bind (m := firstArgMember _ _) (wpAny_of_eq (a := Value.none) (by first | rfl | (simp only [firstArgMember]; rfl)) ?_)
      refine wpAny_newObj_type ?_ (by size_fits)
      simp only [raiseNew]
      refine wpAny_bind (wpAny_bind (wpAny_handled ?_))
      first | rw [show A.in1.handled = none from hh] | rw [hh]
      refine wpAny_throw ?_
      refine wpAny_isInstance (T := "StopIteration") (b := true) ⟨_, Heap.get?_push_size _ rfl, rfl⟩ isSubtype_stop ?_
      exact ⟨rfl, hq _ fun b o hb => Heap.get?_push_of_some _ (Heap.get?_push_of_some _ hb)⟩
    · refine ⟨by simp [End.quiet, hfs], ?_⟩
      have e : (End.susp v false lv k c p fs).genState = .suspended k lv c p fs false := by simp [End.genState, hfs]
      rw [e]
      exact wpAny_pure ⟨v, rfl, hq⟩
  cases gs with
  | running => exact hgo.elim
  | finished => exact hgo.elim
  | _ =>
    refine wpAny_bind (wpAny_roomToWake hl hroom ?_)
    show wpAny _ A.in1 (.resume g (.send .none) [] _) _ _ s
    refine wake_leg hgs hgo fun e s1 hp => ?_
    obtain ⟨hq, hw⟩ := main e s1 hp
    refine ⟨hq, ?_⟩
    rcases hP e s1 hp with ⟨rfl, _⟩ | ⟨v, lv, k, c, p, fs, rfl, _, _⟩
    · refine wpAny_mono hw (fun fin s' h => ?_) fun x s' h => ?_
      · obtain ⟨v, rfl, q⟩ := h
        exact ⟨v, rfl, wpAny_pure q⟩
      · refine wpAny_bind (wpAny_mono h (fun b s2 hb => ?_) fun _ _ z => z)
        obtain ⟨rfl, q⟩ := hb
        exact wpAny_pure q
    · refine wpAny_mono hw (fun fin s' h => ?_) fun x s' h => ?_
      · obtain ⟨v, rfl, q⟩ := h
        exact ⟨v, rfl, wpAny_pure q⟩
      · refine wpAny_bind (wpAny_mono h (fun b s2 hb => ?_) fun _ _ z => z)
        obtain ⟨rfl, q⟩ := hb
        exact wpAny_pure q
end
end Gy
end
section
set_option Elab.async false
set_option linter.all false
set_option autoImplicit false
set_option maxRecDepth 100000
set_option maxHeartbeats 1000000
/-! A generator def whose body is one «yield from» of a call that gives a list: what its call gives, and its first stop. -/
namespace Gy
open PySem PySem.Spec PyProof.Rows L2 GenW

/-- the list of what is handed out is known to the generator alone -/
def rm (H : Hp) (L : Addr) : Hp := fun b => if b = L then none else H b
theorem rm_same {H : Hp} {L : Addr} : rm H L L = none := by unfold rm; rw [if_pos rfl]
theorem rm_ne {H : Hp} {L b : Addr} (h : b ≠ L) : rm H L b = H b := by unfold rm; rw [if_neg h]
theorem hok_rm {P : Program} {w : World} {H : Hp} {h : Heap} {L : Addr} {xs : List V} (hL : H L = some (.lst xs)) (x : HOk P w H h) : HOk P w (rm H L) h := fun b u e => by
  have hb : b ≠ L := fun z => by rw [z, rm_same] at e; cases e
  rw [rm_ne hb] at e
  refine (x b u e).stay (fun _ _ _ z => z) (fun c z => ?_) fun c ys z => ?_
  · rw [rm_ne (fun y => by rw [y, hL] at z; cases z)]
    exact z
  · rw [rm_ne (fun y => by rw [y, hL] at z; cases z)]
    exact z
theorem un_rm {fs ex : List Addr} {H H' : Hp} {h h' : Heap} {L : Addr} {xs : List V} (hL : H' L = some (.lst xs)) (u : Un fs ex H H' h h') : Un fs ex H (rm H' L) h h' where
  keep := u.keep
  slot := u.slot
  free := fun b o q n hx => by
    by_cases hb : b = L
    · rw [hb]
      exact rm_same
    · rw [rm_ne hb]
      exact u.free b o q n hx
  there := u.there
  tups := fun b ys q => by
    have z := u.tups b ys q
    rw [rm_ne (fun y => by rw [y, hL] at z; cases z)]
    exact z
  frzs := fun b o v q => by
    have z := u.frzs b o v q
    rw [rm_ne (fun y => by rw [y, hL] at z; cases z)]
    exact z
  tbls := fun b ps q => by
    obtain ⟨m, z⟩ := u.tbls b ps q
    exact ⟨m, by rw [rm_ne (fun y => by rw [y, hL] at z; cases z)]; exact z⟩

/-- behind the last item: the generator ends -/
def Fi (M : Model) (A : Around) (it : Addr) (fs : List Frame) : Prop :=
  ∀ (s : Shared) (Ph : End → Shared → Prop), Ph (.ret (.ok (.ret .none))) s → Leg M A Ph (codeYf it) (.pure (.done (.ret .none))) fs s
/-- asleep over the iterator it -/
structure Slp (M : Model) (A : Around) (it : Addr) (k : Resume → Sem PySem.Fin) (fs : List Frame) : Prop where
  wk : Wk M A it fs k
  fi : Fi M A it fs
  sp : splitAtGen fs = none
  gd : fs.any Frame.guarded = false
  hh : (A.over (codeYf it) fs).handled = none
/-- the first stop of a generator that was made at the state s (abstract heap H) -/
def Stop1 (P : Program) (w : World) (outer : List Env) (H : Hp) (s : Shared) (Q : List V → Hp → Prop) (a g : Nat) (A : Around) (e : End) (s1 : Shared) : Prop :=
  ∃ (H1 : Hp) (it L : Addr) (items : Array Value) (xs : List V), s1.os = s.os ∧ AllBare s1.gens ∧ Un (frs outer) [] H H1 s.heap s1.heap ∧ HOk P w H1 s1.heap ∧ s1.heap.IsGen a g ∧ H1 a = none ∧ H1 it = none ∧ s.heap.objs.size ≤ it ∧ it ≠ a ∧ L ≠ a ∧ L ≠ it ∧
    H L = none ∧ H1 L = some (.lst xs) ∧ Vals xs items.toList ∧ xs.length ≤ sizeLine ∧ s1.heap.IsList L items ∧ Q xs (rm H1 L) ∧
    ((xs = [] ∧ e = .ret (.ok (.ret .none))) ∨ ∃ v k lv p fs, items[0]? = some v ∧ e = .susp v false lv k (codeYf it) p fs ∧ s1.heap.IsListIter it L 1 ∧ Slp (model P w) A it k fs)
/-- what the call of the generator def gives -/
def Made (P : Program) (w : World) (k : Nat) (outer : List Env) (H : Hp) (s : Shared) (Q : List V → Hp → Prop) (u : Value) (s' : Shared) : Prop :=
  ∃ (a g : Nat) (c : Code), u = .ref a ∧ s.heap.objs.size ≤ a ∧ s'.heap.IsGen a g ∧ s'.gens[g]? = some (.fresh c) ∧ s'.heap.NoLimit ∧ s'.os = s.os ∧ AllBare s'.gens ∧ (∀ b o, s.heap.get? b = some o → s'.heap.get? b = some o) ∧
    ∀ (A : Around) (Ph : End → Shared → Prop), Room k A → A.frames = some outer → (∀ e s1, Stop1 P w outer H s Q a g A e s1 → Ph e s1) → Leg (model P w) A Ph c ((model P w).den c) [] (s'.setGen g .running)
/-- what a generator def promises: of its arguments, of what it will hand out -/
abbrev SpY := List V → Hp → (List V → Hp → Prop) → Prop
structure GFy (P : Program) (w : World) (K : PySem.W.Frag) (mg : Str → Option Value) (base : Heap) (k : Nat) (f : Addr) (fd : FuncData) (ps : List Str) (sp : SpY) : Prop where
  len : ∀ vs H Q, sp vs H Q → vs.length = ps.length
  run : ∀ (A : Around) (outer : List Env) (s : Shared) (H : Hp) (args : Args) (us : List Value) (vs : List V) (Q : List V → Hp → Prop), Room k A → Env0 P w K mg base A outer s H → BindsTo s fd args (ps.zip us) → Vals vs us → sp vs H Q →
    codeAny (model P w) A (.call (.ref f) args) (fun r s' => match r with | .ok (.ret u) => Made P w k outer H s Q u s' | _ => False) s
/-- the context in which its body runs -/
abbrev gx (P : Program) (w : World) (K : PySem.W.Frag) (mg : Str → Option Value) (base : Heap) (N : List Str) (qual : Str) (scope : Scope) (f : Addr) (cd : Value) (A : Around) (outer : List Env) (s : Shared) (H : Hp) (pn : List (Addr × Obj)) : Cx :=
  gcxOf P w K mg base N qual scope f cd A outer s H (fun _ _ _ => False) pn

section
variable {M : Model} {A : Around} {Ph : End → Shared → Prop} {c : Code} {fs : List Frame} {s : Shared}
theorem leg_bindw2 {al be ga : Type} {m : Sem al} {f : al → Sem be} {f2 : be → Sem ga} {K : ga → Sem PySem.Fin} {J : Value → Sem PySem.Fin} {gd : Bool → Bool} {lv : List Value → List Value}
    (h : wpAny M (A.over c fs) m (fun a s' => Leg M A Ph c ((f a).wrap (fun b => (f2 b).wrap K J gd lv) J gd lv) fs s') (fun x s' => Leg M A Ph c (J x) fs s') s) : Leg M A Ph c (((m >>= f) >>= f2).wrap K J gd lv) fs s := by
  rw [Sem.bind_eq_wrap' (m >>= f) f2, Sem.wrap_wrap]
  exact leg_bindw h
theorem leg_func {prog : Program} {w : World} {body : List Stmt} {env : Env} (h : Leg (model prog w) A Ph (.func body env) ((execs body env).wrap (fun fl => .pure (.done (.ret (match fl with | .ret v => v | _ => .none)))) (fun e => (leaving env e).wrap (fun _ => .raise e) .raise id id) id id) fs s) :
    Leg (model prog w) A Ph (.func body env) ((model prog w).den (.func body env)) fs s := by
  show Leg _ _ _ _ (.point [] fun _ => ((execs body env).onRaise (leaving env)) >>= _) fs s
  refine leg_point ?_
  have e : ((execs body env).onRaise (leaving env) >>= fun fl => (match fl with | .ret v => ret v | _ => ret .none : Sem PySem.Fin)) =
      (execs body env).wrap (fun fl => .pure (.done (.ret (match fl with | .ret v => v | _ => .none)))) (fun e => (leaving env e).wrap (fun _ => .raise e) .raise id id) id id := by
    rw [Sem.onRaise_eq_wrap, Sem.bind_eq_wrap', Sem.wrap_wrap]
    refine Sem.wrap_congr _ _ _ (fun fl => by cases fl <;> rfl) fun x => ?_
    rw [Sem.bind_eq_wrap, Sem.wrap_wrap]
    rfl
  first
    | (rw [← e] at h; exact h)
    | exact e ▸ h
end
theorem gfy_of {P : Program} {w : World} {K : PySem.W.Frag} {mg : Str → Option Value} {base : Heap} {k : Nat} {f : Addr} {name qual : Str} {params : Arguments} {scope : Scope} {dV kV doc pm cdv ct oc : Value} {an od : Option Addr}
    {osl : Array (Option Value)} {N ps : List Str} {sp : SpY} {e : Expr} {yp pos : Pos} (lk : K.lookup f = some ⟨oc, od, .func (PySem.W.fnOf name qual params [.Expr (.YieldFrom e yp) pos] scope dV kV doc pm an cdv ct), osl⟩) (hcd : PySem.W.codeIn K cdv qual = true) (S : GScope N ps scope)
    (len : ∀ vs H Q, sp vs H Q → vs.length = ps.length) (hin : ∀ L : Addr, interactive (envOfC qual scope L f cdv) = false)
    (hbody : ∀ (A : Around) (outer : List Env) (s : Shared) (H : Hp) (vs : List V) (Q : List V → Hp → Prop) (pn : List (Addr × Obj)), Room k (A.deeper (envOfC qual scope s.heap.objs.size f cdv)) → sp vs H Q →
      ∃ t, PE (gx P w K mg base N qual scope f cdv A outer s H pn).nox e t ∧ t (start N vs) H (fun v H1 => ∃ L xs, v = .ref L ∧ H L = none ∧ H1 L = some (.lst xs) ∧ Q xs (rm H1 L))) :
    GFy P w K mg base (k + 1) f (PySem.W.fnOf name qual params [.Expr (.YieldFrom e yp) pos] scope dV kV doc pm an cdv ct) ps sp := by
  refine ⟨len, fun A outer s H args us vs Q hr e0 hb r hsp => ?_⟩
  have hl := len _ _ _ hsp
  have KX : K.In s.heap := e0.mod.kin.keeps fun b o q => (e0.bs b o q).1
  have lim : s.heap.NoLimit := e0.mod.nolimit.keeps fun b o q => (e0.bs b o q).1
  have hkind : ∀ y ∈ ps.zip us, scope.names.lookup y.1 = some .local ∨ (scope.names.lookup y.1 = some .cell ∧ ((cellsFrom (s.heap.objs.size + 1) scope.names []).lookup y.1).isSome = true) := fun y hy => by
    rcases S.par y.1 (List.of_mem_zip hy).1 with q | q
    · exact .inl q
    · exact .inr ⟨q, PySem.W.cellsFrom_some _ _ _ (.inl q)⟩
  refine codeAny_call_generator hr.depth (KX _ _ lk) rfl S.co S.gen rfl (PySem.W.codeRec_of KX hcd) (hb _ _ _ _ ?_)
  refine wpAny_newFunctionEnv_cells S.kind hkind fun env he s1 x => ?_
  subst he
  have lim1 : s1.heap.NoLimit := lim.keeps x.toInCall.keep
  refine ⟨lim1, ?_⟩
  obtain ⟨h1, tk, es1, hk1⟩ := x.done
  have os1 : s1.os = s.os := by rw [es1]
  have gen1 : s1.gens = s.gens := by rw [es1]
  have lt1 : s.heap.objs.size < s1.heap.objs.size := x.toInCall.ns.lt
  have sz1 : s.heap.objs.size ≤ s1.heap.objs.size := Nat.le_of_lt lt1
  have kp1 : ∀ b o, s.heap.get? b = some o → s1.heap.get? b = some o := x.toInCall.keep
  have main : ∀ (go : Obj) (nm qn : Value) (tk2 : Nat), go.cls = .type "generator" → go.data = .fields #[.int s1.gens.size 0, nm, qn] → go.slots = #[] → (∀ h : Heap, (h.push go).get? h.objs.size = some go) →
      Made P w (k + 1) outer H s Q (.ref s1.heap.objs.size) { s1 with gens := s1.gens.push (.fresh (.func [.Expr (.YieldFrom e yp) pos] (envOfC qual scope s.heap.objs.size f cdv))), toks := tk2, heap := s1.heap.push go } := by
    intro go nm qn tk2 hgc hgd0 hgs hgp
    have hgen : ∀ h : Heap, h.get? s1.heap.objs.size = some go → h.IsGen s1.heap.objs.size s1.gens.size := fun h q => ⟨go, nm, qn, q, hgc, hgd0, hgs⟩
    have hpushed : (s1.heap.push go).get? s1.heap.objs.size = some go := hgp _
    have kp2 : ∀ b o, s1.heap.get? b = some o → (s1.heap.push go).get? b = some o := fun b o q => Heap.get?_push_of_some _ q
    refine ⟨s1.heap.objs.size, s1.gens.size, _, rfl, sz1, hgen _ hpushed, Array.getElem?_push_size .., lim1.keeps kp2, os1, AllBare.push (by rw [gen1]; exact e0.bare) rfl, fun b o q => kp2 b o (kp1 b o q), ?_⟩
    intro Aw Ph hrw hfr hPh
    have e0w : Env0 P w K mg base Aw outer s H := ⟨hfr, e0.mod, e0.bs, e0.bsz, e0.funs, e0.frf, e0.hok, e0.bare⟩
    obtain ⟨t, ht, hq⟩ := hbody Aw outer s H vs Q [(s1.heap.objs.size, go)] (hrw.deeper _) hsp
    have I1 : Inv (gx P w K mg base N qual scope f cdv Aw outer s H []) [] (start N vs) H s1 := inv_startG S hrw.hd e0w hl r x
    generalize hs2 : (({ s1 with gens := s1.gens.push (.fresh (.func [.Expr (.YieldFrom e yp) pos] (envOfC qual scope s.heap.objs.size f cdv))), toks := tk2, heap := s1.heap.push go } : Shared).setGen s1.gens.size .running) = s2
    have hheap : s2.heap = s1.heap.push go := by rw [← hs2]; rfl
    have hos : s2.os = s1.os := by rw [← hs2]; rfl
    have hba : AllBare s2.gens := by
      rw [← hs2]
      exact allBare_setGen (AllBare.push (by rw [gen1]; exact e0.bare) rfl) rfl
    have kp3 : ∀ b o, s1.heap.get? b = some o → s2.heap.get? b = some o := fun b o q => by rw [hheap]; exact kp2 b o q
    have I2 : Inv (gx P w K mg base N qual scope f cdv Aw outer s H []) [] (start N vs) H s2 :=
      I1.call' (ch := []) hos (Un.kept kp3) (I1.hok.kept kp3) hba fun b z => by simp at z
    have hea : s2.heap.get? s1.heap.objs.size = some go := by rw [hheap]; exact hpushed
    have hgd : ∀ v, go.data ≠ .cell v := fun v q => by rw [hgd0] at q; cases q
    have I3 : Inv (gx P w K mg base N qual scope f cdv Aw outer s H [(s1.heap.objs.size, go)]) [] (start N vs) H s2 := by
      refine Inv.pinnedG I2 fun p hp => ?_
      rw [List.append_nil] at hp
      rw [List.mem_singleton.mp hp]
      exact ⟨hea, I1.hok.fresh (Nat.le_refl _), Nat.ne_of_gt lt1, I1.nofs (Nat.le_refl _), hgd⟩
    -- the first leg
    refine leg_func ?_
    rw [execs_cons_wrap, exec_Expr _ _ pos (hin _) rfl]
    refine leg_at ?_
    refine leg_bindw2 (m := eval e _) ?_
    rw [over_func]
    refine wpAny_mono (ht.nox.run _ s2 _ H _ I3 hq) (fun v s3 hv => ?_) fun x s3 hx => ?_
    · obtain ⟨x, H3, J3, rx, L, xs, ex, hLn, hL, hQ⟩ := hv
      subst ex
      obtain rfl : v = Value.ref L := rx
      obtain ⟨its, rits, pl, hlen⟩ := J3.list (.inl (.inl hL))
      have hT : s3.TypeIs (.ref L) "list" := pl.isList.typeIs
      refine leg_at ?_
      show Leg _ _ _ _ ((yieldFrom _ (.ref L)).wrap _ _ id id) [] s3
      unfold yieldFrom
      refine leg_bindw (wpAny_typeOf hT ?_)
      rw [if_neg (by decide)]
      refine leg_bindw (wpAny_holding ?_)
      refine wpAny_pyIter_list pl.isList ?_
      have kq : ∀ b o, s3.heap.get? b = some o → (s3.heap.push { cls := .type "list_iterator", data := .fields #[.ref L, .int 0 0] }).get? b = some o := fun b o q => Heap.get?_push_of_some _ q
      refine leg_call fun p1 => ?_
      have J4 := J3.kept (t' := s3.toks) kq
      obtain ⟨ga, gn, _, _, _⟩ := J4.pin (s1.heap.objs.size, go) (List.mem_append_left _ (List.mem_singleton.mpr rfl))
      have hga : s3.heap.get? s1.heap.objs.size = some go := (J3.pin (s1.heap.objs.size, go) (List.mem_append_left _ (List.mem_singleton.mpr rfl))).1
      have nLa : L ≠ s1.heap.objs.size := fun z => by
        rw [z] at hL
        rw [hL] at gn
        cases gn
      have nIt : s3.heap.objs.size ≠ s1.heap.objs.size := fun z => by
        have q : s1.heap.objs.size < s3.heap.objs.size := Heap.lt_size hga
        exact absurd q (by rw [z]; exact Nat.lt_irrefl _)
      have nLi : L ≠ s3.heap.objs.size := fun z => by
        have q : L < s3.heap.objs.size := by obtain ⟨_, eo, _⟩ := pl.isList; exact Heap.lt_size eo
        exact absurd q (by rw [z]; exact Nat.lt_irrefl _)
      have hit : s.heap.objs.size ≤ s3.heap.objs.size := J3.sz
      have hH3 : H3 s3.heap.objs.size = none := J3.hok.fresh (Nat.le_refl _)
      have mk : ∀ (h4 : Heap) (en : End), (∀ b o, b ≠ s3.heap.objs.size → (s3.heap.push { cls := .type "list_iterator", data := .fields #[.ref L, .int 0 0] }).get? b = some o → h4.get? b = some o) →
          ((xs = [] ∧ en = .ret (.ok (.ret .none))) ∨ ∃ v k lv p fs, its.toArray[0]? = some v ∧ en = .susp v false lv k (codeYf s3.heap.objs.size) p fs ∧ h4.IsListIter s3.heap.objs.size L 1 ∧ Slp (model P w) Aw s3.heap.objs.size k fs) →
          Stop1 P w outer H s Q s1.heap.objs.size s1.gens.size Aw en { s3 with heap := h4 } := by
        intro h4 en hk4 hend
        have J5 : Inv (gx P w K mg base N qual scope f cdv Aw outer s H [(s1.heap.objs.size, go)]) [] (start N vs) H3 { s3 with heap := h4 } := by
          refine Inv.turned (s := { s3 with heap := s3.heap.push { cls := .type "list_iterator", data := .fields #[.ref L, .int 0 0] } }) (h' := h4) (it := s3.heap.objs.size) (t' := s3.toks) J4 hk4 hH3 (Nat.ne_of_gt J3.lt) (.inr J3.sz) (fun y c hy z => ?_) (fun q hq2 z => ?_)
          · obtain ⟨v, o, eo, _⟩ := J3.cell y c hy
            exact absurd (Heap.lt_size eo) (by rw [z]; exact Nat.lt_irrefl _)
          · rw [List.append_nil] at hq2
            rw [List.mem_singleton.mp hq2] at z
            exact nIt z.symm
        refine ⟨H3, s3.heap.objs.size, L, its.toArray, xs, J5.os, J5.bare, J5.base, J5.hok, hgen _ (J5.pin (s1.heap.objs.size, go) (List.mem_append_left _ (List.mem_singleton.mpr rfl))).1, gn, hH3, hit, nIt, nLa, nLi, hLn, hL, (by simpa using rits), hlen, ?_, hQ, hend⟩
        exact pl.isList.at fun o eo => hk4 L o nLi (kq L o eo)
      refine leg_yf (l := L) (j := 0) (items := its.toArray) ?_ rfl ⟨_, Heap.get?_push_size _ rfl, rfl, rfl⟩ (pl.isList.at fun o eo => kq L o eo) (fun v hv h' kk lv p hi' hs' hw => ?_) (fun hnone h' hx' => ?_)
      · exact hrw.hd
      · refine hPh _ _ (mk h' _ (fun b o hb q => (hs'.2 b hb).trans q) (.inr ⟨v, kk, lv, p, _, hv, rfl, hi', hw, fun s5 Ph5 h5 => leg_leaf (.ok (.ret .none)) (leg_end (.ok (.ret .none)) h5), rfl, rfl, hrw.hd⟩))
      · refine leg_leaf (.ok (.ret .none)) (leg_end (.ok (.ret .none)) (hPh _ _ (mk h' _ (fun b o hb q => hx' b o hb q) (.inl ⟨?_, rfl⟩))))
        have e1 := rits.length
        have e2 : its.length ≤ 0 := by simpa using hnone
        exact List.length_eq_zero_iff.mp (by omega)
    · refine leg_wrap ?_
      rw [over_func]
      exact wpAny_mono (show wpAny (model P w) (Aw.deeper (envOfC qual scope s.heap.objs.size f cdv)) (leaving (envOfC qual scope s.heap.objs.size f cdv) x) (fun _ s'' => CX P w outer H s (fun _ _ _ => False) x s'' ∧ ∀ p ∈ [(s1.heap.objs.size, go)], s''.heap.get? p.1 = some p.2) (fun _ _ => False) s3 from hx)
        (fun _ s'' q => by obtain ⟨⟨_, _, _, _, _, _, _, _, _, _, _, _, z⟩, _⟩ := q; exact z.elim) fun _ s'' q => q.elim
  exact main _ _ _ _ rfl rfl rfl fun h => Heap.get?_push_size _ rfl
end Gy
end
section
set_option Elab.async false
set_option linter.all false
set_option autoImplicit false
set_option maxRecDepth 100000
set_option maxHeartbeats 1000000
/-! A for over a generator of one «yield from»; its body may call. -/
namespace Gy
open PySem PySem.Spec PyProof.Rows L2 GenW

/-- another table of generators, all bare -/
theorem inv_gens {X : Cx} {pins : List (Addr × Obj)} {σ : L2.St} {H : Hp} {s : Shared} (I : Inv X pins σ H s) {G : Array GenState} (hG : AllBare G) : Inv X pins σ H { s with gens := G } :=
  ⟨I.ok, I.os, hG, I.base, I.loc, I.cell, I.free, I.freeC, I.pin, I.hok, I.len⟩
theorem inv_rm {X : Cx} {pins : List (Addr × Obj)} {σ : L2.St} {H : Hp} {s : Shared} {L : Addr} {xs : List V} (I : Inv X pins σ H s) (hL : H L = some (.lst xs)) : Inv X pins σ (rm H L) s := by
  have nn : ∀ b, H b = none → rm H L b = none := fun b q => by
    by_cases z : b = L
    · rw [z]
      exact rm_same
    · rw [rm_ne z]
      exact q
  exact ⟨I.ok, I.os, I.bare, un_rm hL I.base, I.loc, I.cell, nn _ I.free, fun x c q => nn _ (I.freeC x c q), fun p hp => let ⟨a, b, c⟩ := I.pin p hp; ⟨a, nn _ b, c⟩, hok_rm hL I.hok, I.len⟩
/-- a generator expression that has not begun -/
abbrev TGy := L2.St → Hp → (List V → Hp → Prop) → Prop
structure PGy (X : Cx) (k : Nat) (e : Expr) (tg : TGy) : Prop where
  run : ∀ (pins : List (Addr × Obj)) (s : Shared) (σ : L2.St) (H : Hp) (Q : List V → Hp → Prop), Inv X pins σ H s → tg σ H Q → wpAny (model X.prog X.w) X.A (eval e X.env)
    (fun u s' => ∃ H1 sc, Inv X pins σ H1 sc ∧ Made X.prog X.w k X.stack H1 sc Q u s') X.xe s
/-- for .. in g: what is handed out is xs -/
def tForG (tg : TGy) (g : TG) (tb : TS) : TS := fun D σ H => tg σ H fun xs H1 => ∃ Pv : Nat → L2.St → Hp → Prop, Pv 0 σ H1 ∧
  (∀ i x σ H, xs[i]? = some x → Pv i σ H → g x σ H fun σ2 H2 => tb { D with nx := Pv (i + 1), ct := Pv (i + 1), bk := D.nx } σ2 H2) ∧ (∀ σ H, Pv xs.length σ H → D.nx σ H)

/-- between two turns: the generator sleeps over its iterator, j items are out -/
structure Mid (X : Cx) (pins : List (Addr × Obj)) (xs : List V) (items : Array Value) (a g it L : Addr) (j : Nat) (σ : L2.St) (H : Hp) (s : Shared) : Prop where
  inv : Inv X pins σ H s
  isg : s.heap.IsGen a g
  sl : ∃ k lv p fs, s.gens[g]? = some (.suspended k lv (codeYf it) p fs false) ∧ Slp (model X.prog X.w) X.A.in1 it k fs
  li : s.heap.IsListIter it L j
  ls : s.heap.IsList L items
  na : H a = none
  ni : H it = none
  nl : H L = none

theorem vals_back {xs : List V} {items : Array Value} {j : Nat} {v : Value} (h : Vals xs items.toList) (e : items[j]? = some v) : ∃ x, xs[j]? = some x ∧ RelV x v := by
  have e1 := h.length
  have e2 : j < items.size := (Array.getElem?_eq_some_iff.mp e).1
  have e3 : items.toList.length = items.size := by simp
  have hx : xs[j]? = some (xs[j]'(by omega)) := List.getElem?_eq_getElem (by omega)
  obtain ⟨u, hu, ru⟩ := h.get hx
  rw [Array.getElem?_toList, e] at hu
  cases hu
  exact ⟨_, hx, ru⟩
section
variable {X : Cx} {tgt iter : Expr} {body : List Stmt} {k : Nat} {tg : TGy} {g : TG} {tb : TS} {pos : Pos}
theorem ps_forG (hnx : ∀ e s, ¬ X.xe e s) (hc : X.calm = true) (hr : Room (k + 1) X.A) (hi : PGy X k iter tg) (hg : PG X tgt g) (hb : PSs X body tb)
    (hs : ∀ x, foldedSetIterable iter X.env x = pure x := by intro _; rfl) : PS X (.For tgt iter body [] pos) (tForG tg g tb) := by
  refine ⟨fun pins s σ H D I h => ?_⟩
  refine wpAny_For (thn (hi.run pins s σ H _ I h) fun u s1 h1 => ?_) hs
  obtain ⟨H0, sc, I0, a, gn, c, rfl, ha, hgen, hgs, hlim, hos, hba, hkp, wake⟩ := h1
  refine wpAny_pyIter_gen hgen ?_
  have hh : X.A.handled = none := I0.ok.hd hc
  have hroom : X.A.depth < recursionLimit := by have := hr.dp; omega
  have hr1 : Room k X.A.in1 := Room.in1 hr
  -- what stands apart
  have apart : ∀ b, sc.heap.objs.size ≤ b → b ≠ X.env.locals ∧ b ∉ X.fs ∧ X.s_0.heap.objs.size ≤ b ∧ (∀ x c, X.env.cells.lookup x = some c → c ≠ b) ∧ ∀ p ∈ X.pn ++ pins, p.1 ≠ b := fun b hb => by
    refine ⟨Nat.ne_of_gt (Nat.lt_of_lt_of_le I0.lt hb), I0.nofs hb, Nat.le_trans I0.sz hb, fun x c q z => ?_, fun p hp z => ?_⟩
    · obtain ⟨v, o, eo, _⟩ := I0.cell x c q
      exact absurd (Heap.lt_size eo) (by rw [z]; exact Nat.not_lt.mpr hb)
    · exact absurd (Heap.lt_size (I0.pin p hp).1) (by rw [z]; exact Nat.not_lt.mpr hb)
  -- the loop
  let J : Nat → Shared → Prop := fun n s' => (n = sizeLine + 2 ∧ s' = s1) ∨ ∃ (xs : List V) (items : Array Value) (it L : Addr) (Pv : Nat → L2.St → Hp → Prop) (j : Nat) (σ' : L2.St) (H' : Hp), n + j = sizeLine + 1 ∧ j ≤ xs.length ∧ xs.length ≤ sizeLine ∧ Vals xs items.toList ∧
    sc.heap.objs.size ≤ it ∧ it ≠ a ∧ L ≠ a ∧ L ≠ it ∧ L ≠ X.env.locals ∧ L ∉ X.fs ∧ Mid X pins xs items a gn it L j σ' H' s' ∧ Pv j σ' H' ∧
    (∀ i x σ H, xs[i]? = some x → Pv i σ H → g x σ H fun σ2 H2 => tb { D with nx := Pv (i + 1), ct := Pv (i + 1), bk := D.nx } σ2 H2) ∧ (∀ σ H, Pv xs.length σ H → D.nx σ H)
  -- an item is out
  have turn : ∀ (n : Nat) (xs : List V) (items : Array Value) (it L : Addr) (Pv : Nat → L2.St → Hp → Prop) (j : Nat) (σ' : L2.St) (H' : Hp) (x : V) (v : Value) (s4 : Shared), n + j = sizeLine + 1 ∨ n = sizeLine + 2 → j + 1 ≤ xs.length → xs.length ≤ sizeLine → Vals xs items.toList → n + j + 1 ≥ 0 →
      sc.heap.objs.size ≤ it → it ≠ a → L ≠ a → L ≠ it → L ≠ X.env.locals → L ∉ X.fs → Mid X pins xs items a gn it L (j + 1) σ' H' s4 → Pv j σ' H' → xs[j]? = some x → RelV x v →
      (∀ i x σ H, xs[i]? = some x → Pv i σ H → g x σ H fun σ2 H2 => tb { D with nx := Pv (i + 1), ct := Pv (i + 1), bk := D.nx } σ2 H2) → (∀ σ H, Pv xs.length σ H → D.nx σ H) → sizeLine - j < n →
      wpAny (model X.prog X.w) X.A (letOwnedTupleGo tgt (.ref a) v) (fun _ s5 => wpAny (model X.prog X.w) X.A (assign tgt X.env v) (fun _ s6 => wpAny (model X.prog X.w) X.A (execs body X.env) (fun f s7 => match f with
        | .next | .cont => ∃ m, m < n ∧ J m s7
        | .brk => SP X pins D .next s7
        | .ret v => SP X pins D (.ret v) s7) X.xe s6) X.xe s5) X.xe s4 := by
    intro n xs items it L Pv j σ' H' x v s4 _ hj hle hv _ hit nia nLa nLi nLl nLf M p0 hx rx hturn hend hn
    obtain ⟨go, nm, qn, e1, e2, e3, e4⟩ := id M.isg
    refine go_of e1 e2 e3 (by decide) ?_
    obtain ⟨oi, i1, i2, i3⟩ := id M.li
    obtain ⟨oL, l1, l2, nL, l3⟩ := id M.ls
    obtain ⟨kk, lv, p, fs, hsl, S⟩ := M.sl
    obtain ⟨a1, a2, _, _, _⟩ := apart a ha
    obtain ⟨t1, t2, _, _, _⟩ := apart it hit
    have I5 : Inv X (pins ++ [(a, go), (it, oi), (L, oL)]) σ' H' s4 := M.inv.pins_of fun q hq => by
      rcases List.mem_append.mp hq with z | z
      · exact M.inv.pin q (List.mem_append_right _ z)
      · simp only [List.mem_cons, List.not_mem_nil, or_false] at z
        rcases z with z | z | z
        · rw [z]
          exact ⟨e1, M.na, a1, a2, fun w' y => by rw [e3] at y; cases y⟩
        · rw [z]
          exact ⟨i1, M.ni, t1, t2, fun w' y => by rw [i3] at y; cases y⟩
        · rw [z]
          exact ⟨l1, M.nl, nLl, nLf, fun w' y => by rw [l3] at y; cases y⟩
    have bare4 : ∀ y ∈ s4.gens, y.bare = true := M.inv.bare
    have I6 : Inv X (pins ++ [(a, go), (it, oi), (L, oL)]) σ' H' { s4 with gens := s4.gens.map Frz.dead } := inv_gens I5 (Frz.dead_bare bare4)
    have R0 : Frz.Rel s4.gens s4.gens ({ s4 with gens := s4.gens.map Frz.dead } : Shared).gens := Frz.Rel.start _
    have z1 := Frz.wpAny_frz R0 (hg.run _ _ σ' H' x v _ I6 rx (hturn j x σ' H' hx p0))
    refine wpAny_mono (show wpAny (model X.prog X.w) X.A (assign tgt X.env v) _ _ s4 from z1) (fun _ s6 h6 => ?_) fun y s6 h6 => ?_
    · obtain ⟨d6, ⟨σ6, H6, I7, q7⟩, e6, R6⟩ := h6
      have z2 := Frz.wpAny_frz R6 (hb.run _ d6 σ6 H6 _ I7 q7)
      rw [← e6] at z2
      refine wpAny_mono z2 (fun f s7 h7 => ?_) fun y s7 h7 => ?_
      · obtain ⟨d7, q8, e7, R7⟩ := h7
        have back : ∀ {σ7 : L2.St} {H7 : Hp}, Inv X (pins ++ [(a, go), (it, oi), (L, oL)]) σ7 H7 d7 → Inv X (pins ++ [(a, go), (it, oi), (L, oL)]) σ7 H7 s7 := fun {σ7 H7} I8 => by
          rw [e7]
          exact inv_gens I8 (R7.bare bare4 I8.bare)
        have again : ∀ {σ7 : L2.St} {H7 : Hp}, Inv X (pins ++ [(a, go), (it, oi), (L, oL)]) σ7 H7 d7 → Pv (j + 1) σ7 H7 → ∃ m, m < n ∧ J m s7 := fun {σ7 H7} I8 p8 => by
          have I9 := back I8
          obtain ⟨g1, g2, _, _, _⟩ := I9.pin (a, go) (List.mem_append_right _ (List.mem_append_right _ (by simp)))
          obtain ⟨g3, g4, _, _, _⟩ := I9.pin (it, oi) (List.mem_append_right _ (List.mem_append_right _ (by simp)))
          obtain ⟨g5, g6, _, _, _⟩ := I9.pin (L, oL) (List.mem_append_right _ (List.mem_append_right _ (by simp)))
          obtain ⟨y, y1, y2, _⟩ := R7.slp gn (by rw [hsl]; trivial)
          rw [hsl] at y1
          refine ⟨sizeLine - j, hn, .inr ⟨xs, items, it, L, Pv, j + 1, σ7, H7, by omega, hj, hle, hv, hit, nia, nLa, nLi, nLl, nLf, ⟨I9.unpinned, ⟨go, nm, qn, g1, e2, e3, e4⟩, ⟨kk, lv, p, fs, by rw [y2, ← y1], S⟩, ⟨oi, g3, i2, i3⟩, ⟨oL, g5, l2, nL, l3⟩, g2, g4, g6⟩, p8, hturn, hend⟩⟩
        cases f with
        | next => obtain ⟨σ7, H7, I8, n8⟩ := q8; exact again I8 n8
        | cont => obtain ⟨σ7, H7, I8, n8⟩ := q8; exact again I8 n8
        | brk => obtain ⟨σ7, H7, I8, n8⟩ := q8; exact ⟨σ7, H7, (back I8).unpinned, n8⟩
        | ret v => obtain ⟨x7, σ7, H7, I8, r7, n8⟩ := q8; exact ⟨x7, σ7, H7, (back I8).unpinned, r7, n8⟩
      · obtain ⟨d7, q8, _⟩ := h7
        exact (hnx _ _ q8).elim
    · obtain ⟨d6, q6, _⟩ := h6
      exact (hnx _ _ q6).elim
  refine codeAny_forLoop_any J ?_ (sizeLine + 2) (.inl ⟨rfl, rfl⟩)
  -- the item that has come is worked at
  have work : ∀ (n : Nat) (v : Value) (s4 : Shared), wpAny (model X.prog X.w) X.A (letOwnedTupleGo tgt (.ref a) v) (fun _ s5 => wpAny (model X.prog X.w) X.A (assign tgt X.env v) (fun _ s6 => wpAny (model X.prog X.w) X.A (execs body X.env) (fun f s7 => match f with
        | .next | .cont => ∃ m, m < n ∧ J m s7
        | .brk => SP X pins D .next s7
        | .ret v => SP X pins D (.ret v) s7) X.xe s6) X.xe s5) X.xe s4 → wpAny (model X.prog X.w) X.A (letOwnedTupleGo tgt (.ref a) v) (fun _ s5 => wpAny (model X.prog X.w) X.A (assign tgt X.env v) (fun _ s6 => wpAny (model X.prog X.w) X.A (execs body X.env) (fun f s7 => match f with
        | .next | .cont => ∃ m, m < n ∧ J m s7
        | .brk => (fun r s' => match r with | .ok f => SP X pins D f s' | .error e => cameBackBy (model X.prog X.w) X.A X.env X.xe e s') (.ok .next : Result) s7
        | .ret v => (fun r s' => match r with | .ok f => SP X pins D f s' | .error e => cameBackBy (model X.prog X.w) X.A X.env X.xe e s') (.ok (.ret v) : Result) s7)
        (notedBy (model X.prog X.w) X.A X.env fun e s' => cameBackBy (model X.prog X.w) X.A X.env X.xe e s') s6) (notedBy (model X.prog X.w) X.A X.env fun e s' => cameBackBy (model X.prog X.w) X.A X.env X.xe e s') s5)
        (notedBy (model X.prog X.w) X.A X.env fun e s' => cameBackBy (model X.prog X.w) X.A X.env X.xe e s') s4 := fun n v s4 hw =>
    wpAny_mono hw (fun _ s5 h5 => wpAny_mono h5 (fun _ s6 h6 => wpAny_mono h6 (fun f s7 h7 => by cases f <;> exact h7) fun e s' z => (hnx _ _ z).elim) fun e s' z => (hnx _ _ z).elim) fun e s' z => (hnx _ _ z).elim
  rintro n s3 (⟨rfl, rfl⟩ | ⟨xs, items, it, L, Pv, j, σ3, H3, hn, hj, hle, hv, hit, nia, nLa, nLi, nLl, nLf, M, p3, hturn, hend⟩)
  · -- the first stop
    refine wpAny_gsz (n := gn + 1) (Array.getElem?_eq_some_iff.mp hgs).1 ?_
    refine next_leg hh hlim hroom hgen hgs (Ph := fun e s2 => Stop1 X.prog X.w X.stack H0 sc (fun xs H1 => ∃ Pv : Nat → L2.St → Hp → Prop, Pv 0 σ H1 ∧
      (∀ i x σ H, xs[i]? = some x → Pv i σ H → g x σ H fun σ2 H2 => tb { D with nx := Pv (i + 1), ct := Pv (i + 1), bk := D.nx } σ2 H2) ∧ (∀ σ H, Pv xs.length σ H → D.nx σ H)) a gn X.A.in1 e s2) ?_ fun e s2 hst => ?_
    · exact wake X.A.in1 _ hr1 I0.ok.frames fun e s1 z => z
    · obtain ⟨H1, it, L, items, xs, os2, ba2, un2, hok2, isg2, na2, ni2, hit2, nia, nLa, nLi, hLn, hL, hv, hle, ls2, ⟨Pv, p0, hturn, hend⟩, hcase⟩ := hst
      have I2 : Inv X pins σ H1 s2 := I0.call' (ch := []) os2 un2 hok2 ba2 fun b z => by simp at z
      have I3 : Inv X pins σ (rm H1 L) s2 := inv_rm I2 hL
      have nLl : L ≠ X.env.locals := fun z => by
        have q := I2.free
        rw [← z, hL] at q
        cases q
      have nLf : L ∉ X.fs := fun z => by
        obtain ⟨_, o, ho, _⟩ := I2.ok.funs.mem z
        have q := I2.base.free L o ho (I2.ok.frf L z) fun y => I2.ok.exfs L y z
        rw [hL] at q
        cases q
      rcases hcase with ⟨rfl, rfl⟩ | ⟨v, kk, lv, p, fs, hv0, rfl, li2, S⟩
      · refine .inl ⟨rfl, fun h' hk _ => wpAny_execs_nil ?_⟩
        exact ⟨σ, rm H1 L, inv_gens (I3.kept (t' := s2.toks) hk) (allBare_setGen ba2 rfl), hend σ _ p0⟩
      · refine .inr ⟨v, lv, kk, _, p, fs, rfl, S.gd, fun hsz => ?_⟩
        obtain ⟨x, hx, rx⟩ := vals_back hv hv0
        have hlt : 0 < xs.length := (List.getElem?_eq_some_iff.mp hx).1
        have hsz2 : gn < s2.gens.size := by
          rw [setGen_size] at hsz
          exact hsz
        refine work _ v _ (turn _ xs items it L Pv 0 σ (rm H1 L) x v _ (.inr rfl) (by omega) hle hv (by omega) hit2 nia nLa nLi nLl nLf ⟨inv_gens I3 (allBare_setGen ba2 rfl), isg2, ⟨kk, lv, p, fs, setGen_at hsz2, S⟩, li2, ls2, ?_, ?_, rm_same⟩ p0 hx rx hturn hend (by omega))
        · rw [rm_ne nLa.symm]
          exact na2
        · rw [rm_ne nLi.symm]
          exact ni2
  · obtain ⟨kk, lv, p, fs, hsl, S⟩ := M.sl
    obtain ⟨oi, i1, i2, _⟩ := id M.li
    have hgl : gn < s3.gens.size := (Array.getElem?_eq_some_iff.mp hsl).1
    obtain ⟨t1, t2, t3, t4, t5⟩ := apart it hit
    refine wpAny_gsz (n := gn + 1) hgl ?_
    refine next_leg hh M.inv.nolimit hroom M.isg hsl (Ph := fun e s2 => ∃ h', s2 = { s3.setGen gn .running with heap := h' } ∧ ((items[j]? = none ∧ e = .ret (.ok (.ret .none)) ∧ Heap.ExtBut it s3.heap h') ∨
      ∃ v k lv p, items[j]? = some v ∧ e = .susp v false lv k (codeYf it) p fs ∧ h'.IsListIter it L (j + 1) ∧ Heap.SameBut it s3.heap h' ∧ Wk (model X.prog X.w) X.A.in1 it fs k)) ?_ fun e s2 hst => ?_
    · refine S.wk _ _ ⟨oi, i1, i2⟩ (leg_yf (l := L) (j := j) (items := items) S.hh S.sp M.li M.ls (fun v hv' h' k' lv' p' hi' hs' hw => ⟨h', rfl, .inr ⟨v, k', lv', p', hv', rfl, hi', hs', hw⟩⟩) fun hnone h' hx' => S.fi _ _ ⟨h', rfl, .inl ⟨hnone, rfl, hx'⟩⟩)
    · obtain ⟨h', rfl, hcase⟩ := hst
      rcases hcase with ⟨hnone, rfl, hx'⟩ | ⟨v, k', lv', p', hv', rfl, hi', hs', hw⟩
      · refine .inl ⟨rfl, fun h2 hk _ => wpAny_execs_nil ?_⟩
        have hjl : j = xs.length := by
          have e1 := hv.length
          have e2 : items.size ≤ j := by simpa using hnone
          have e3 : items.toList.length = items.size := by simp
          omega
        subst hjl
        have I4 : Inv X pins σ3 H3 { s3 with heap := h', toks := s3.toks } := M.inv.turned (it := it) (fun b o hb q => hx' b o hb q) M.ni t1 (.inr t3) t4 t5
        exact ⟨σ3, H3, inv_gens (I4.kept (t' := s3.toks) hk) (allBare_setGen (s := s3.setGen gn .running) (allBare_setGen M.inv.bare rfl) rfl), hend σ3 _ p3⟩
      · refine .inr ⟨v, lv', k', _, p', fs, rfl, S.gd, fun hsz => ?_⟩
        obtain ⟨x, hx, rx⟩ := vals_back hv hv'
        have hlt : j < xs.length := (List.getElem?_eq_some_iff.mp hx).1
        have I4 : Inv X pins σ3 H3 { s3 with heap := h', toks := s3.toks } := M.inv.turned (it := it) (fun b o hb q => (hs'.2 b hb).trans q) M.ni t1 (.inr t3) t4 t5
        have hgl2 : gn < (s3.setGen gn .running).gens.size := by
          rw [setGen_size]
          exact hgl
        refine work _ v _ (turn _ xs items it L Pv j σ3 H3 x v _ (by omega) (by omega) hle hv (by omega) hit nia nLa nLi nLl nLf ⟨inv_gens I4 (allBare_setGen (s := s3.setGen gn .running) (allBare_setGen M.inv.bare rfl) rfl), ?_, ⟨k', lv', p', fs, setGen_at (s := { s3.setGen gn .running with heap := h' }) hgl2, ⟨hw, S.fi, S.sp, S.gd, S.hh⟩⟩, hi', M.ls.at fun o q => (hs'.2 L nLi).trans q, M.na, M.ni, M.nl⟩ p3 hx rx hturn hend (by omega))
        obtain ⟨go, nm, qn, g1, g2⟩ := id M.isg
        exact ⟨go, nm, qn, (hs'.2 a nia.symm).trans g1, g2⟩
end
end Gy
end
section
set_option Elab.async false
set_option linter.all false
set_option autoImplicit false
set_option maxRecDepth 100000
set_option maxHeartbeats 1000000
/-! o.m() of a generator method, o with slots: walked by a for, or listed. -/
namespace Gy
open PySem PySem.Spec PyProof.Rows L2 GenW SlX

section
variable {X : Cx} {k : Nat} {f C : Addr} {fd : FuncData} {ps : List Str} {spy : SpY} {spg : SpG} {m : Str} {pos' apos : Pos} {o : Expr} {ta : TE}
/-- o.m() -/
def tGy (C : Addr) (spy : SpY) (ta : TE) : TGy := fun σ H Q => ta σ H fun x H1 => ∃ a dx vs, x = .ref a ∧ Slt H1 a C dx vs ∧ spy [x] H1 Q
theorem pgy_methSl {pl : Sem Bool} (he : PE X o ta) (c : SCls X.K C) (hm : Meth X.K C m f) (F : GFy X.prog X.w X.K X.mg X.base k f fd ps spy) (hr : Room k X.A) (hb : Binds X.K fd ps [])
    (ht : eval (.Call (.Attribute o m apos) [] [] pos') X.env = (do
      let ov ← eval o X.env
      standAt apos.atName
      let (f, first) ← holding [ov] (getMethod ov m pl)
      callWith pos' f first (backTo pos' (starEach [] X.env)) (backToKw pos' (keywordEach [] X.env))) := by rfl) :
    PGy X k (.Call (.Attribute o m apos) [] [] pos') (tGy C spy ta) := by
  refine ⟨fun pins s σ H Q I h => ?_⟩
  refine PySem.W.methodCall_KW (pl := pl) (thn (he.run pins s σ H _ I h) fun u s1 ⟨x, H1, I1, rx, a, dx, vs, ex, hs, q⟩ => ?_) ht
  subst ex
  obtain rfl : u = Value.ref a := rx
  refine getmethsl_ok I1 hs c hm ?_
  have hl : ([Value.ref a] ++ ([] : List Value)).length = ps.length := (F.len _ _ _ q : 1 = ps.length)
  refine PySem.W.callWith_K0 (first := [.ref a]) I1.kIn hm.kp (wpAny_call (codeAny_mono (F.run X.A X.stack s1 H1 ⟨[.ref a], []⟩ ([Value.ref a] ++ []) [V.ref a] Q hr I1.env0 (hb s1 [Value.ref a] I1.kIn hl) (show Vals [V.ref a] ([Value.ref a] ++ []) from .cons (show RelV (V.ref a) (Value.ref a) from rfl) .nil) q) fun r s' hq => ?_))
  cases r with
  | error e => exact False.elim hq
  | ok fl =>
    cases fl with
    | ret u => exact ⟨H1, s1, I1, hq⟩
    | next => exact False.elim hq
    | brk => exact False.elim hq
    | cont => exact False.elim hq
/-- the same for the layer's own list(..) -/
def tGenSl (C : Addr) (spg : SpG) (E : XK) (ta : TE) : TGen := fun σ H Q => ta σ H fun x H1 => ∃ a dx vs, x = .ref a ∧ Slt H1 a C dx vs ∧ spg [x] H1 Q E
theorem pgen_methSl {E : XK} {pl : Sem Bool} (he : PE X o ta) (c : SCls X.K C) (hm : Meth X.K C m f) (F : GFn X.prog X.w X.K X.mg X.base k f fd ps spg) (hr : Room k X.A) (hb : Binds X.K fd ps [])
    (ht : eval (.Call (.Attribute o m apos) [] [] pos') X.env = (do
      let ov ← eval o X.env
      standAt apos.atName
      let (f, first) ← holding [ov] (getMethod ov m pl)
      callWith pos' f first (backTo pos' (starEach [] X.env)) (backToKw pos' (keywordEach [] X.env))) := by rfl) :
    PGen X k (.Call (.Attribute o m apos) [] [] pos') (tGenSl C spg E ta) E := by
  refine ⟨fun pins s σ H cont I h => ?_⟩
  refine PySem.W.methodCall_KW (pl := pl) (thn (he.run pins s σ H _ I h) fun u s1 ⟨x, H1, I1, rx, a, dx, vs, ex, hs, q⟩ => ?_) ht
  subst ex
  obtain rfl : u = Value.ref a := rx
  refine getmethsl_ok I1 hs c hm ?_
  exact PySem.W.callWith_K0 (first := [.ref a]) I1.kIn hm.kp (run_gfn (us := [.ref a]) (vs := [.ref a]) (dvs := []) F hr hb .nil I1 (.cons rfl .nil) q)
end

/-! ### yield from a call that gives a list, by the layer -/
def tYfL (te : TE) : TYf := fun σ H Q => te σ H fun x H1 => ∃ a xs, x = .ref a ∧ H1 a = some (.lst xs) ∧ Q xs H1
theorem yf_lst {X : Cx} {e : Expr} {te : TE} (he : PE X e te) : YfE X e (tYfL te) := by
  refine ⟨fun pins s σ H Q I h => ?_⟩
  refine thn (he.run pins s σ H _ I h) fun v s1 ⟨x, H1, I1, r1, a, xs, ex, ha, hq⟩ => ?_
  subst ex
  obtain rfl : v = Value.ref a := r1
  obtain ⟨its, rits, pl, hlen⟩ := I1.list (.inl (.inl ha))
  refine ⟨"list", pl.isList.typeIs, by decide, wpAny_pyIter_list pl.isList ?_⟩
  have far : ∀ b o, s1.heap.get? b = some o → b ≠ s1.heap.objs.size := fun b o q => Nat.ne_of_lt (Heap.lt_size q)
  have kp : ∀ b o, s1.heap.get? b = some o → (s1.heap.push { cls := .type "list_iterator", data := .fields #[.ref a, .int 0 0] }).get? b = some o := fun b o q => Heap.get?_push_of_some _ q
  have hne : a ≠ s1.heap.objs.size := by obtain ⟨_, q, _⟩ := pl.isList; exact far a _ q
  refine ⟨s1.heap.objs.size, H1, xs, fun j h => h.IsListIter s1.heap.objs.size a j ∧ h.IsList a its.toArray, rfl, I1.kept (t' := s1.toks) kp, .inr I1.sz, Nat.ne_of_gt I1.lt, fun y c hy => ?_, I1.hok.fresh (Nat.le_refl _), fun p hp => ?_,
    ⟨⟨_, Heap.get?_push_size _ rfl, rfl, rfl⟩, pl.isList.at fun o q => kp a o q⟩, ⟨⟨"list_iterator", fun j h q => ?_, close_lst, by decide⟩, fun j h h' q hk => ?_, fun A' j x s2 Q' E' hA hx q hQ => ?_, fun A' s2 Q' E' hA q hE => ?_⟩, hq⟩
  · obtain ⟨v, o, ho, _⟩ := I1.cell y c hy
    exact far c o ho
  · exact far p.1 _ (I1.pin p hp).1
  · obtain ⟨⟨o, ho, hc, _⟩, _⟩ := q
    exact ⟨o, ho, hc⟩
  · obtain ⟨q1, q2⟩ := q
    exact ⟨q1.at fun o z => hk _ o (.inl rfl) z, q2.at fun o z => hk _ o (.inr (by rw [ha]; exact fun y => by cases y)) z⟩
  · obtain ⟨q1, q2⟩ := q
    obtain ⟨u, hu, ru⟩ := rits.get hx
    exact ask_list_item q1 q2 (x := u) (by simpa using hu) fun h' q1' hs => hQ u h' s2.toks ru ⟨q1', q2.extBut hs.extBut hne⟩ fun b o hb eb => hs.extBut b o hb eb
  · obtain ⟨q1, q2⟩ := q
    have hnone : its.toArray[xs.length]? = none := by
      have e := rits.length
      have e2 : its[xs.length]? = none := List.getElem?_eq_none_iff.mpr (by omega)
      simpa using e2
    exact ask_list_end hA q1 q2 hnone fun e h' hS hk => hE e h' s2.toks hS fun b o hb eb => hk b o hb eb
end Gy
end
section
set_option Elab.async false
set_option linter.all false
set_option autoImplicit false
set_option maxRecDepth 100000
set_option maxHeartbeats 1000000
/-! for x in zip(*c), c a tuple of two tuples, x ONE name: each pair is a new tuple, held while the next is drawn. -/
namespace Zn
open PySem PySem.Spec PyProof.Rows L2 RZ

section
variable {prog : Program} {w : World} {A : Around} {E : Value → Shared → Prop} {s : Shared}
theorem held_item {z TI TO T i1 i2 l1 l2 : Addr} {f : Bool} {oT : Obj} {k1 k2 : Nat} {xs ys : Array Value} {x y : Value} {Q : Option Value → Shared → Prop} (D : ZipApart z TI TO i1 i2 l1 l2)
    (hz : IsZipHeld s.heap z TI TO T f) (hT : s.heap.get? T = some oT) (hTI : IsPair s.heap TI (.ref i1) (.ref i2))
    (h1 : s.heap.IsTupleIter i1 l1 k1) (h2 : s.heap.IsTupleIter i2 l2 k2) (hl1 : s.heap.IsTuple l1 xs) (hl2 : s.heap.IsTuple l2 ys) (hx : xs[k1]? = some x) (hy : ys[k2]? = some y)
    (hQ : ∀ h', IsZipHeld h' z TI TO T true → h'.IsTupleIter i1 l1 (k1 + 1) → h'.IsTupleIter i2 l2 (k2 + 1) → IsPair h' s.heap.objs.size x y → h'.objs.size = s.heap.objs.size + 1 →
      (∀ c o, c ≠ z → c ≠ i1 → c ≠ i2 → s.heap.get? c = some o → h'.get? c = some o) → Q (some (.ref s.heap.objs.size)) { s with heap := h' }) :
    wpAny (model prog w) A (pyNext (.ref z)) Q E s := by
  have hTy : s.TypeIs (.ref z) "zip" := ⟨_, hz, rfl⟩
  unfold pyNext
  refine wpAny_bind (wpAny_attempt (wpAny_callSpecial?_slot (name := Str.ofString "__next__") hTy F.slot_zip_next (wpAny_call_entry F.slot_zip_next hTy F.entry_zip_next ?_ (F.args_zip_next_1 _))))
  show wpAny _ _ (field (.ref z) 2 >>= _) _ _ _
  refine wpAny_bind (wpAny_field hz rfl (x := .bool false) rfl ?_)
  show wpAny _ _ (field (.ref z) 3 >>= _) _ _ _
  refine wpAny_bind (wpAny_field hz rfl (x := .ref TI) rfl ?_)
  refine wpAny_bind (wpAny_seqItems hTI rfl ?_)
  show wpAny _ _ (Builtin.SmallTypes.ownedTupleIsFree (.ref z) >>= _) _ _ _
  refine wpAny_bind (wpAny_tupleHeld_zip hz hT fun g1 hz1 hs1 => ?_)
  simp only [Bool.false_eq_true, if_false]
  refine wpAny_bind ?_
  rw [← Array.forIn_toList]
  simp only [List.forIn_cons, List.forIn_nil]
  refine wpAny_bind (wpAny_bind (wpAny_holding ?_))
  show wpAny _ _ (Builtin.SmallTypes.nextOf (.ref i1) >>= _) _ _ _
  refine wpAny_bind (nextOf_tuple_item (s := { s with heap := g1 }) (h1.extBut hs1.extBut D.i1z) (hl1.extBut hs1.extBut D.l1z) hx fun g2 h1b hs2 => wpAny_pure ?_)
  refine wpAny_pure ?_
  refine wpAny_bind (wpAny_bind (wpAny_holding ?_))
  show wpAny _ _ (Builtin.SmallTypes.nextOf (.ref i2) >>= _) _ _ _
  refine wpAny_bind (nextOf_tuple_item (s := { s with heap := g2 }) ((h2.extBut hs1.extBut D.i2z).extBut hs2.extBut D.i12.symm) ((hl2.extBut hs1.extBut D.l2z).extBut hs2.extBut D.l2i1) hy fun g3 h2b hs3 => wpAny_pure ?_)
  refine wpAny_pure (wpAny_pure ?_)
  show wpAny _ _ (newTuple [x, y] >>= _) _ _ _
  refine wpAny_bind (wpAny_newTuple ?_)
  have hsz : g3.objs.size = s.heap.objs.size := by rw [hs3.1, hs2.1, hs1.1]
  have hz3 : IsZipHeld g3 z TI TO T true := hs3.extBut _ _ D.i2z.symm (hs2.extBut _ _ D.i1z.symm hz1)
  have hk : ∀ c o, c ≠ z → c ≠ i1 → c ≠ i2 → s.heap.get? c = some o → g3.get? c = some o := fun c o c1 c2 c3 e => hs3.extBut _ _ c3 (hs2.extBut _ _ c2 (hs1.extBut _ _ c1 e))
  have h1c : g3.IsTupleIter i1 l1 (k1 + 1) := h1b.extBut hs3.extBut D.i12
  have hp : IsPair (g3.push { cls := .type "tuple", data := .seq #[x, y] }) g3.objs.size x y := Heap.get?_push_size _ rfl
  have hz4 : (g3.push { cls := .type "tuple", data := .seq #[x, y] }).objs.size = g3.objs.size + 1 := Heap.size_push ..
  refine wpAny_pure ⟨_, rfl, ?_⟩
  show wpAny _ _ (pure (some (Value.ref g3.objs.size))) _ _ _
  rw [hsz] at hp hz4 ⊢
  exact wpAny_pure (hQ _ (Heap.get?_push_of_some _ hz3) (h1c.at fun o e => Heap.get?_push_of_some _ e) (h2b.at fun o e => Heap.get?_push_of_some _ e) hp hz4 fun c o c1 c2 c3 e => Heap.get?_push_of_some _ (hk c o c1 c2 c3 e))
theorem held_end {z TI TO T i1 i2 l1 l2 : Addr} {f : Bool} {oT : Obj} {k1 k2 : Nat} {xs ys : Array Value} {Q : Option Value → Shared → Prop} (hh : A.handled = none) (D : ZipApart z TI TO i1 i2 l1 l2)
    (hz : IsZipHeld s.heap z TI TO T f) (hT : s.heap.get? T = some oT) (hTI : IsPair s.heap TI (.ref i1) (.ref i2))
    (h1 : s.heap.IsTupleIter i1 l1 k1) (h2 : s.heap.IsTupleIter i2 l2 k2) (hl1 : s.heap.IsTuple l1 xs) (hl2 : s.heap.IsTuple l2 ys) (hend : xs[k1]? = none)
    (hQ : ∀ h', (∀ c o, c ≠ z → c ≠ i1 → c ≠ i2 → s.heap.get? c = some o → h'.get? c = some o) → Q none { s with heap := h' }) : wpAny (model prog w) A (pyNext (.ref z)) Q E s := by
  have hTy : s.TypeIs (.ref z) "zip" := ⟨_, hz, rfl⟩
  unfold pyNext
  refine wpAny_bind (wpAny_attempt (wpAny_callSpecial?_slot (name := Str.ofString "__next__") hTy F.slot_zip_next (wpAny_call_entry F.slot_zip_next hTy F.entry_zip_next ?_ (F.args_zip_next_1 _))))
  show wpAny _ _ (field (.ref z) 2 >>= _) _ _ _
  refine wpAny_bind (wpAny_field hz rfl (x := .bool false) rfl ?_)
  show wpAny _ _ (field (.ref z) 3 >>= _) _ _ _
  refine wpAny_bind (wpAny_field hz rfl (x := .ref TI) rfl ?_)
  refine wpAny_bind (wpAny_seqItems hTI rfl ?_)
  show wpAny _ _ (Builtin.SmallTypes.ownedTupleIsFree (.ref z) >>= _) _ _ _
  refine wpAny_bind (wpAny_tupleHeld_zip hz hT fun g1 hz1 hs1 => ?_)
  simp only [Bool.false_eq_true, if_false]
  refine wpAny_bind ?_
  rw [← Array.forIn_toList]
  simp only [List.forIn_cons, List.forIn_nil]
  refine wpAny_bind (wpAny_bind (wpAny_holding ?_))
  show wpAny _ _ (Builtin.SmallTypes.nextOf (.ref i1) >>= _) _ _ _
  refine wpAny_bind (nextOf_tuple_end (s := { s with heap := g1 }) hh (h1.extBut hs1.extBut D.i1z) (hl1.extBut hs1.extBut D.l1z) hend fun g2 e hs2 he => ?_)
  obtain ⟨o, ho, hc⟩ := he
  refine wpAny_bind (wpAny_isInstance (T := "StopIteration") (b := true) ⟨o, ho, hc⟩ isSubtype_stop ?_)
  exact wpAny_pure (hQ _ fun c o c1 c2 _ q => hs2 _ _ c2 (hs1.extBut _ _ c1 q))
end
end Zn
namespace Zn
open PySem PySem.Spec PyProof.Rows L2 RZ
/-- T(*e), T a built-in class -/
theorem callWith_typeS {M : Model} {A : Around} {E : Value → Shared → Prop} {s : Shared} {env : Env} {pos p : Pos} {T : String} {e : Expr} {Q : Value → Shared → Prop}
    (h : wpAny M A (eval e env) (fun v s1 => PySem.W.StarOf M A E v (fun vs s2 => wpAny M A (call (.type T) vs) Q E s2) s1) E s) (he : starEach [.Starred e p] env = [(true, eval e env)] := by rfl) :
    wpAny M A (callWith pos (.type T) [] (backTo pos (starEach [.Starred e p] env)) []) Q E s := by
  rw [he]
  unfold callWith
  refine wpAny_bind (wpAny_holding (wpAny_mono (PySem.W.ks_lone (Q := fun a s2 => wpAny M A (call (.type T) a.pos a.kw) Q E s2) h) (fun a s1 h1 => wpAny_bind (wpAny_standAt ?_)) fun _ _ y => y))
  refine wpAny_bind (m := keeperOf (.type T)) (wpAny_pure ?_)
  refine wpAny_bind (wpAny_mono (PySem.wpAny_operating h1) (fun r s2 hr => wpAny_bind (wpAny_holding (wpAny_point (wpAny_pure hr)))) fun _ _ y => y)

/-- for .. in zip(*e): e a tuple of the two tuples at a and b; T0: the first pair that came -/
def tForZ (K : PySem.W.Frag) (te : TE) (g : TG) (tb : TS) : TS := fun D σ H => te σ H fun v H1 => ∃ (c a b : Addr) (xs ys : List V), v = .ref c ∧ SqT K H1 c [.ref a, .ref b] ∧ SqT K H1 a xs ∧ SqT K H1 b ys ∧ xs.length = ys.length ∧
  ∃ Pv : Nat → Addr → L2.St → Hp → Prop, (∀ T0, Pv 0 T0 σ H1) ∧ (∀ i T0 σ H, Pv i T0 σ H → SqT K H a xs ∧ SqT K H b ys ∧ (0 < i → ∃ zs, H T0 = some (.tup zs))) ∧
    (∀ i x y T0 T σ H, xs[i]? = some x → ys[i]? = some y → Pv i T0 σ H → H T = none → (i = 0 → T0 = T) → g (.ref T) σ (upd H T (.tup [x, y])) fun σ2 H2 => tb { D with nx := Pv (i + 1) T0, ct := Pv (i + 1) T0, bk := D.nx } σ2 H2) ∧
    (∀ T0 σ H, Pv xs.length T0 σ H → D.nx σ H)
/-- the zip as it stands ahead of its turn i -/
structure Zs (z TI TO i1 i2 a b : Addr) (i : Nat) (T0 : Addr) (h : Heap) : Prop where
  zp : (i = 0 ∧ IsZip h z TI TO .none) ∨ (0 < i ∧ ∃ f, IsZipHeld h z TI TO T0 f)
  ti : IsPair h TI (.ref i1) (.ref i2)
  to_ : ∃ x y, IsPair h TO x y
  t1 : h.IsTupleIter i1 a i
  t2 : h.IsTupleIter i2 b i
theorem Zs.obj {z TI TO i1 i2 a b : Addr} {i : Nat} {T0 : Addr} {h : Heap} (q : Zs z TI TO i1 i2 a b i T0 h) : ∀ c ∈ [z, TI, TO, i1, i2], ∃ o, h.get? c = some o ∧ ∀ v, o.data ≠ .cell v := fun c hc => by
  simp only [List.mem_cons, List.not_mem_nil, or_false] at hc
  obtain ⟨x, y, e3⟩ := q.to_
  obtain ⟨o1, e4, _, d4⟩ := q.t1
  obtain ⟨o2, e5, _, d5⟩ := q.t2
  rcases hc with rfl | rfl | rfl | rfl | rfl
  · rcases q.zp with ⟨_, e⟩ | ⟨_, f, e⟩
    · exact ⟨_, e, fun v y => by cases y⟩
    · exact ⟨_, e, fun v y => by cases y⟩
  · exact ⟨_, q.ti, fun v y => by cases y⟩
  · exact ⟨_, e3, fun v y => by cases y⟩
  · exact ⟨o1, e4, fun v y => by rw [d4] at y; cases y⟩
  · exact ⟨o2, e5, fun v y => by rw [d5] at y; cases y⟩
theorem Zs.keep {z TI TO i1 i2 a b : Addr} {i : Nat} {T0 : Addr} {h h' : Heap} (q : Zs z TI TO i1 i2 a b i T0 h) (k : ∀ c ∈ [z, TI, TO, i1, i2], ∀ o, h.get? c = some o → h'.get? c = some o) : Zs z TI TO i1 i2 a b i T0 h' where
  zp := by
    rcases q.zp with ⟨e0, e⟩ | ⟨e0, f, e⟩
    · exact .inl ⟨e0, k z (by simp) _ e⟩
    · exact .inr ⟨e0, f, k z (by simp) _ e⟩
  ti := k TI (by simp) _ q.ti
  to_ := let ⟨x, y, e⟩ := q.to_; ⟨x, y, k TO (by simp) _ e⟩
  t1 := q.t1.at fun o e => k i1 (by simp) o e
  t2 := q.t2.at fun o e => k i2 (by simp) o e

section
variable {X : Cx} {e : Expr} {x : Str} {body : List Stmt} {te : TE} {g : TG} {tb : TS} {px p sp_ pos fpos : Pos}
theorem ps_forZ (hp : PassesOwn (model X.prog X.w) X.A X.env X.xe) (hc : X.calm = true) (hgz : Gl X "zip") (hm : X.mg "zip" = none) (he : PE X e te) (hg : PG X (.Name x px) g) (hb : PSs X body tb)
    (hst : starEach [.Starred e sp_] X.env = [(true, eval e X.env)] := by rfl)
    (hs : ∀ y, foldedSetIterable (.Call (.Name "zip" p) [.Starred e sp_] [] pos) X.env y = pure y := by intro _; rfl) : PS X (.For (.Name x px) (.Call (.Name "zip" p) [.Starred e sp_] [] pos) body [] fpos) (tForZ X.K te g tb) := by
  refine ⟨fun pins s σ H D I h => ?_⟩
  refine wpAny_For ?_ hs
  refine Call_ (ld_blt I hgz hm PyProof.Rows.boot_zip (callWith_typeS (thn (he.run pins s σ H _ I h) fun v s1 hv => ?_) hst))
  obtain ⟨vv, H1, I1, rv, c, a, b, xs, ys, ev, hqc, hqa, hqb, hlen, Pv, p0, hq, hturn, hend⟩ := hv
  subst ev
  obtain rfl : v = Value.ref c := rv
  refine star_tup I1 hqc fun us s2 I2 ru => ?_
  cases ru with
  | cons ra ru =>
    cases ru with
    | cons rb ru =>
      cases ru
      cases ra
      cases rb
      obtain ⟨its, r1, q1, z1⟩ := I2.tuple hqa
      obtain ⟨its2, r2, q2, z2⟩ := I2.tuple hqb
      obtain ⟨o1, w1, _⟩ := id q1
      obtain ⟨o2, w2, _⟩ := id q2
      have D5 := PySem.W.ktu_apart s2.heap.objs.size a b (Heap.lt_size w1) (Heap.lt_size w2)
      refine call_zipT (show s2.heap.IsTuple a its.toArray from q1) (show s2.heap.IsTuple b its2.toArray from q2) fun h' hz hTI hTO h1 h2 hsz hk => wpAny_pyIter_zip hz ?_
      have I3 : Inv X pins σ H1 { s2 with heap := h' } := I2.kept (t' := s2.toks) hk
      have fresh : ∀ d, d ∈ [s2.heap.objs.size + 4, s2.heap.objs.size + 2, s2.heap.objs.size + 3, s2.heap.objs.size, s2.heap.objs.size + 1] → ∀ H', H' d = none → FpOk X pins H' d := fun d hd H' hn => by
        have hle : s2.heap.objs.size ≤ d := by
          simp only [List.mem_cons, List.not_mem_nil, or_false] at hd
          rcases hd with y | y | y | y | y <;> (rw [y]; first | exact Nat.le_refl _ | exact Nat.le_add_right _ _)
        exact I2.fpOk hle hn
      have fr0 : ∀ d, d ∈ [s2.heap.objs.size + 4, s2.heap.objs.size + 2, s2.heap.objs.size + 3, s2.heap.objs.size, s2.heap.objs.size + 1] → H1 d = none := fun d hd => by
        have hle : s2.heap.objs.size ≤ d := by
          simp only [List.mem_cons, List.not_mem_nil, or_false] at hd
          rcases hd with y | y | y | y | y <;> (rw [y]; first | exact Nat.le_refl _ | exact Nat.le_add_right _ _)
        exact I2.hok.fresh hle
      generalize hzz : s2.heap.objs.size + 4 = z at *
      generalize hti : s2.heap.objs.size + 2 = TI at *
      generalize hto : s2.heap.objs.size + 3 = TO at *
      generalize hi2 : s2.heap.objs.size + 1 = i2 at *
      generalize hi1 : s2.heap.objs.size = i1 at *
      have hh : X.A.handled = none := I2.ok.hd hc
      refine codeAny_forLoop_any (fun n s' => ∃ i T0 σ' H', n + i = xs.length ∧ Inv X pins σ' H' s' ∧ Zs z TI TO i1 i2 a b i T0 s'.heap ∧ (∀ d ∈ [z, TI, TO, i1, i2], H' d = none) ∧ Pv i T0 σ' H' ∧ (i = 0 → ∀ T, Pv 0 T σ' H')) ?_ xs.length
        ⟨0, 0, σ, H1, rfl, I3, ⟨.inl ⟨rfl, hz⟩, hTI, ⟨_, _, hTO⟩, h1, h2⟩, fr0, p0 0, fun _ T => p0 T⟩
      rintro n s3 ⟨i, T0, σ3, H3, hn, J, Z, fr3, pv, pv0⟩
      obtain ⟨qa, qb, qT⟩ := hq i T0 σ3 H3 pv
      obtain ⟨as, ra, ta, _⟩ := J.tuple qa
      obtain ⟨bs, rb, tb', _⟩ := J.tuple qb
      have fp3 : ∀ d ∈ [z, TI, TO, i1, i2], FpOk X pins H3 d := fun d hd => fresh d hd H3 (fr3 d hd)
      have la := ra.length
      have lb := rb.length
      -- the pair at T has come
      have work : ∀ (T0 T : Addr) (y1 y2 : V) (s4 : Shared), xs[i]? = some y1 → ys[i]? = some y2 → H3 T = none → (i = 0 → T0 = T) → Pv i T0 σ3 H3 → Inv X pins σ3 (upd H3 T (.tup [y1, y2])) s4 → Zs z TI TO i1 i2 a b (i + 1) T0 s4.heap → (∀ d ∈ [z, TI, TO, i1, i2], (upd H3 T (.tup [y1, y2])) d = none) →
          wpAny (model X.prog X.w) X.A (letOwnedTupleGo (.Name x px) (.ref z) (.ref T)) (fun _ s1' => wpAny (model X.prog X.w) X.A (assign (.Name x px) X.env (.ref T)) (fun _ s2' => wpAny (model X.prog X.w) X.A (execs body X.env) (fun f s3' => match f with
            | .next | .cont => ∃ m, m < n ∧ ∃ i T0 σ' H', m + i = xs.length ∧ Inv X pins σ' H' s3' ∧ Zs z TI TO i1 i2 a b i T0 s3'.heap ∧ (∀ d ∈ [z, TI, TO, i1, i2], H' d = none) ∧ Pv i T0 σ' H' ∧ (i = 0 → ∀ T, Pv 0 T σ' H')
            | .brk => SP X pins D .next s3'
            | .ret v => SP X pins D (.ret v) s3') X.xe s2') X.xe s1') X.xe s4 := by
        intro T0 T y1 y2 s4 e1 e2 eT eT0 pv J4 Z4 fr4
        refine (show wpAny _ _ (pure ()) _ _ s4 from wpAny_pure ?_)
        have J5 := J4.pinned (fun d hd => fresh d hd _ (fr4 d hd)) Z4.obj
        refine wpAny_mono (hg.run _ s4 σ3 _ (.ref T) (.ref T) _ J5 rfl (hturn i y1 y2 T0 T σ3 H3 e1 e2 pv eT eT0)) (fun _ s6 ⟨σ6, H6, J6, q6⟩ => ?_) fun _ _ y => y
        refine wpAny_mono (hb.run _ s6 σ6 H6 _ J6 q6) (fun f s7 q7 => ?_) fun _ _ y => y
        have again : ∀ {σ7 : L2.St} {H7 : Hp}, Inv X (pins ++ pinsAt [z, TI, TO, i1, i2] s4.heap) σ7 H7 s7 → Pv (i + 1) T0 σ7 H7 → ∃ m, m < n ∧ ∃ i T0 σ' H', m + i = xs.length ∧ Inv X pins σ' H' s7 ∧ Zs z TI TO i1 i2 a b i T0 s7.heap ∧ (∀ d ∈ [z, TI, TO, i1, i2], H' d = none) ∧ Pv i T0 σ' H' ∧ (i = 0 → ∀ T, Pv 0 T σ' H') := fun {σ7 H7} J7 p7 => by
          have hi : i < xs.length := (List.getElem?_eq_some_iff.mp e1).1
          refine ⟨n - 1, by omega, i + 1, T0, σ7, H7, by omega, J7.unpinned, Z4.keep fun d hd o eo => (J7.pin (d, o) (List.mem_append_right _ (List.mem_append_right _ (mem_pinsAt hd eo)))).1, fun d hd => ?_, p7, fun y => by omega⟩
          obtain ⟨o, eo, _⟩ := Z4.obj d hd
          exact (J7.pin (d, o) (List.mem_append_right _ (List.mem_append_right _ (mem_pinsAt hd eo)))).2.1
        cases f with
        | next => obtain ⟨σ7, H7, J7, n7⟩ := q7; exact again J7 n7
        | cont => obtain ⟨σ7, H7, J7, n7⟩ := q7; exact again J7 n7
        | brk => obtain ⟨σ7, H7, J7, n7⟩ := q7; exact ⟨σ7, H7, J7.unpinned, n7⟩
        | ret v => obtain ⟨x7, σ7, H7, J7, r7, n7⟩ := q7; exact ⟨x7, σ7, H7, J7.unpinned, r7, n7⟩
      have lift : ∀ (v : Value) (s4 : Shared), wpAny (model X.prog X.w) X.A (letOwnedTupleGo (.Name x px) (.ref z) v) (fun _ s1' => wpAny (model X.prog X.w) X.A (assign (.Name x px) X.env v) (fun _ s2' => wpAny (model X.prog X.w) X.A (execs body X.env) (fun f s3' => match f with
            | .next | .cont => ∃ m, m < n ∧ ∃ i T0 σ' H', m + i = xs.length ∧ Inv X pins σ' H' s3' ∧ Zs z TI TO i1 i2 a b i T0 s3'.heap ∧ (∀ d ∈ [z, TI, TO, i1, i2], H' d = none) ∧ Pv i T0 σ' H' ∧ (i = 0 → ∀ T, Pv 0 T σ' H')
            | .brk => SP X pins D .next s3'
            | .ret v => SP X pins D (.ret v) s3') X.xe s2') X.xe s1') X.xe s4 →
          wpAny (model X.prog X.w) X.A (letOwnedTupleGo (.Name x px) (.ref z) v) (fun _ s1' => wpAny (model X.prog X.w) X.A (assign (.Name x px) X.env v) (fun _ s2' => wpAny (model X.prog X.w) X.A (execs body X.env) (fun f s3' => match f with
            | .next | .cont => ∃ m, m < n ∧ ∃ i T0 σ' H', m + i = xs.length ∧ Inv X pins σ' H' s3' ∧ Zs z TI TO i1 i2 a b i T0 s3'.heap ∧ (∀ d ∈ [z, TI, TO, i1, i2], H' d = none) ∧ Pv i T0 σ' H' ∧ (i = 0 → ∀ T, Pv 0 T σ' H')
            | .brk => (fun r s' => match r with | .ok f => SP X pins D f s' | .error e => cameBackBy (model X.prog X.w) X.A X.env X.xe e s') (.ok .next : Result) s3'
            | .ret v => (fun r s' => match r with | .ok f => SP X pins D f s' | .error e => cameBackBy (model X.prog X.w) X.A X.env X.xe e s') (.ok (.ret v) : Result) s3') (notedBy (model X.prog X.w) X.A X.env fun e s' => cameBackBy (model X.prog X.w) X.A X.env X.xe e s') s2')
            (notedBy (model X.prog X.w) X.A X.env fun e s' => cameBackBy (model X.prog X.w) X.A X.env X.xe e s') s1') (notedBy (model X.prog X.w) X.A X.env fun e s' => cameBackBy (model X.prog X.w) X.A X.env X.xe e s') s4 := fun v s4 hw =>
        wpAny_mono hw (fun _ s5 h5 => wpAny_mono h5 (fun _ s6 h6 => wpAny_mono h6 (fun f s7 h7 => by cases f <;> exact h7) fun e s' y => hp e s' y) fun e s' y => hp e s' y) fun e s' y => hp e s' y
      by_cases hi : i < xs.length
      · have e1 : xs[i]? = some xs[i] := List.getElem?_eq_getElem hi
        have e2 : ys[i]? = some (ys[i]'(by omega)) := List.getElem?_eq_getElem (by omega)
        obtain ⟨u1, hu1, ru1⟩ := ra.get e1
        obtain ⟨u2, hu2, ru2⟩ := rb.get e2
        have hT0 : H3 s3.heap.objs.size = none := J.hok.fresh (Nat.le_refl _)
        have step : ∀ (h4 : Heap), h4.get? s3.heap.objs.size = some { cls := .type "tuple", data := .seq #[u1, u2] } → (∀ d o, d ∉ [z, TI, TO, i1, i2] → s3.heap.get? d = some o → h4.get? d = some o) →
            Inv X pins σ3 (upd H3 s3.heap.objs.size (.tup [xs[i], ys[i]'(by omega)])) { s3 with heap := h4 } ∧ ∀ d ∈ [z, TI, TO, i1, i2], (upd H3 s3.heap.objs.size (.tup [xs[i], ys[i]'(by omega)])) d = none := fun h4 hT4 hk4 => by
          have new : ObjOk X.prog X.w (upd H3 s3.heap.objs.size (.tup [xs[i], ys[i]'(by omega)])) h4 s3.heap.objs.size (.tup [xs[i], ys[i]'(by omega)]) :=
            ⟨by show 2 ≤ sizeLine; decide, [u1, u2], .cons ru1 (.cons ru2 .nil), ⟨_, hT4, rfl, _, rfl⟩⟩
          refine ⟨J.turnedNew (t' := s3.toks) (ch := [z, TI, TO, i1, i2]) (fun d o hd eo => hk4 d o hd eo) fp3 (Nat.le_refl _) new, fun d hd => ?_⟩
          obtain ⟨o, eo, _⟩ := Z.obj d hd
          rw [upd_ne (Nat.ne_of_lt (Heap.lt_size eo))]
          exact fr3 d hd
        rcases Z.zp with ⟨i0, hz3⟩ | ⟨i0, f, hz3⟩
        · subst i0
          obtain ⟨x0, y0, hTO3⟩ := Z.to_
          refine pyNext_zipT_item D5 hz3 Z.ti hTO3 Z.t1 Z.t2 (show s3.heap.IsTuple a as.toArray from ta) (show s3.heap.IsTuple b bs.toArray from tb') (x := u1) (y := u2) (by simpa using hu1) (by simpa using hu2) fun h4 g1 g2 g3 g4 g5 g6 g7 => ?_
          have hk4 : ∀ d o, d ∉ [z, TI, TO, i1, i2] → s3.heap.get? d = some o → h4.get? d = some o := fun d o hd eo => g7 d o (fun y => hd (by simp [y])) (fun y => hd (by simp [y])) (fun y => hd (by simp [y])) (fun y => hd (by simp [y])) eo
          obtain ⟨K1, K2⟩ := step h4 g5 hk4
          exact lift _ _ (work s3.heap.objs.size s3.heap.objs.size _ _ _ e1 e2 hT0 (fun _ => rfl) (pv0 rfl _) K1 ⟨.inr ⟨Nat.succ_pos _, false, g1⟩, g7 TI _ D5.TIz D5.TITO D5.TIi1 D5.TIi2 Z.ti, ⟨_, _, g2⟩, g3, g4⟩ K2)
        · obtain ⟨zs, eT⟩ := qT i0
          obtain ⟨_, its0, _, ⟨oT, hoT, _⟩⟩ := J.hok T0 _ eT
          refine held_item D5 hz3 hoT Z.ti Z.t1 Z.t2 (show s3.heap.IsTuple a as.toArray from ta) (show s3.heap.IsTuple b bs.toArray from tb') (x := u1) (y := u2) (by simpa using hu1) (by simpa using hu2) fun h4 g1 g2 g3 g4 g5 g6 => ?_
          have hk4 : ∀ d o, d ∉ [z, TI, TO, i1, i2] → s3.heap.get? d = some o → h4.get? d = some o := fun d o hd eo => g6 d o (fun y => hd (by simp [y])) (fun y => hd (by simp [y])) (fun y => hd (by simp [y])) eo
          obtain ⟨K1, K2⟩ := step h4 g4 hk4
          obtain ⟨x0, y0, hTO3⟩ := Z.to_
          exact lift _ _ (work T0 s3.heap.objs.size _ _ _ e1 e2 hT0 (fun y => by omega) pv K1 ⟨.inr ⟨Nat.succ_pos _, true, g1⟩, g6 TI _ D5.TIz D5.TIi1 D5.TIi2 Z.ti, ⟨x0, y0, g6 TO _ D5.TOz D5.TOi1 D5.TOi2 hTO3⟩, g2, g3⟩ K2)
      · have ei : i = xs.length := by omega
        subst ei
        have fin : ∀ h4 : Heap, (∀ d o, d ∉ [z, TI, TO, i1, i2] → s3.heap.get? d = some o → h4.get? d = some o) → wpAny (model X.prog X.w) X.A (execs [] X.env) (fun f s' => SP X pins D f s') (notedBy (model X.prog X.w) X.A X.env fun e s' => cameBackBy (model X.prog X.w) X.A X.env X.xe e s') { s3 with heap := h4 } := fun h4 hk4 =>
          wpAny_execs_nil ⟨σ3, H3, J.turnedL (t' := s3.toks) (ch := [z, TI, TO, i1, i2]) (fun d o hd eo => hk4 d o hd eo) fp3, hend T0 σ3 H3 pv⟩
        have hx : as.toArray[xs.length]? = none := by simp; omega
        rcases Z.zp with ⟨i0, hz3⟩ | ⟨i0, f, hz3⟩
        · obtain ⟨x0, y0, hTO3⟩ := Z.to_
          exact pyNext_zipT_end hh D5 hz3 Z.ti hTO3 Z.t1 Z.t2 (show s3.heap.IsTuple a as.toArray from ta) (show s3.heap.IsTuple b bs.toArray from tb') (.inl hx) fun h4 g1 => fin h4 fun d o hd eo => g1 d o (fun y => hd (by simp [y])) (fun y => hd (by simp [y])) (fun y => hd (by simp [y])) (fun y => hd (by simp [y])) eo
        · obtain ⟨zs, eT⟩ := qT i0
          obtain ⟨_, its0, _, ⟨oT, hoT, _⟩⟩ := J.hok T0 _ eT
          exact held_end hh D5 hz3 hoT Z.ti Z.t1 Z.t2 (show s3.heap.IsTuple a as.toArray from ta) (show s3.heap.IsTuple b bs.toArray from tb') hx fun h4 g1 => fin h4 fun d o hd eo => g1 d o (fun y => hd (by simp [y])) (fun y => hd (by simp [y])) (fun y => hd (by simp [y])) eo
end
end Zn
end
section
set_option Elab.async false
set_option linter.all false
set_option autoImplicit false
set_option maxRecDepth 100000
set_option maxHeartbeats 1000000
/-! Small rules: sum, max and sorted of a tuple of ints; the call of an item of a list of defs. -/
namespace Sm
open PySem PySem.Spec PyProof.Rows L2

section
variable {prog : Program} {w : World} {A : Around} {E : Value → Shared → Prop} {s : Shared}
theorem iter_tup {l : Addr} {items : Array Value} {Q : Value → Shared → Prop} (hl : s.heap.IsTuple l items)
    (h : ∀ s2 : Shared, s2 = { s with heap := s.heap.push { cls := .type "tuple_iterator", data := .fields #[.ref l, .int 0 0] } } →
      (s2.heap.IsTupleIter s.heap.objs.size l 0 ∧ s2.heap.IsTuple l items) → (∀ b ∈ [s.heap.objs.size, l], b < s2.heap.objs.size) → l ≠ s.heap.objs.size → Q (.ref s.heap.objs.size) s2) :
    wpAny (model prog w) A (pyIter (.ref l)) Q E s := by
  have hlt : l < s.heap.objs.size := by obtain ⟨_, e, _⟩ := hl; exact Heap.lt_size e
  refine wpAny_pyIter_tuple hl (h _ rfl ⟨⟨_, Heap.get?_push_size _ rfl, rfl, rfl⟩, ?_⟩ (fun b hb => ?_) (Nat.ne_of_lt hlt))
  · obtain ⟨o, e, q⟩ := hl
    exact ⟨o, Heap.get?_push_of_some _ e, q⟩
  · show b < (s.heap.push _).objs.size
    rw [Heap.size_push]
    simp only [List.mem_cons, List.not_mem_nil, or_false] at hb
    rcases hb with rfl | rfl
    · exact Nat.lt_succ_self _
    · exact Nat.lt_succ_of_lt hlt
theorem kept_tup {l : Addr} {h' : Heap} (hk : ∀ b o, b ∉ [s.heap.objs.size] → (s.heap.push { cls := .type "tuple_iterator", data := .fields #[.ref l, .int 0 0] }).get? b = some o → h'.get? b = some o) :
    ∀ b o, s.heap.get? b = some o → h'.get? b = some o := fun b o e => by
  refine hk b o (fun hm => ?_) (Heap.get?_push_of_some _ e)
  have z : b = s.heap.objs.size := by simpa using hm
  exact absurd (Heap.lt_size e) (by rw [z]; exact Nat.lt_irrefl _)
theorem sum_tup {l : Addr} {its : List Value} {ns : List Int} {Q : Value → Shared → Prop} (hh : A.handled = none) (hl : s.heap.IsTuple l its.toArray) (hi : IntsAre its ns)
    (h : ∀ h' tk t', (∀ b o, s.heap.get? b = some o → h'.get? b = some o) → Q (.int ns.sum t') { s with heap := h', toks := tk }) : wpAny (model prog w) A (call (.builtin "sum") [.ref l]) Q E s := by
  obtain ⟨xs, e⟩ := hi.allInts.items
  have hn : numsOf (intItems xs).toList = ns := by rw [← e]; exact hi.numsOf
  rw [nums_intItems] at hn
  rw [e] at hl
  refine call_sum_walkG (iter_tup hl fun s2 e2 st hfp hlI => ?_)
  subst e2
  refine ⟨_, _, _, _, _, _, numAt xs, rfl, Walks.tuple (A := A.in1) hh _ l hlI (intItems xs), st, hfp, (fun _ _ => intItems_at), fun h' tk t' hk => ?_⟩
  have z := h h' tk t' (kept_tup hk)
  rw [← hn] at z
  rw [preSum_eq, List.take_of_length_le (by simp [intItems])]
  exact z
theorem max_tup {l : Addr} {its : List Value} {ns : List Int} {Q : Value → Shared → Prop} (hh : A.handled = none) (hl : s.heap.IsTuple l its.toArray) (hi : IntsAre its ns) (hne : 0 < ns.length)
    (h : ∀ h' tk m t', (∀ b o, s.heap.get? b = some o → h'.get? b = some o) → m ∈ ns → (∀ a, a ∈ ns → a ≤ m) → Q (.int m t') { s with heap := h', toks := tk }) : wpAny (model prog w) A (call (.builtin "max") [.ref l]) Q E s := by
  obtain ⟨xs, e⟩ := hi.allInts.items
  have hn : numsOf (intItems xs).toList = ns := by rw [← e]; exact hi.numsOf
  rw [nums_intItems] at hn
  subst hn
  rw [e] at hl
  have hsz : 0 < xs.size := by simpa using hne
  refine call_max_walk (iter_tup hl fun s2 e2 st hfp hlI => ?_)
  subst e2
  refine ⟨_, _, _, _, _, _, _, rfl, Walks.tuple (A := A.in1) hh _ l hlI (intItems xs), st, hfp, by simpa [intItems] using hsz, CmpOf.ints_gt (numAt xs) (fun _ _ => intItems_at), fun v h' tk hv hk => ?_⟩
  have hv' : (intItems xs)[argBest (fun i j => decide (numAt xs i > numAt xs j)) (xs.size - 1)]? = some v := by simpa [intItems] using hv
  obtain ⟨t, rfl⟩ := intItems_at hv'
  obtain ⟨h1, h2⟩ := argBest_gt (numAt xs) (xs.size - 1)
  refine h h' tk _ t (kept_tup hk) ?_ fun a ha => ?_
  · rw [numAt_eq]
    exact PySem.getD_mem (by rw [List.length_map, Array.length_toList]; omega)
  · obtain ⟨j, hj, rfl⟩ := mem_getD ha
    rw [List.length_map, Array.length_toList] at hj
    rw [← numAt_eq]
    exact h2 j (by omega)
end
section
variable {X : Cx}
def rSumT (K : PySem.W.Frag) : List V → Hp → VK → Prop := fun vs H Q => ∃ (a : Addr) (ns : List Int), vs = [V.ref a] ∧ SqT K H a (ns.map V.int) ∧ Q (.int ns.sum) H
theorem cr_sumT (hc : X.calm = true) : CallR X (.builtin "sum") (rSumT X.K) := by
  intro pins s σ H vs us Q I r h
  obtain ⟨a, ns, rfl, hs, q⟩ := h
  obtain ⟨its, rv, hl, _⟩ := I.tuple hs
  rw [Vals.ref1 r]
  exact sum_tup (I.ok.hd hc) (show s.heap.IsTuple a its.toArray from hl) rv.ints fun h' tk t' hk => ⟨.int _, H, I.kept hk, ⟨_, rfl⟩, q⟩
def rMaxT (K : PySem.W.Frag) : List V → Hp → VK → Prop := fun vs H Q => ∃ (a : Addr) (ns : List Int), vs = [V.ref a] ∧ SqT K H a (ns.map V.int) ∧ 0 < ns.length ∧ ∀ m, m ∈ ns → (∀ x, x ∈ ns → x ≤ m) → Q (.int m) H
theorem cr_maxT (hc : X.calm = true) : CallR X (.builtin "max") (rMaxT X.K) := by
  intro pins s σ H vs us Q I r h
  obtain ⟨a, ns, rfl, hs, hne, q⟩ := h
  obtain ⟨its, rv, hl, _⟩ := I.tuple hs
  rw [Vals.ref1 r]
  exact max_tup (I.ok.hd hc) (show s.heap.IsTuple a its.toArray from hl) rv.ints hne fun h' tk m t' hk h1 h2 => ⟨.int _, H, I.kept hk, ⟨_, rfl⟩, q m h1 h2⟩
def rSortedTR (K : PySem.W.Frag) : List V → List V → Hp → VK → Prop := fun vs zs H Q => ∃ (a : Addr) (ns : List Int), vs = [V.ref a] ∧ zs = [.bl true] ∧ SqT K H a (ns.map V.int) ∧
  ∀ (ns' : List Int) (p : Addr), ns'.Perm ns → ns'.Pairwise (· ≥ ·) → H p = none → Q (.ref p) (upd H p (.lst (ns'.map V.int)))
theorem cr_sortedTR : CallRK X (.builtin "sorted") [Str.ofString "reverse"] (rSortedTR X.K) := by
  intro pins s σ H vs zs us ws Q I r rz h
  obtain ⟨a, ns, rfl, rfl, hs, q⟩ := h
  obtain rfl := Vals.ref1 r
  obtain ⟨w1, rfl, e1⟩ := vals1 rz
  obtain rfl : w1 = Value.bool true := e1
  obtain ⟨its, rv, ⟨oa, ha, hca, na, hda⟩, hz⟩ := I.tuple hs
  have hi := rv.ints
  have hzl : its.length ≤ sizeLine := by rw [← rv.length]; exact hz
  refine call_function_entry_kw kind_sorted plain_sorted entry_sorted (PyProof.Rows.args_sorted_rev _ _) ?_
  unfold Builtin.«sorted»
  refine wpAny_bind (m := checkCount "sorted" 1 1 _) (wpAny_pure ?_)
  refine wpAny_bind (wpAny_collect_seq a (.inr rfl) ha hca hda (fun h1 k1 => ?_) (by rw [List.size_toArray]; exact hzl))
  refine wpAny_bind (wpAny_newList ?_ (by simpa using hzl))
  have e0 : (its.toArray.toList).toArray = its.toArray := by simp
  rw [e0]
  have hoL : (h1.push { cls := .type "list", data := .seq its.toArray }).get? h1.objs.size = some (seqObj "list" its.toArray 0) := Heap.get?_push_size _ rfl
  have keep1 : ∀ b o, s.heap.get? b = some o → (h1.push { cls := .type "list", data := .seq its.toArray }).get? b = some o := fun b o e => Heap.get?_push_of_some _ (k1 b o e)
  have far : ∀ b o, s.heap.get? b = some o → b ≠ h1.objs.size := fun b o e => Nat.ne_of_lt (Heap.lt_size (k1 b o e))
  refine wpAny_bind (wpAny_holding (wpAny_call_entry_kw slot_list_sort ⟨_, hoL, rfl⟩ entry_list_sort ?_ (PyProof.Rows.args_list_sort_rev _ _)))
  refine SrtR.list_sort_ordR (b := true) SrtO.swo_int hoL hzl (fun h2 => SrtO.ints_sortable hi h2) fun out g1 g2 => ⟨_, rfl, ?_⟩
  refine wpAny_pure ⟨_, rfl, ?_⟩
  obtain ⟨ns', c1, c2, c3⟩ := SrtR.ints_outR hi g1 g2
  obtain ⟨ep, he'⟩ := PyProof.Rows.sortedHeap_at (vs := its) (out := out.toArray.reverse) hoL
  have hlen : (ns'.map V.int).length ≤ sizeLine := by
    rw [List.length_map, c2.length_eq]
    rw [List.length_map] at hz
    exact hz
  have I1 : Inv X pins σ H { s with heap := h1 } := I.kept (t' := s.toks) k1
  have e2 : ((out.toArray.reverse).toList).toArray = out.toArray.reverse := by simp
  refine ⟨.ref h1.objs.size, upd H h1.objs.size (.lst (ns'.map V.int)), Inv.laid (s := { s with heap := h1 }) (t' := s.toks) I1 (fun b o e => ?_) (Nat.le_refl _) ⟨hlen, _, ep, vals_of_ints c1, ?_⟩, rfl, q _ _ c2 c3 (I1.hok.fresh (Nat.le_refl _))⟩
  · show (PyProof.Rows.sortedHeap _ _ _ _).get? b = some o
    have e3 : (h1.push { cls := .type "list", data := .seq its.toArray }).get? b = some o := Heap.get?_push_of_some _ e
    rw [PyProof.Rows.sortedHeap_old (Nat.ne_of_lt (Heap.lt_size e)) (Heap.lt_size e3)]
    exact e3
  · show (PyProof.Rows.sortedHeap _ _ _ _).get? _ = some { cls := .type "list", data := .seq ((out.toArray.reverse).toList).toArray ep }
    rw [e2]
    exact he'
end
end Sm
end
section
set_option Elab.async false
set_option linter.all false
set_option autoImplicit false
set_option maxRecDepth 100000
/-! The text by places. -/
namespace K46
open PySem L2
def topS (i : Nat) : Stmt := PySem.Challenge.pw_surecounts_k46_whole_greatest_joins.main.body.getD i (.Pass ⟨0, 0, 0, 0⟩)
end K46
end
section
set_option Elab.async false
set_option linter.all false
set_option autoImplicit false
set_option maxRecDepth 100000
set_option maxHeartbeats 1000000
/-! InvalidSpread: an own exception two below Exception whose __init__ says super().__init__(text); self.value = value. -/
namespace Iv
open PySem PySem.W PySem.Calls PyProof.Rows
abbrev iS : Stmt := L2.inClass (K46.topS 3) 0
structure IvTxt (prog : Program) (K : Frag) (mg : Str → Option Value) (C fI : Addr) : Prop where
  gC : mg "InvalidSpread" = some (.ref C)
  gs : mg "super" = none
  inC : excInitIn K C ESX.exTail "Exception.__new__" = true
  ov : excOver K C ESX.exTail = true
  tk : takerIn K C "value" = some none
  sa : findIn K (.ref C) "__setattr__" = some (some (.builtin "object.__setattr__"))
  ga : findIn K (.ref C) "__getattribute__" = some (some (.builtin "BaseException.__getattribute__"))
  gg : findIn K (.ref C) "__getattr__" = some none
  noV : findIn K (.ref C) "value" = some none
  iC : findIn K (.ref C) "__init__" = some (some (.ref fI))
  tC : typeIn K (.ref fI) = some (.type "function")
  kC : keepIn K (.ref C) = true
  exC : subIn K (.ref C) (.type "BaseException") = some true
  sE : subIn K (.ref C) (.type "Exception") = some true
  sC : mroIn K C (.ref C) = some true
  tyC : typeIn K (.ref C) = some (.type "type")
  hdC : hasDictIn K C = true
  te : exmOne K (.ref C) (.ref C) = some true
  sup : ks_superIn K C C "__init__" = some (some (.builtin "Exception.__init__"))
  op : nsIn K cStatics "thirdparty.any" = some none
  htop : (prog.main.scope.names.lookup ("super" : Str)).isSome = false
  fn : ∃ (oc : Value) (od : Option Addr) (doc pm : Value) (an : Option Addr) (cda cc : Addr) (ct : Value) (osl : Array (Option Value)) (ccl cl : Value) (cdd cld : Option Addr) (ccs csl : Array (Option Value)) (vs : Array Value) (file : Str) (tf : Tok),
    K.lookup fI = some ⟨oc, od, .func (ksFn "__init__" "InvalidSpread.__init__" (L2.defArgs iS) (L2.defBody iS) (L2.defScope iS) .none .none doc pm an (.ref cda) ct cc), osl⟩ ∧ codeIn K (.ref cda) "InvalidSpread.__init__" = true ∧
    K.lookup cda = some ⟨ccl, cdd, .fields vs, ccs⟩ ∧ vs[2]? = some (.str file tf) ∧ ((prog.main.file : Str) == file) = true ∧ K.lookup cc = some ⟨cl, cld, .cell (some (.ref C)), csl⟩
/-- what __init__ leaves of a fresh exception at x -/
structure InitEnd (h h' : Heap) (x C dx t1 : Addr) (v : Value) : Prop where
  keep : ∀ b o, b ≠ x → h.get? b = some o → h'.get? b = some o
  obj : h'.get? x = some { cls := .ref C, dict := some dx, data := .fields #[.ref t1, .none, .none, .none, .bool false, .none] }
  dbig : h.objs.size ≤ dx
  dne : dx ≠ x
  ns : h'.Ns1 dx (fun y => if y = "value" then some v else none)
section
open Builtin Builtin.ObjectAttr
variable {prog : Program} {w : World} {A : Around} {E : Value → Shared → Prop} {R : Result → Shared → Prop} {s : Shared} {K : Frag} {mg : Str → Option Value} {C fI : Addr}
theorem iv_store {x t1 : Addr} {name : Str} {tk : Tok} {v : Value} (X : K.In s.heap) (hx : s.heap.get? x = some (HandSPX.excO C t1)) (ov : excOver K C ESX.exTail = true) (ht : takerIn K C name = some none) (hd : hasDictIn K C = true)
    (hq : ∀ h' tk' dx, (∀ b o, b ≠ x → s.heap.get? b = some o → h'.get? b = some o) → s.heap.objs.size ≤ dx → dx ≠ x → h'.get? x = some { cls := .ref C, dict := some dx, data := .fields #[.ref t1, .none, .none, .none, .bool false, .none] } →
      h'.Ns1 dx (fun y => if y = name then some v else none) → R (.ok (.ret .none)) { s with heap := h', toks := tk' }) :
    codeAny (model prog w) A (.call (.builtin "object.__setattr__") ⟨[.ref x, .str name tk, v], []⟩) R s := by
  have hxs : x ≠ s.heap.objs.size := Nat.ne_of_lt (Heap.lt_size hx)
  refine osa_openX (od := none) F.store_Exception X ⟨hx, rfl, rfl, trivial⟩ ov ht fun b => ?_
  obtain ⟨cd, hc, hd'⟩ := any_some hd
  refine wpAny_bind (wpAny_pure (wpAny_bind (instanceDict_exc (c2 := .none) hx (looks_clsIn X hc) hd' ?_)))
  show wpAny _ _ (storeInDict s.heap.objs.size (.str name tk) name v) _ _ _
  obtain ⟨hp, g, d, t, os⟩ := s
  refine HandSPX.store_in_new ?_ ?_
  · exact ⟨_, #[], _, (Heap.get?_update_ne _ _ _ _ hxs.symm).trans (Heap.get?_push_at rfl rfl), rfl, fun e he => absurd he (by simp), fun _ => rfl⟩
  · intro h' tk' hn' hs
    have hx1 : (hp.push (dictOf [] 0)).get? x = some (HandSPX.excO C t1) := Heap.get?_push_of_some _ hx
    refine hq h' tk' hp.objs.size (fun b o hb ho => ?_) (Nat.le_refl _) hxs.symm ?_ hn'
    · exact (hs.2 b (Nat.ne_of_lt (Heap.lt_size ho))).trans ((Heap.get?_update_ne _ _ _ _ hb).trans (Heap.get?_push_of_some _ ho))
    · exact (hs.2 x hxs).trans (Heap.get?_update_self _ hx1 rfl)
theorem iv_cells : ∀ y ∈ (L2.defScope iS).names, y.2 ≠ .cell := by decide +kernel
theorem iv_loc1 : (L2.defScope iS).names.lookup ("self" : Str) = some .local := by decide +kernel
theorem iv_loc2 : (L2.defScope iS).names.lookup ("value" : Str) = some .local := by decide +kernel
theorem iv_locals (a b : Value) : ∀ y ∈ [(("self" : Str), a), (("value" : Str), b)], (L2.defScope iS).names.lookup y.1 = some .local := fun y hy => by
  rcases List.mem_cons.mp hy with rfl | hy
  · exact iv_loc1
  · rcases List.mem_cons.mp hy with rfl | hy
    · exact iv_loc2
    · cases hy
theorem iv_init (T : IvTxt prog K mg C fI) {x t0 : Addr} {v : Value} (X : K.In s.heap) (G : s.heap.Ns mainGlobals mg) (B : ∃ mb, s.heap.Ns builtinsNs mb ∧ ∀ y : Str, y ≠ "__name__" → mb y = bootBuiltins y) (hlim : s.heap.NoLimit)
    (hx : s.heap.get? x = some (HandSPX.excO C t0)) (hnx : K.lookup x = none) (hroom : A.depth < recursionLimit)
    (hq : ∀ h' tk dx t1, InitEnd s.heap h' x C dx t1 v → R (.ok (.ret .none)) { s with heap := h', toks := tk }) :
    codeAny (model prog w) A (.call (.ref fI) ⟨[.ref x, v], []⟩) R s := by
  obtain ⟨oc, od, doc, pm, an, cda, cc, ct, osl, ccl, cl, cdd, cld, ccs, csl, vs, file, tf, ho, hcd, hcode, hvs, hfile, hcell⟩ := T.fn
  obtain ⟨mb, hb1, hb2⟩ := B
  obtain ⟨nm, N', qn, bs, bm, hdct, sn, sub, ab, col, dd, k0, k1, k2, k3, k5, hC, hT⟩ := excInit_of X T.inC
  refine ks_codeAny_call_defAt (body := L2.defBody iS) (binds := [("self", .ref x), ("value", v)]) hroom (X _ _ ho) rfl hlim (codeRec_of X hcd) rfl (BindsTo.of_eq (by first | rfl | with_unfolding_all rfl)) iv_cells (iv_locals (.ref x) v) (fun h1 hns k1 => ?_)
  have X1 : K.In h1 := X.keeps k1
  have hx1 := k1 _ _ hx
  obtain ⟨hp, g, d, t, os⟩ := s
  have hxL : x ≠ hp.objs.size := Nat.ne_of_lt (Heap.lt_size hx)
  have I1 : InstAt h1 x (HandSPX.excO C t0) C none := ⟨hx1, rfl, rfl, trivial⟩
  -- super().__init__(..)
  refine ks_wpAt_execs_cons (ks_wpAt_Expr_any (ks_wpAt_MethodCall ?_))
  refine ks_wpAt_super_base (cc := cda) (of := ⟨oc, od, .func (ksFn "__init__" "InvalidSpread.__init__" (L2.defArgs iS) (L2.defBody iS) (L2.defScope iS) .none .none doc pm an (.ref cda) ct cc), osl⟩) (by rfl) (by rfl) (by decide) (by rfl) (X1 _ _ ho) rfl (by rfl) (by rfl) (X1 _ _ hcode) rfl hvs hfile T.htop ?_
  refine ks_loadName_global (by rfl) (by rfl) (loadGlobal_builtin (G.keeps k1) T.gs (hb1.keeps k1) ((hb2 _ (by decide)).trans (by decide +kernel)) ⟨rfl, ?_⟩)
  refine wpAny_loadName_free (by rfl) (by rfl) (by rfl) ⟨_, X1 _ _ hcell, rfl⟩ ?_
  refine wpAny_loadName_local (by rfl) iv_loc1 hns (by first | rfl | with_unfolding_all rfl | kernel_rfl) ?_
  refine ks_wpAny_isType_cls (k1 _ _ hC) rfl ⟨rfl, ?_⟩
  refine ks_wpAny_call_super (k1 _ _ hC) rfl hx1 rfl (fun c e => by cases e) (looks_mroIn X1 T.sC) (fun h2 e2 k2 => ?_)
  have X2 := X1.keeps k2
  have hx2 := k2 _ _ hx1
  have I2 : InstAt h2 x (HandSPX.excO C t0) C none := ⟨hx2, rfl, rfl, trivial⟩
  obtain ⟨cd, hcd2, hsup⟩ := Option.bind_eq_some_iff.mp (show (clsIn K C).bind (fun cd => alongIn K "__init__" ((cd.mro.dropWhile (· != .ref C)).drop 1)) = _ from T.sup)
  refine ESX.getMethod_super (l₀ := cd.mro) e2 (looks_opaque X2 T.op) (fun A Q E s k q => wpAny_bind ((looks_clsIn X2 hcd2) A _ E s k (wpAny_pure q))) rfl X2 hsup (ks_ne X2 I2 hcd2) (by decide) (I2.type.andThen (looks_subIn X2 T.sE)) ?_
  have gx : h2.get? x = some (HandSPX.excO C t0) := hx2
  refine ESX.callWith_bound (x := x) ?_ (by rfl) (by rfl)
  refine spliced_more (Constant_str ?_) (by rfl)
  refine spliced_none ⟨Heap.get?_push_at rfl rfl, ?_⟩
  refine ESX.call_bw (Heap.get?_push_of_some _ (k2 _ _ (k1 _ _ hC))) (Heap.get?_push_of_some _ hx2) (Heap.get?_push_at rfl rfl) (by rw [sizeLine_eq]; exact (by decide : 1 ≤ 16777216)) fun h3 t3 k3 hx3 => ?_
  have kk : ∀ b o, b ≠ x → h1.get? b = some o → h3.get? b = some o := fun b o hb e => k3 b o hb (Heap.get?_push_of_some _ (k2 b o e))
  have X3 : K.In h3 := fun b o e => kk b o (fun z => by rw [z, hnx] at e; cases e) (X1 _ _ e)
  -- self.value = value
  have hLs : ∀ b, b = hp.objs.size → b ≠ x := fun b z => by rw [z]; exact hxL.symm
  have hn3 : h3.Ns hp.objs.size (fun y => [(("self" : Str), Value.ref x), (("value" : Str), v)].reverse.lookup y) := hns.at fun o e => kk _ o (hLs _ rfl) e
  refine ks_wpAt_execs_cons (ks_wpAt_Assign_Attr (wpAt_of_wpAny ?_))
  refine wpAny_Name (wpAny_loadName_local (by rfl) iv_loc2 hn3 (by first | rfl | with_unfolding_all rfl | kernel_rfl) ?_) (by decide)
  refine wpAny_Name (wpAny_loadName_local (by rfl) iv_loc1 hn3 (by first | rfl | with_unfolding_all rfl | kernel_rfl) ?_) (by decide)
  refine set_plain X3 (ox := HandSPX.excO C t3) (od := none) ⟨hx3, rfl, rfl, trivial⟩ T.sa ?_
  refine iv_store X3 hx3 T.ov T.tk T.hdC (fun h4 tk4 dx k4 dn dne hx4 hn4 => ?_)
  have sz : hp.objs.size < h3.objs.size := hn3.lt
  refine wpAt_of_wpAny (wpAny_execs_nil (hq h4 _ dx t3 ⟨fun b o hb e => k4 b o hb (kk b o hb (k1 b o e)), hx4, Nat.le_trans (Nat.le_of_lt sz) dn, dne, hn4⟩))

/-- a made InvalidSpread -/
structure OwnMade (h h' : Heap) (e C d : Addr) (v : Value) : Prop where
  keep : ∀ b o, h.get? b = some o → h'.get? b = some o
  new : h.objs.size ≤ e
  obj : ∃ oe vs, h'.get? e = some oe ∧ oe.cls = .ref C ∧ oe.dict = some d ∧ oe.data = .fields vs ∧ vs[1]? = some .none
  dbig : h.objs.size ≤ d
  dne : d ≠ e
  ns : h'.Ns1 d (fun y => if y = "value" then some v else none)
theorem iv_made (T : IvTxt prog K mg C fI) {v : Value} (X : K.In s.heap) (G : s.heap.Ns mainGlobals mg) (B : ∃ mb, s.heap.Ns builtinsNs mb ∧ ∀ y : Str, y ≠ "__name__" → mb y = bootBuiltins y) (hlim : s.heap.NoLimit) (hroom : A.depth + 1 < recursionLimit)
    (hq : ∀ h' tk e d, OwnMade s.heap h' e C d v → R (.ok (.ret (.ref e))) { s with heap := h', toks := tk }) :
    codeAny (model prog w) A (.call (.ref C) ⟨[v], []⟩) R s := by
  obtain ⟨nm, N', qn, bs, bm, hdct, sn, sub, ab, col, dd, k0, k1, k2, k3, k5, hC, hT⟩ := excInit_of X T.inC
  obtain ⟨mb, hb1, hb2⟩ := B
  obtain ⟨hp, g, dr, tk, os⟩ := s
  have k : ∀ b o, hp.get? b = some o → ((hp.push (kdv_tup [v])).push (HandSPX.excO C hp.objs.size)).get? b = some o := fun b o e => Heap.get?_push_of_some _ (Heap.get?_push_of_some _ e)
  have hget : ((hp.push (kdv_tup [v])).push (HandSPX.excO C hp.objs.size)).get? (hp.objs.size + 1) = some (HandSPX.excO C hp.objs.size) := by heap_get
  have hnx : K.lookup (hp.objs.size + 1) = none := by
    cases e : K.lookup (hp.objs.size + 1) with
    | none => rfl
    | some o =>
      have z : hp.get? (hp.objs.size + 1) = some o := X _ _ e
      exact absurd (Nat.lt_of_succ_lt (Heap.lt_size z)) (Nat.lt_irrefl _)
  refine HandSPX.call_own F.excBase_Exception hT hC (looks_findIn X T.iC) (fun self => bind_fn X self T.tC) (by rw [sizeLine_eq]; exact (by decide : 1 ≤ 16777216)) ?_
  refine iv_init (s := ⟨(hp.push (kdv_tup [v])).push (HandSPX.excO C hp.objs.size), g, dr, tk, os⟩) T (X.keeps k) (G.keeps k) ⟨mb, hb1.keeps k, hb2⟩ (hlim.keeps k) hget hnx ?_ fun h' tk' dx t1 ⟨k', hx, dn, dne, hns⟩ => ?_
  · show A.depth + 1 < recursionLimit
    exact hroom
  · have old : ∀ b o, hp.get? b = some o → h'.get? b = some o := fun b o e => k' b o (Nat.ne_of_lt (Nat.lt_succ_of_lt (Heap.lt_size e))) (k b o e)
    have z : hp.objs.size + 1 + 1 ≤ dx := by
      first
        | (simpa only [Heap.size_push] using dn)
        | exact dn
    exact ⟨rfl, hq h' tk' (hp.objs.size + 1) dx ⟨old, Nat.le_succ _, ⟨_, _, hx, rfl, rfl, rfl, rfl⟩, Nat.le_trans (Nat.le_trans (Nat.le_succ _) (Nat.le_succ _)) z, dne, hns⟩⟩
end
end Iv
namespace L2
open PySem PySem.Spec PyProof.Rows
theorem relO_val {v : V} {v' : Value} (r : RelV v v') (f : Str) : RelO (List.lookup f [(("value" : Str), v)]) (if f = "value" then some v' else none) := by
  by_cases hw : f = "value"
  · subst hw
    rw [if_pos rfl]
    have q : List.lookup ("value" : Str) [(("value" : Str), v)] = some v := by simp [List.lookup]
    rw [q]
    exact r
  · rw [if_neg hw]
    have qw : (f == ("value" : Str)) = false := by simpa using hw
    have q2 : List.lookup f [(("value" : Str), v)] = none := by simp [List.lookup, qw]
    rw [q2]
    trivial
section
variable {X : Cx} {C fI : Addr}
/-- InvalidSpread(e) -/
def tMkIv (C : Addr) (ta : TA) : St → Hp → XK → Prop := fun σ H Q => ta σ H fun vs H1 => ∃ v, vs = [v] ∧ ∀ d, H1 d = none → Q (.ref C) (some d) (upd H1 d (.xd [(("value" : Str), v)]))
theorem pmk_iv {a : Expr} {ta : TA} {p pos : Pos} {k : Nat} (T : Iv.IvTxt X.prog X.K X.mg C fI) (hr : Room k X.A) (ha : PA X [a] ta) (hg : Gl X "InvalidSpread" := by rfl)
    (he : starEach (a :: []) X.env = (false, eval a X.env) :: starEach [] X.env := by rfl) (hpl : (backTo pos (starEach [] X.env)).any (·.1) = false := by rfl) :
    PMk X (.Call (.Name "InvalidSpread" p) [a] [] pos) (tMkIv C ta) := by
  intro pins s σ H Q I h
  refine wpAny_Call_Name_kw (ld_glob I hg T.gC ?_)
  refine PySem.W.callWith_K (h₀ := X.base) I.ok.mod.kin T.kC (thn (ha.run pos pins s σ H _ I h) fun us s1 hh => ?_) he hpl
  obtain ⟨vs, H1, I1, r1, v, ev, q1⟩ := hh
  subst ev
  refine ⟨I1.kIn, ?_⟩
  cases r1 with
  | cons rv rn =>
    rename_i v' us'
    cases rn
    show wpAny _ _ (call (.ref C) [v']) _ _ _
    have hlim := I1.nolimit
    obtain ⟨mb, h1, h2⟩ := I1.mod.blt
    have hG := I1.mod.glob.keeps I1.bk
    have hB := h1.keeps I1.bk
    obtain ⟨hp, g, dr, tk, os⟩ := s1
    refine wpAny_call (Iv.iv_made T I1.kIn hG ⟨mb, hB, h2⟩ hlim (by have := hr.dp; omega) fun h' tk' e d M => ?_)
    show MkP X pins σ Q (.ref e) ⟨h', g, dr, tk', os⟩
    obtain ⟨oe, fv, hoe, hc, hd, hdat, h1⟩ := M.obj
    have hns := M.ns
    obtain ⟨G', g1, g2⟩ := restrict h' fun b => decide (b ≠ e)
    have gk : ∀ b, b ≠ e → G'.get? b = h'.get? b := fun b hb => g1 b (decide_eq_true hb)
    have ge : G'.get? e = none := g2 e (by simp)
    have old : ∀ b o, hp.get? b = some o → G'.get? b = some o := fun b o q => (gk b (Nat.ne_of_lt (Nat.lt_of_lt_of_le (Heap.lt_size q) M.new))).trans (M.keep b o q)
    have ob : ObjOk X.prog X.w (upd H1 d (.xd [(("value" : Str), v)])) G' d (.xd [(("value" : Str), v)]) :=
      ⟨_, hns.at (fun o q => (gk d M.dne).trans q), fun f => relO_val rv f⟩
    have J : Inv X pins σ (upd H1 d (.xd [(("value" : Str), v)])) ⟨G', g, dr, tk', os⟩ := I1.laid (t' := tk') old M.dbig ob
    refine ⟨e, oe, fv, ⟨G', g, dr, tk', os⟩, _, .ref C, some d, rfl, J, fun b o q => ?_, ge, hoe, ⟨hc, hd⟩, hdat, h1, ?_, rfl, I1.bare, raises_own T.exC T.tyC, q1 d (I1.hok.fresh M.dbig)⟩
    · by_cases hb : b = e
      · have q' : G'.get? b = some o := q
        rw [hb, ge] at q'; cases q'
      · exact (gk b hb).symm.trans q
    · rw [upd_ne (Ne.symm M.dne)]
      exact I1.hok.fresh M.new
/-- raise InvalidSpread(e) -/
def tRaiseIv (C : Addr) (W : WX) (ta : TA) : TS := fun _ σ H => tMkIv C ta σ H fun cls d H' => W cls d σ H'
theorem ps_raiseIv {a : Expr} {ta : TA} {W : WX} {p pos pos2 : Pos} {k : Nat} (hc : X.calm = true) (T : Iv.IvTxt X.prog X.K X.mg C fI) (hr : Room k X.A) (tk : Takes X W) (ha : PA X [a] ta) (hg : Gl X "InvalidSpread" := by rfl)
    (he : starEach (a :: []) X.env = (false, eval a X.env) :: starEach [] X.env := by rfl) (hpl : (backTo pos (starEach [] X.env)).any (·.1) = false := by rfl) :
    PS X (.Raise (some (.Call (.Name "InvalidSpread" p) [a] [] pos)) none pos2) (tRaiseIv C W ta) := ps_raise hc tk (pmk_iv T hr ha hg he hpl)
/-- e.value, e the exception that the suite holds -/
def tByIv (C : Addr) (a : Addr) (cls : Value) (d : Option Addr) (te : TE) : TE := fun σ H Q => te σ H fun x H1 => x = .ref a ∧ cls = .ref C ∧ ∃ (dd : Addr) (v : V), d = some dd ∧ H1 dd = some (.xd [(("value" : Str), v)]) ∧ Q v H1
theorem pe_byIv {a : Addr} {oe : Obj} {cls : Value} {d : Option Addr} {pn : List (Addr × Obj)} {e : Expr} {te : TE} {pos : Pos} (T : Iv.IvTxt X.prog X.K X.mg C fI) (hz : Zc cls d oe) (hf : ∃ vs, oe.data = .fields vs) (he : PE (X.suite a ((a, oe) :: pn)) e te)
    (hb : attributeBase e "value" X.env (eval e X.env) = eval e X.env := by rfl) :
    PE (X.suite a ((a, oe) :: pn)) (.Attribute e "value" pos) (tByIv C a cls d te) := by
  refine ⟨fun pins s σ H Q I h => ?_⟩
  refine attr_of hb (thn (he.run pins s σ H _ I h) fun u s1 hh => ?_)
  obtain ⟨x, H1, I1, rx, ex, ec, dd, v, ed, ea, q⟩ := hh
  subst ex
  obtain rfl : u = Value.ref a := rx
  subst ec
  subst ed
  obtain ⟨ha, _⟩ := I1.pin (a, oe) (List.mem_append_left _ List.mem_cons_self)
  obtain ⟨vs, hd⟩ := hf
  have hx : ObjOk X.prog X.w H1 s1.heap dd (.xd [(("value" : Str), v)]) := I1.hok dd _ ea
  obtain ⟨mA, hns, hr⟩ := hx
  obtain ⟨od, ho, hl⟩ := lookIn_ns hns
  have l : List.lookup ("value" : Str) [(("value" : Str), v)] = some v := by simp [List.lookup]
  obtain ⟨u, hu, ru⟩ := RelO.some_of (v := v) (o := mA "value") (by rw [← l]; exact hr "value")
  have J : PySem.W.InstAt s1.heap a oe C (some od) := ⟨ha, hz.1, by unfold PySem.W.notCls; rw [hd] <;> rfl, by rw [hz.2]; exact ho⟩
  exact HandSPX.exc_get I1.kIn J T.ga T.gg T.exC (PySem.W.findObj_own T.hdC T.noV rfl (by rw [hl, hu])) (handed_of ru) ⟨v, H1, I1.tok _, ru, q⟩
end
end L2
end
section
set_option Elab.async false
set_option linter.all false
set_option autoImplicit false
set_option maxRecDepth 100000
set_option maxHeartbeats 2000000
/-! The walk: numbers, steep_in, are_limits, possible_pairs. -/
namespace Wk
open PySem L2 K46
abbrev iV (n : Nat) : V := V.int (n : Int)
def mV : Option Nat → V
  | none => .non
  | some m => iV m
abbrev iVs (l : List Nat) : List V := l.map iV
/-- the built-in names that the program reads -/
structure Nm (mg : Str → Option Value) : Prop where
  isi : mg "isinstance" = none
  int : mg "int" = none
  bool : mg "bool" = none
  tup : mg "tuple" = none
  lst : mg "list" = none
  len : mg "len" = none
  rng : mg "range" = none
  mn : mg "min" = none
  mx : mg "max" = none
  sm : mg "sum" = none
  srt : mg "sorted" = none
  zip : mg "zip" = none
  enm : mg "enumerate" = none
abbrev Cl0 (P : Program) (w : World) (K : PySem.W.Frag) (mg : Str → Option Value) (base : Heap) (k : Nat) (x : Str) (sp : Sp) (dvs : List V) : Prop := C8.Cal P w K mg base k x sp dvs
/-! ### promises -/
def spIsInt : Sp := fun vs H Q _ => ∃ i : Int, vs = [.int i] ∧ Q (.bl true) H
def spIsCount : Sp := fun vs H Q _ => ∃ i l : Int, vs = [.int i, .int l] ∧ Q (.bl (decide (l ≤ i))) H
def spBetween : Sp := fun vs H Q _ => ∃ i lo hi : Int, vs = [.int i, .int lo, .int hi] ∧ Q (.bl (decide (lo ≤ i) && decide (i ≤ hi))) H
section
variable {P : Program} {w : World} {K : PySem.W.Frag} {mg : Str → Option Value} {base : Heap}
theorem kit_ii : kitB "int" "int" = some true := by decide +kernel
theorem kit_ib : kitB "int" "bool" = some false := by decide +kernel
abbrev sIsInt : Stmt := topS 7
theorem scA1 : FnScope ["value"] ["value"] (C8.fnScope sIsInt) := C8.fnScope_by (by decide +kernel)
theorem ok_isInt {f : Addr} {fd : FuncData} (F : C8.Def K mg "is_integer" sIsInt f fd) (b : Binds K fd ["value"] []) (T : Nm mg) : Cl0 P w K mg base 1 "is_integer" spIsInt [] := by
  refine C8.cal0 F b .nil scA1 (fun vs H Q E h => ?_) (fun cdv A outer s H vs Q E hr h => ?_)
  · obtain ⟨i, rfl, _⟩ := h
    rfl
  · obtain ⟨i, rfl, k⟩ := h
    refine ⟨_, pss_one (ps_ret (pe_and (pe_callB call_isi (by rfl) T.isi (by decide +kernel) (pa_cons (pv 0) (pa_cons (pe_bltn (v := .ty "int") (by rfl) T.int (by decide +kernel) rfl) pa_nil)))
      (pe_one (pe_not (pe_callB call_isi (by rfl) T.isi (by decide +kernel) (pa_cons (pv 0) (pa_cons (pe_bltn (v := .ty "bool") (by rfl) T.bool (by decide +kernel) rfl) pa_nil))))))), ?_⟩
    refine ⟨_, rfl, _, _, _, _, true, rfl, ClsV.ty _, TyX.base (.int _), kit_ty kit_ii, _, rfl, iteT ?_⟩
    exact ⟨_, rfl, _, _, _, _, false, rfl, ClsV.ty _, TyX.base (.int _), kit_ty kit_ib, _, rfl, k⟩
abbrev sIsCount : Stmt := topS 8
theorem scA2 : FnScope ["value", "least"] ["value", "least"] (C8.fnScope sIsCount) := C8.fnScope_by (by decide +kernel)
theorem ok_isCount {f : Addr} {fd : FuncData} {ds : List Value} {dvs : List V} (F : C8.Def K mg "is_count" sIsCount f fd) (b : Binds K fd ["value", "least"] ds) (d : Vals dvs ds) (C1 : Cl0 P w K mg base 1 "is_integer" spIsInt []) :
    Cl0 P w K mg base 2 "is_count" spIsCount dvs := by
  refine C8.cal0 F b d scA2 (fun vs H Q E h => ?_) (fun cdv A outer s H vs Q E hr h => ?_)
  · obtain ⟨i, l, rfl, _⟩ := h
    rfl
  · obtain ⟨i, l, rfl, k⟩ := h
    refine ⟨_, pss_one (ps_ret (pe_and (C8.pe_c C1 hr (by decide) rfl (pa_cons (pv 0) pa_nil)) (pe_one (pe_cmpR op_ge (pv 0) (pv 1) (nomark _))))), ?_⟩
    exact ⟨_, rfl, i, rfl, _, rfl, iteT ⟨_, rfl, _, rfl, _, _, rfl, rfl, k⟩⟩
abbrev sBetween : Stmt := topS 9
theorem scA3 : FnScope ["value", "low", "high"] ["value", "low", "high"] (C8.fnScope sBetween) := C8.fnScope_by (by decide +kernel)
theorem ok_between {f : Addr} {fd : FuncData} (F : C8.Def K mg "is_between" sBetween f fd) (b : Binds K fd ["value", "low", "high"] []) (C1 : Cl0 P w K mg base 1 "is_integer" spIsInt []) :
    Cl0 P w K mg base 2 "is_between" spBetween [] := by
  refine C8.cal0 F b .nil scA3 (fun vs H Q E h => ?_) (fun cdv A outer s H vs Q E hr h => ?_)
  · obtain ⟨i, lo, hi, rfl, _⟩ := h
    rfl
  · obtain ⟨i, lo, hi, rfl, k⟩ := h
    refine ⟨_, pss_one (ps_ret (pe_and (C8.pe_c C1 hr (by decide) rfl (pa_cons (pv 0) pa_nil)) (pe_one (pe_chain op_le op_le (pv 1) (pv 0) (pv 2))))), ?_⟩
    refine ⟨_, rfl, i, rfl, _, rfl, iteT ⟨_, rfl, _, rfl, _, _, rfl, rfl, _, rfl, ?_⟩⟩
    by_cases h1 : lo ≤ i
    · rw [decide_eq_true h1] at k ⊢
      exact iteT ⟨_, rfl, _, _, rfl, rfl, k⟩
    · rw [decide_eq_false h1] at k ⊢
      exact iteF k
end
end Wk
end
section
set_option Elab.async false
set_option linter.all false
set_option autoImplicit false
set_option maxRecDepth 100000
set_option maxHeartbeats 2000000
/-! The walk: steep_in, are_limits. -/
namespace Wk
open PySem L2 K46
def spSteep : Sp := fun vs H Q _ => ∃ (r d : Nat) (m : Option Nat), vs = [iV r, iV d, mV m] ∧ d ≤ r ∧ d ≤ 1000 ∧ (∀ k, m = some k → 1 ≤ k) ∧
  ∀ (H' : Hp) (p : Addr), Same H H' → H' p = some (.tup (iVs (steep r d m))) → Q (.ref p) H'
theorem same_upd {H H' : Hp} {p : Addr} {o : HO} (e : Same H H') (h : H p = none) : Same H (upd H' p o) := fun a u ha => by
  rw [upd_ne (ne_of_none ha h)]
  exact e a u ha
theorem same_new {H : Hp} {p : Addr} {o : HO} (h : H p = none) : Same H (upd H p o) := same_upd (Same.refl H) h
theorem stT {K : PySem.W.Frag} {H H' : Hp} {a : Addr} {xs : List V} (e : Same H H') (h : SqT K H a xs) : SqT K H' a xs := by
  rcases h with (h | ⟨o, h⟩) | h
  · exact .inl (.inl (e _ _ h))
  · exact .inl (.inr ⟨o, e _ _ h⟩)
  · exact .inr h
theorem tupT {K : PySem.W.Frag} {H : Hp} {a : Addr} {xs : List V} (h : H a = some (.tup xs)) : SqT K H a xs := .inl (.inl h)
theorem lstL {K : PySem.W.Frag} {H : Hp} {a : Addr} {xs : List V} (h : H a = some (.lst xs)) : SqL K H a xs := .inl (.inl h)
theorem ivs_app (a b : List Nat) : iVs a ++ iVs b = iVs (a ++ b) := List.map_append.symm
theorem ivs_snoc {a : List Nat} {z : Int} {n : Nat} (h : z = (n : Int)) : iVs a ++ [V.int z] = iVs (a ++ [n]) := by
  rw [h]
  exact ivs_app a [n]
theorem szl {n : Nat} (h : n ≤ 100000) : n ≤ sizeLine := Nat.le_trans h (by decide)
theorem szlt {n : Nat} (h : n ≤ 100000) : n < sizeLine := Nat.lt_of_le_of_lt h (by decide)
section
variable {P : Program} {w : World} {K : PySem.W.Frag} {mg : Str → Option Value} {base : Heap}
abbrev sSteep : Stmt := topS 12
theorem scA4 : FnScope ["rows", "different", "most", "left", "found", "value", "more"] ["rows", "different", "most"] (C8.fnScope sSteep) := C8.fnScope_by (by decide +kernel)
abbrev rIsN : R2 := fun x y H Q => y = .non ∧ Q (.bl (decide (x = .non))) H
abbrev rMin2 : List V → Hp → VK → Prop := fun xs H Q => ∃ i j, xs = [.int i, .int j] ∧ Q (.int (if j < i then j else i)) H
abbrev rMax2 : List V → Hp → VK → Prop := fun xs H Q => ∃ i j, xs = [.int i, .int j] ∧ Q (.int (if j > i then j else i)) H
/-- what one turn adds, of what is left -/
def moreOf (m : Option Nat) (left : Nat) : Nat := match m with | none => left | some k => min left (k - 1)
theorem steepGo_succ (m : Option Nat) (d l : Nat) : steepGo m (d + 1) l = (1 + moreOf m l) :: steepGo m d (l - moreOf m l) := rfl
theorem more_le (m : Option Nat) (l : Nat) : moreOf m l ≤ l := by
  unfold moreOf
  cases m with
  | none => exact Nat.le_refl _
  | some k => exact Nat.min_le_left _ _
theorem ok_steep {f : Addr} {fd : FuncData} (F : C8.Def K mg "steep_in" sSteep f fd) (b : Binds K fd ["rows", "different", "most"] []) (T : Nm mg) : Cl0 P w K mg base 1 "steep_in" spSteep [] := by
  refine C8.cal0 F b .nil scA4 (fun vs H Q E h => ?_) (fun cdv A outer s H vs Q E hr h => ?_)
  · obtain ⟨r, d, m, rfl, _⟩ := h
    rfl
  · obtain ⟨r, d, m, rfl, hd, hd2, hm, k⟩ := h
    refine ⟨_, pss_cons (ps_par (i := 3) (j := 4) (by rfl) scA4.nd rfl rfl (by decide) rfl rfl (pa_cons (pe_op op_sub (pv 0) (pv 1)) (pa_cons (pe_lst pa_nil) pa_nil)) (by rfl))
      (pss_cons (ps_for PassesOwn.never rfl (pi_range1 rfl T.rng (pa_cons (pv 1) pa_nil)) (pg_name (i := 5) scA4.nd rfl (Or.inl rfl))
        (pss_cons (ps_set (i := 6) scA4.nd rfl (Or.inl rfl) (pe_ifExp (pt_cmpR op_isN (pv 2) pe_non (nomark _)) (pv 3) (pe_callB (call_min2 (by rfl)) (by rfl) T.mn (by decide +kernel) (pa_cons (pv 3) (pa_cons (pe_op op_sub (pv 2) pe_int) pa_nil)))))
        (pss_cons (ps_expr (pe_bm PySem.F.plainAttrs_list PySem.F.slot_list_append PySem.F.type_list_append mt_append (pv 4) (pa_cons (pe_op op_add pe_int (pv 6)) pa_nil)))
        (pss_one (ps_aug (i := 3) scA4.nd rfl (.inl rfl) (pv 6) ip_sub)))))
      (pss_one (ps_ret (pe_callTy call_tuple_of (by rfl) T.tup (by decide +kernel) (pa_cons (pv 4) pa_nil))))), ?_⟩
    refine ⟨_, rfl, _, rfl, _, _, rfl, rfl, by decide, fun l hl => ⟨_, _, rfl, ?_⟩⟩
    refine ⟨_, rfl, _, rfl, by omega, by omega, for_range (n := d) (lo := 0) (fun i σ H2 => ∃ (acc : List Nat) (lf : Nat) (x y : Option V), σ = [some (iV r), some (iV d), some (mV m), some (iV lf), some (.ref l), x, y] ∧ acc ++ steepGo m (d - i) lf = steep r d m ∧ acc.length = i ∧ Same H H2 ∧ H2 l = some (.lst (iVs acc))) ?_ ?_ ?_⟩
    · refine ⟨[], r - d, none, none, ?_, rfl, rfl, same_new hl, upd_same⟩
      show [some (iV r), some (iV d), some (mV m), some (V.int ((r : Int) - (d : Int))), some (.ref l), none, none] = _
      rw [show (r : Int) - (d : Int) = ((r - d : Nat) : Int) by omega]
    · rintro i σ H2 hi ⟨acc, lf, x, y, rfl, e1, e2, s2, hL⟩
      have hl2 : Same H H2 := s2
      obtain ⟨j, hj⟩ : ∃ j, d - i = j + 1 := ⟨d - i - 1, by omega⟩
      rw [hj, steepGo_succ] at e1
      have hmore : ∀ (Z : VK), Z (iV (moreOf m lf)) H2 → (tIf (tTest (tOp rIsN (tVar 2) (tC .non))) (tVar 3) (tCB rMin2 (tCons (tVar 3) (tCons (tOp (rI0 fun i j => .int (i - j)) (tVar 2) (tC (.int 1))) tNil)))) [some (iV r), some (iV d), some (mV m), some (iV lf), some (.ref l), some (.int (0 + (i : Int))), y] H2 Z := by
        intro Z hz
        cases m with
        | none => exact ⟨_, rfl, rfl, _, rfl, iteT ⟨_, rfl, hz⟩⟩
        | some kk =>
          have hk := hm kk rfl
          refine ⟨_, rfl, rfl, _, rfl, iteF ⟨_, rfl, _, rfl, _, _, rfl, rfl, _, _, rfl, ?_⟩⟩
          have e : (if ((kk : Int) - 1) < (lf : Int) then ((kk : Int) - 1) else (lf : Int)) = ((moreOf (some kk) lf : Nat) : Int) := by
            show _ = ((min lf (kk - 1) : Nat) : Int)
            split <;> omega
          rw [e]
          exact hz
      refine hmore _ ?_
      refine ⟨_, rfl, .inl ⟨rfl, _, lstL hL⟩, _, rfl, _, _, rfl, rfl, l, _, _, rfl, rfl, hL, szlt (by rw [List.length_map]; omega), ?_⟩
      refine ⟨_, rfl, _, rfl, _, _, rfl, rfl, acc ++ [1 + moreOf m lf], lf - moreOf m lf, some (.int (0 + (i : Int))), some (iV (moreOf m lf)), ?_, ?_, ?_, ?_, ?_⟩
      · show [some (iV r), some (iV d), some (mV m), some (V.int ((lf : Int) - (moreOf m lf : Int))), some (V.ref l), some (V.int (0 + (i : Int))), some (iV (moreOf m lf))] = _
        rw [show (lf : Int) - (moreOf m lf : Int) = ((lf - moreOf m lf : Nat) : Int) by have := more_le m lf; omega]
      · rw [← e1, show d - (i + 1) = j by omega, List.append_assoc]
        rfl
      · rw [List.length_append, e2]
        rfl
      · exact same_upd hl2 hl
      · rw [upd_same]
        exact congrArg (fun q => some (HO.lst q)) (ivs_snoc (by show (1 : Int) + (moreOf m lf : Int) = _; omega))
    · rintro σ H2 ⟨acc, lf, x, y, rfl, e1, e2, s2, hL⟩
      refine ⟨_, rfl, l, _, rfl, .inl ⟨lstL hL, fun p hp => k _ p (same_upd s2 (s2.free hp)) ?_⟩⟩
      rw [upd_same, ← e1, Nat.sub_self]
      show _ = some (HO.tup (iVs (acc ++ [])))
      rw [List.append_nil]
end
end Wk
end
section
set_option Elab.async false
set_option linter.all false
set_option autoImplicit false
set_option maxRecDepth 100000
set_option maxHeartbeats 2000000
/-! The walk: are_limits, possible_pairs. -/
namespace Wk
open PySem L2 K46
def spLimits : Sp := fun vs H Q _ => ∃ (a : Addr) (x y : Nat), vs = [.ref a] ∧ H a = some (.tup [iV x, iV y]) ∧ x ≤ y ∧ Q (.bl true) H
def TripAt (H : Hp) (a : Addr) (q : Nat × Nat × Nat) : Prop := H a = some (.tup [iV q.1, iV q.2.1, iV q.2.2])
/-- a list of triples stands at L -/
def TripsAt (H : Hp) (L : Addr) (l : List (Nat × Nat × Nat)) : Prop := ∃ as : List Addr, H L = some (.lst (as.map V.ref)) ∧ Paired (TripAt H) as l
theorem trips_same {H H' : Hp} {L : Addr} {l : List (Nat × Nat × Nat)} (e : Same H H') (h : TripsAt H L l) : TripsAt H' L l := by
  obtain ⟨as, h1, h2⟩ := h
  exact ⟨as, e _ _ h1, h2.mono fun a q z => e _ _ z⟩
def spPairs : Sp := fun vs H Q _ => ∃ (T : Tl) (a b : Addr), vs = [iV T.n, .ref a, .ref b, mV T.most] ∧ H a = some (.tup [iV T.r0, iV T.r1]) ∧ H b = some (.tup [iV T.d0, iV T.d1]) ∧ T.n ≤ 64 ∧ T.d0 ≤ 1000 ∧
  ∀ (H' : Hp) (L : Addr), Same H H' → H L = none → TripsAt H' L (pairs T) → Q (.ref L) H'
section
variable {P : Program} {w : World} {K : PySem.W.Frag} {mg : Str → Option Value} {base : Heap}
theorem kit_tt : kitB "tuple" "tuple" = some true := by decide +kernel
theorem atI0 {α : Type} {x : α} {r : List α} : atI (x :: r) (0 : Int) = some x := atI_nat (j := 0) rfl
theorem atI1 {α : Type} {x y : α} {r : List α} : atI (x :: y :: r) (1 : Int) = some y := atI_nat (j := 1) rfl
theorem atI2 {α : Type} {x y z : α} {r : List α} : atI (x :: y :: z :: r) (2 : Int) = some z := atI_nat (j := 2) rfl
theorem atI3 {α : Type} {x y z u : α} {r : List α} : atI (x :: y :: z :: u :: r) (3 : Int) = some u := atI_nat (j := 3) rfl
abbrev sLimits : Stmt := topS 13
theorem scA5 : FnScope ["value"] ["value"] (C8.fnScope sLimits) := C8.fnScope_by (by decide +kernel)
theorem ok_limits {f : Addr} {fd : FuncData} (F : C8.Def K mg "are_limits" sLimits f fd) (b : Binds K fd ["value"] []) (T : Nm mg) (C2 : Cl0 P w K mg base 2 "is_count" spIsCount [.int 0]) : Cl0 P w K mg base 3 "are_limits" spLimits [] := by
  refine C8.cal0 F b .nil scA5 (fun vs H Q E h => ?_) (fun cdv A outer s H vs Q E hr h => ?_)
  · obtain ⟨a, x, y, rfl, _⟩ := h
    rfl
  · obtain ⟨a, x, y, rfl, ha, hxy, k⟩ := h
    have tp : SqT K H a [iV x, iV y] := tupT ha
    refine ⟨_, pss_cons (ps_if (PW.pt (pw_or (pt_not (pt_val (pe_callB call_isi (by rfl) T.isi (by decide +kernel) (pa_cons (pv 0) (pa_cons (pe_bltn (v := .ty "tuple") (by rfl) T.tup (by decide +kernel) rfl) pa_nil)))))
        (pw_or (pt_cmpR op_ne (pe_callB call_len_seq (by rfl) T.len PySem.boot_len (pa_cons (pv 0) pa_nil)) pe_int (nomark _))
        (pw_or (pt_not (pt_val (C8.pe_c C2 hr (by decide) rfl (pa_cons (pe_ix ix_tup (pv 0) pe_int (fun _ _ => rfl)) pa_nil))))
        (pw_or1 (pt_not (pt_val (C8.pe_c C2 hr (by decide) rfl (pa_cons (pe_ix ix_tup (pv 0) pe_int (fun _ _ => rfl)) pa_nil)))))))))
      (pss_one (ps_ret pe_bl)) pss_nil)
      (pss_one (ps_ret (pe_cmpR op_le (pe_ix ix_tup (pv 0) pe_int (fun _ _ => rfl)) (pe_ix ix_tup (pv 0) pe_int (fun _ _ => rfl)) (nomark _)))), ?_⟩
    refine ⟨_, rfl, _, _, _, _, true, rfl, ClsV.ty _, TyX.base (.tup ha), kit_ty kit_tt, _, rfl, iteF ?_⟩
    refine ⟨_, rfl, _, _, rfl, .inr tp, rfl, _, rfl, iteNS rfl ?_⟩
    refine ⟨_, rfl, _, _, _, _, rfl, rfl, tp, atI0, _, _, rfl, _, rfl, ?_⟩
    rw [decide_eq_true (by omega)]
    refine iteF ⟨_, rfl, _, _, _, _, rfl, rfl, tp, atI1, _, _, rfl, _, rfl, ?_⟩
    rw [decide_eq_true (by omega)]
    refine iteF ⟨_, rfl, _, _, _, _, rfl, rfl, tp, atI0, _, rfl, _, _, _, _, rfl, rfl, tp, atI1, _, _, rfl, rfl, ?_⟩
    show Q (.bl (decide ((x : Int) ≤ (y : Int)))) H
    rw [decide_eq_true (by omega)]
    exact k
abbrev sPairs : Stmt := topS 14
theorem scA6 : FnScope ["size", "rows", "different", "most", "found", "number", "low", "high"] ["size", "rows", "different", "most"] (C8.fnScope sPairs) := C8.fnScope_by (by decide +kernel)
abbrev preP (T : Tl) (i : Nat) : List (Nat × Nat × Nat) := (List.range i).flatMap fun j => pairAt T (T.d0 + j)
theorem pre_succ (T : Tl) (i : Nat) : preP T (i + 1) = preP T i ++ pairAt T (T.d0 + i) := by
  unfold preP
  rw [List.range_succ, List.flatMap_append]
  show _ ++ (_ ++ []) = _
  rw [List.append_nil]
theorem pre_len (T : Tl) : ∀ i, (preP T i).length ≤ i
  | 0 => Nat.le_refl _
  | i + 1 => by
    have h := pre_len T i
    rw [pre_succ, List.length_append]
    have : (pairAt T (T.d0 + i)).length ≤ 1 := by
      unfold pairAt
      split
      · exact Nat.le_refl _
      · exact Nat.zero_le _
    omega
theorem ok_pairs {f : Addr} {fd : FuncData} (F : C8.Def K mg "possible_pairs" sPairs f fd) (b : Binds K fd ["size", "rows", "different", "most"] []) (N : Nm mg) : Cl0 P w K mg base 1 "possible_pairs" spPairs [] := by
  refine C8.cal0 F b .nil scA6 (fun vs H Q E h => ?_) (fun cdv A outer s H vs Q E hr h => ?_)
  · obtain ⟨T, a, b, rfl, _⟩ := h
    rfl
  · obtain ⟨T, a, b, rfl, ha, hb, hn, hd0, k⟩ := h
    have ta : SqT K H a [iV T.r0, iV T.r1] := tupT ha
    have tb : SqT K H b [iV T.d0, iV T.d1] := tupT hb
    refine ⟨_, pss_cons (ps_set (i := 4) scA6.nd rfl (Or.inl rfl) (pe_lst pa_nil))
      (pss_cons (ps_for PassesOwn.never rfl (pi_range2 rfl N.rng (pa_cons (pe_ix ix_tup (pv 2) pe_int (fun _ _ => rfl)) (pa_cons (pe_op op_add (pe_callB (call_min2 (by rfl)) (by rfl) N.mn (by decide +kernel) (pa_cons (pe_ix ix_tup (pv 2) pe_int (fun _ _ => rfl)) (pa_cons (pv 0) pa_nil))) pe_int) pa_nil))) (pg_name (i := 5) scA6.nd rfl (Or.inl rfl))
        (pss_cons (ps_par (i := 6) (j := 7) (by rfl) scA6.nd rfl rfl (by decide) rfl rfl (pa_cons (pe_callB (call_max2 (by rfl)) (by rfl) N.mx (by decide +kernel) (pa_cons (pe_ix ix_tup (pv 1) pe_int (fun _ _ => rfl)) (pa_cons (pv 5) pa_nil))) (pa_cons (pe_ix ix_tup (pv 1) pe_int (fun _ _ => rfl)) pa_nil)) (by rfl))
        (pss_cons (ps_if (pt_cmpR op_notN (pv 3) pe_non (nomark _)) (pss_one (ps_set (i := 7) scA6.nd rfl (Or.inl rfl) (pe_callB (call_min2 (by rfl)) (by rfl) N.mn (by decide +kernel) (pa_cons (pv 7) (pa_cons (pe_op op_mul (pv 5) (pv 3)) pa_nil))))) pss_nil)
        (pss_cons (ps_if (pt_cmpR op_eq (pv 5) pe_int (nomark _)) (pss_one (ps_set (i := 7) scA6.nd rfl (Or.inl rfl) (pe_callB (call_min2 (by rfl)) (by rfl) N.mn (by decide +kernel) (pa_cons (pv 7) (pa_cons pe_int pa_nil))))) pss_nil)
        (pss_one (ps_if (pt_cmpR op_le (pv 6) (pv 7) (nomark _)) (pss_one (ps_expr (pe_bm PySem.F.plainAttrs_list PySem.F.slot_list_append PySem.F.type_list_append mt_append (pv 4) (pa_cons (pe_tup (pa_cons (pv 5) (pa_cons (pv 6) (pa_cons (pv 7) pa_nil)))) pa_nil)))) pss_nil))))))
      (pss_one (ps_ret (pv 4)))), ?_⟩
    refine ⟨by decide, fun l hl => ?_⟩
    have tb1 : SqT K (upd H l (.lst [])) b [iV T.d0, iV T.d1] := stT (same_new hl) tb
    refine ⟨_, rfl, _, _, _, _, rfl, rfl, tb1, atI0, _, rfl, _, _, _, _, rfl, rfl, tb1, atI1, _, rfl, _, _, rfl, _, _, rfl, rfl, _, _, rfl, ?_, ?_⟩
    · refine ⟨by omega, by omega, ?_, ?_⟩ <;> (split <;> omega)
    have en : ((if (T.n : Int) < (T.d1 : Int) then (T.n : Int) else (T.d1 : Int)) + 1 - (T.d0 : Int)).toNat = min T.d1 T.n + 1 - T.d0 := by
      split <;> omega
    refine for_range (lo := (T.d0 : Int)) (n := ((if (T.n : Int) < (T.d1 : Int) then (T.n : Int) else (T.d1 : Int)) + 1 - (T.d0 : Int)).toNat)
      (fun i σ H2 => ∃ (as : List Addr) (x y z : Option V), σ = [some (iV T.n), some (.ref a), some (.ref b), some (mV T.most), some (.ref l), x, y, z] ∧ Same H H2 ∧ H2 l = some (.lst (as.map V.ref)) ∧ Paired (TripAt H2) as (preP T i)) ?_ ?_ ?_
    · exact ⟨[], none, none, none, rfl, same_new hl, upd_same, .nil⟩
    · rintro i σ H2 hi ⟨as, x, y, z, rfl, s2, hL, pr⟩
      rw [en] at hi
      have ta2 : SqT K H2 a [iV T.r0, iV T.r1] := stT s2 ta
      have ei : ((T.d0 : Int) + (i : Int)) = ((T.d0 + i : Nat) : Int) := by omega
      obtain ⟨d, hd⟩ : ∃ d, d = T.d0 + i := ⟨_, rfl⟩
      rw [ei, ← hd]
      refine ⟨_, rfl, _, _, _, _, rfl, rfl, ta2, atI0, _, rfl, _, _, rfl, _, rfl, _, _, _, _, rfl, rfl, ta2, atI1, _, _, rfl, ?_⟩
      have e1 : (if (d : Int) > (T.r0 : Int) then (d : Int) else (T.r0 : Int)) = ((max T.r0 d : Nat) : Int) := by split <;> omega
      rw [e1]
      let S : Nat → L2.St := fun h => [some (iV T.n), some (.ref a), some (.ref b), some (mV T.most), some (.ref l), some (iV d), some (iV (max T.r0 d)), some (iV h)]
      let h1 : Nat := match T.most with | none => T.r1 | some m => min T.r1 (d * m)
      have step1 : ∀ D : Ends, D.nx (S h1) H2 → tIfS (tTest (tOp (fun x y H Q => y = .non ∧ Q (.bl (!decide (x = .non))) H) (tVar 3) (tC .non)))
          (tAsg (tCB rMin2 (tCons (tVar 7) (tCons (tOp (rI CMul fun i j => .int (i * j)) (tVar 5) (tVar 3)) tNil))) (gName 7)) tNext D (S T.r1) H2 := by
        intro D hD
        cases em : T.most with
        | none =>
          have eh : h1 = T.r1 := by show (match T.most with | none => T.r1 | some m => min T.r1 (d * m)) = _; rw [em]
          rw [eh] at hD
          exact ⟨_, (show (S T.r1)[3]? = some (some (mV T.most)) from rfl), by rw [em]; exact ⟨rfl, _, rfl, iteF hD⟩⟩
        | some m =>
          have eh : h1 = min T.r1 (d * m) := by show (match T.most with | none => T.r1 | some m => min T.r1 (d * m)) = _; rw [em]
          rw [eh] at hD
          refine ⟨mV T.most, rfl, ?_⟩
          rw [em]
          refine ⟨rfl, _, rfl, iteT ?_⟩
          refine ⟨_, rfl, _, rfl, mV T.most, rfl, ?_⟩
          rw [em]
          refine ⟨_, _, rfl, rfl, .inl ⟨by omega, by omega⟩, _, _, rfl, ?_⟩
          have e : (if (d : Int) * (m : Int) < (T.r1 : Int) then (d : Int) * (m : Int) else (T.r1 : Int)) = ((min T.r1 (d * m) : Nat) : Int) := by
            have : ((d * m : Nat) : Int) = (d : Int) * (m : Int) := Int.natCast_mul _ _
            rw [← this]
            split <;> omega
          show D.nx ([some (iV T.n), some (.ref a), some (.ref b), some (mV T.most), some (.ref l), some (iV d), some (iV (max T.r0 d)), some (V.int (if (d : Int) * (m : Int) < (T.r1 : Int) then (d : Int) * (m : Int) else (T.r1 : Int)))]) H2
          rw [e]
          exact hD
      have step2 : ∀ D : Ends, D.nx (S (hiOf T.r1 T.most d)) H2 → tIfS (tTest (tOp rEq (tVar 5) (tC (.int 0)))) (tAsg (tCB rMin2 (tCons (tVar 7) (tCons (tC (.int 0)) tNil))) (gName 7)) tNext D (S h1) H2 := by
        intro D hD
        refine ⟨_, rfl, rfl, _, rfl, ite2 (fun hc => ?_) fun hc => ?_⟩
        · have d0 : d = 0 := by
            have := of_decide_eq_true hc
            have := V.int.inj this
            omega
          refine ⟨_, rfl, _, _, rfl, ?_⟩
          have e : (if (0 : Int) < (h1 : Int) then (0 : Int) else (h1 : Int)) = ((hiOf T.r1 T.most d : Nat) : Int) := by
            rw [d0, hiOf_zero]
            split <;> omega
          show D.nx ([some (iV T.n), some (.ref a), some (.ref b), some (mV T.most), some (.ref l), some (iV d), some (iV (max T.r0 d)), some (V.int (if (0 : Int) < (h1 : Int) then (0 : Int) else (h1 : Int)))]) H2
          rw [e]
          exact hD
        · have d0 : ¬ d = 0 := fun z => hc (by rw [z]; rfl)
          have e : h1 = hiOf T.r1 T.most d := by
            unfold hiOf
            rw [if_neg d0]
            all_goals rfl
          rw [← e] at hD
          exact hD
      refine step1 _ (step2 _ ?_)
      refine ⟨_, rfl, _, rfl, _, _, rfl, rfl, _, rfl, ite2 (fun hc => ?_) fun hc => ?_⟩
      · have hle : max T.r0 d ≤ hiOf T.r1 T.most d := by have := of_decide_eq_true hc; omega
        refine ⟨_, rfl, .inl ⟨rfl, _, lstL hL⟩, _, rfl, _, rfl, _, rfl, szl (by show 3 ≤ 100000; decide), fun p hp => ⟨l, as.map V.ref, _, rfl, rfl, ?_, szlt ?_, ?_⟩⟩
        · rw [upd_ne (ne_of_none hL hp)]
          exact hL
        · rw [List.length_map, pr.length]
          have := pre_len T i
          omega
        · have npl : p ≠ l := fun z => by rw [z, hL] at hp; cases hp
          refine ⟨as ++ [p], some (iV d), some (iV (max T.r0 d)), some (iV (hiOf T.r1 T.most d)), rfl, same_upd (same_upd s2 (s2.free hp)) hl, ?_, ?_⟩
          · rw [upd_same, List.map_append]
            rfl
          · rw [pre_succ, ← hd]
            have ep : pairAt T d = [(d, max T.r0 d, hiOf T.r1 T.most d)] := by
              unfold pairAt
              rw [if_pos hle]
            rw [ep]
            refine Paired.snoc (pr.mono fun c q hq => ?_) ?_
            · have hc2 : c ≠ l := fun z => by
                have hq' : H2 c = some (.tup _) := hq
                rw [z, hL] at hq'
                cases hq'
              show upd _ _ _ c = _
              rw [upd_ne hc2, upd_ne (ne_of_none hq hp)]
              exact hq
            · show upd _ _ _ p = _
              rw [upd_ne npl, upd_same]
      · have hle : ¬ max T.r0 d ≤ hiOf T.r1 T.most d := fun z => hc (decide_eq_true (by omega))
        refine ⟨as, some (iV d), some (iV (max T.r0 d)), some (iV (hiOf T.r1 T.most d)), rfl, s2, hL, ?_⟩
        rw [pre_succ, ← hd]
        have ep : pairAt T d = [] := by
          unfold pairAt
          rw [if_neg hle]
        rw [ep, List.append_nil]
        exact pr
    · rintro σ H2 ⟨as, x, y, z, rfl, s2, hL, pr⟩
      rw [en] at pr
      exact ⟨_, rfl, k H2 l s2 hl ⟨as, hL, pr⟩⟩
end
end Wk
end
section
set_option Elab.async false
set_option linter.all false
set_option autoImplicit false
set_option maxRecDepth 100000
set_option maxHeartbeats 2000000
/-! The walk: Spread made. -/
namespace Wk
open PySem L2 K46 SlX
/-- what the class Spread must be -/
structure SpC (K : PySem.W.Frag) (mg : Str → Option Value) (C : Addr) : Prop where
  c : SCls K C
  isi : SIsi K C
  d : ∃ p, Slot1 K C "own_different" p 0
  f : ∃ p, Slot1 K C "own_form" p 1
  m : ∃ p, Slot1 K C "own_most" p 2
  r : ∃ p, Slot1 K C "own_rows" p 3
  s : ∃ p, Slot1 K C "own_size" p 4
  mg : mg "Spread" = some (.ref C)
/-- a spread stands at a, its own dict at dx -/
def SprD (C : Addr) (H : Hp) (a dx : Addr) (T : Tl) : Prop := ∃ rb db fm : Addr, Slt H a C dx [some (.ref db), some (.ref fm), some (mV T.most), some (.ref rb), some (iV T.n)] ∧
  H rb = some (.tup [iV T.r0, iV T.r1]) ∧ H db = some (.tup [iV T.d0, iV T.d1])
def SprAt (C : Addr) (H : Hp) (a : Addr) (T : Tl) : Prop := ∃ dx, SprD C H a dx T
theorem slt_same {H H' : Hp} {a C dx : Addr} {vs : List (Option V)} (e : Same H H') (h : Slt H a C dx vs) : Slt H' a C dx vs := by
  rcases h with ⟨h1, h2⟩ | ⟨h1, h2⟩
  · exact .inl ⟨e _ _ h1, h2⟩
  · exact .inr ⟨e _ _ h1, e _ _ h2⟩
theorem spr_same {C : Addr} {H H' : Hp} {a : Addr} {T : Tl} (e : Same H H') (h : SprAt C H a T) : SprAt C H' a T := by
  obtain ⟨dx, rb, db, fm, h1, h2, h3⟩ := h
  exact ⟨dx, rb, db, fm, slt_same e h1, e _ _ h2, e _ _ h3⟩
/-- what __init__ is given -/
structure Fine (T : Tl) : Prop where
  n1 : 1 ≤ T.n
  n64 : T.n ≤ 64
  r : T.r0 ≤ T.r1
  d : T.d0 ≤ T.d1
  d0 : T.d0 ≤ 1000
  mo : ∀ k, T.most = some k → 1 ≤ k
  ne : pairs T ≠ []
def spInit (C : Addr) : Sp := fun vs H Q _ => ∃ (x dx rb db : Addr) (T : Tl), vs = [.ref x, iV T.n, .ref rb, .ref db, mV T.most] ∧ H x = some (.ins C dx []) ∧ H dx = some (.own x) ∧ x ≠ dx ∧ H rb = some (.tup [iV T.r0, iV T.r1]) ∧ H db = some (.tup [iV T.d0, iV T.d1]) ∧ Fine T ∧
  ∀ H' : Hp, SprD C H' x dx T → (∀ b o, H b = some o → b ≠ x → b ≠ dx → H' b = some o) → Q .non H'
def tD (z : Nat × Nat × Nat) : PyData := .tuple [.int z.1, .int z.2.1, .int z.2.2]
theorem tD_lay (z : Nat × Nat × Nat) : (tD z).canLay0 = true := by simp [tD, PyData.canLay0, PyData.canLayAll0]
theorem tD_depth (z : Nat × Nat × Nat) : (tD z).depth = 1 := by simp [tD, PyData.depth, PyData.depthAll]
theorem tDs_lay : ∀ zs : List (Nat × Nat × Nat), PyData.canLayAll0 (zs.map tD) = true
  | [] => by simp [PyData.canLayAll0]
  | z :: zs => by simp [PyData.canLayAll0, tD_lay z, tDs_lay zs]
theorem tDs_depth : ∀ zs : List (Nat × Nat × Nat), PyData.depthAll (zs.map tD) ≤ 1
  | [] => by simp [PyData.depthAll]
  | z :: zs => by
    have h1 := tDs_depth zs
    have h2 := tD_depth z
    simp only [List.map_cons, PyData.depthAll]
    omega
theorem tDs_shaped (zs : List (Nat × Nat × Nat)) : SeqAt.shaped (.list (zs.map tD)) = true := by
  have h1 := tDs_depth zs
  have h2 : PyData.depth (.list (zs.map tD)) ≤ 64 := by
    simp only [PyData.depth]
    omega
  show (PyData.canLay0 (.list (zs.map tD)) && decide (PyData.depth (.list (zs.map tD)) ≤ 64)) = true
  rw [Bool.and_eq_true]
  exact ⟨by simp only [PyData.canLay0]; exact tDs_lay zs, decide_eq_true h2⟩
theorem dp_trips {K : PySem.W.Frag} {H : Hp} : ∀ {as : List Addr} {l : List (Nat × Nat × Nat)}, Paired (TripAt H) as l → DpAll K H (as.map V.ref) (l.map tD)
  | _, _, .nil => .nil
  | _, _, .cons h t => .cons (.tup (tupT h) (.cons (.int _) (.cons (.int _) (.cons (.int _) .nil)))) (dp_trips t)
theorem eqv_nil {l : List (Nat × Nat × Nat)} (h : l ≠ []) : PyData.eqv (.list (l.map tD)) (.list []) = false := by
  cases l with
  | nil => exact absurd rfl h
  | cons a r => simp [PyData.eqv, PyData.eqvAll]
section
variable {P : Program} {w : World} {K : PySem.W.Frag} {mg : Str → Option Value} {base : Heap}
abbrev sInit : Stmt := inClass (topS 15) 1
theorem scB1 : FnScope ["self", "size", "rows", "different", "most", "limits"] ["self", "size", "rows", "different", "most"] (C8.fnScope sInit) := C8.fnScope_by (by decide +kernel)
theorem ok_init {f C : Addr} {fd : FuncData} {tk : Tok} (F : C8.Fun K "__init__" "Spread.__init__" sInit f fd) (T : SpC K mg C) (mgM : mg "MOST_SIZE" = some (.int 64 tk)) (C2 : Cl0 P w K mg base 2 "is_count" spIsCount [.int 0]) (C3 : Cl0 P w K mg base 2 "is_between" spBetween [])
    (C4 : Cl0 P w K mg base 3 "are_limits" spLimits []) (C5 : Cl0 P w K mg base 1 "possible_pairs" spPairs []) : FnOk P w K mg base CX0 4 f fd ["self", "size", "rows", "different", "most"] (spInit C) := by
  refine C8.fn0 F scB1 (fun vs H Q E h => ?_) (fun cdv A outer s H vs Q E hr h => ?_)
  · obtain ⟨x, dx, rb, db, T, rfl, _⟩ := h
    rfl
  · obtain ⟨x, dx, rb, db, U, rfl, hx, hdx, nxd, hrb, hdb, fn, k⟩ := h
    have hu : A.units + 3 + 64 < cLine := by have := hr.un; have e : (A.deeper (PyProof.Rows.envOfC "Spread.__init__" (C8.fnScope sInit) s.heap.objs.size f cdv)).units = A.units + 3 := rfl; omega
    refine ⟨_, pss_cons (ps_if (pt_not (pt_val (C8.pe_c C3 hr (by decide) rfl (pa_cons (pv 1) (pa_cons pe_int (pa_cons (pe_glob (v := .int 64) rfl mgM ⟨_, rfl⟩) pa_nil)))))) (pss_one ps_never) pss_nil)
      (pss_cons (ps_for PassesOwn.never rfl (pi_tup (pe_tup (pa_cons (pv 2) (pa_cons (pv 3) pa_nil)))) (pg_name (i := 5) scB1.nd rfl (Or.inl rfl)) (pss_one (ps_if (pt_not (pt_val (C8.pe_c C4 hr (by decide) rfl (pa_cons (pv 5) pa_nil)))) (pss_one ps_never) pss_nil)))
      (Evl.pss_cut (ps_if (PW.pt (pw_and (pt_cmpR op_notN (pv 4) pe_non (nomark _)) (pw_and1 (PW.pt (pw_or (pt_not (pt_val (C8.pe_c C2 hr (by decide) rfl (pa_cons (pv 4) pa_nil)))) (pw_or1 (pt_cmpR op_eq (pv 4) pe_int (nomark _)))))))) (pss_one ps_never) pss_nil)
      (pss_cons (ps_sl (pv 0) (pv 1)) (pss_cons (ps_sl (pv 0) (pv 2)) (pss_cons (ps_sl (pv 0) (pv 3)) (pss_cons (ps_sl (pv 0) (pv 4)) (pss_cons (ps_sl (pv 0) (pe_tup (pa_cons (pv 1) (pa_cons (pv 2) (pa_cons (pv 3) (pa_cons (pv 4) pa_nil))))))
      (pss_one (ps_if (pt_cmpR (op_eqD hu) (C8.pe_c C5 hr (by decide) rfl (pa_cons (pv 1) (pa_cons (pv 2) (pa_cons (pv 3) (pa_cons (pv 4) pa_nil))))) (pe_lst pa_nil) (nomark _)) (pss_one ps_never) pss_nil))))))))), ?_⟩
    obtain ⟨pd, Sd⟩ := T.d
    obtain ⟨pf, Sf⟩ := T.f
    obtain ⟨pm, Sm⟩ := T.m
    obtain ⟨pr, Sr⟩ := T.r
    obtain ⟨ps, Ss⟩ := T.s
    have n1 := fn.n1
    have n64 := fn.n64
    refine ⟨_, rfl, _, _, _, rfl, _, rfl, ?_⟩
    rw [decide_eq_true (show (1 : Int) ≤ (U.n : Int) by omega), decide_eq_true (show (U.n : Int) ≤ 64 by omega)]
    refine iteF ?_
    refine ⟨_, rfl, _, rfl, szl (by show 2 ≤ 100000; decide), fun t ht => ?_⟩
    have s0 : Same H (upd H t (.tup [.ref rb, .ref db])) := same_new ht
    refine ⟨t, rfl, ⟨_, tupT upd_same⟩, for_tup (K := K) (a := t) (xs := [.ref rb, .ref db]) (fun i σ H2 => ∃ y : Option V, σ = [some (.ref x), some (iV U.n), some (.ref rb), some (.ref db), some (mV U.most), y] ∧ H2 = upd H t (.tup [.ref rb, .ref db])) ⟨none, rfl, rfl⟩ (fun i σ H2 _ ⟨_, _, e⟩ => by rw [e]; exact tupT upd_same) ?_ ?_⟩
    · rintro i y σ H2 hi ⟨z, rfl, rfl⟩
      have hy : ∃ (c : Addr) (u v : Nat), y = .ref c ∧ H c = some (.tup [iV u, iV v]) ∧ u ≤ v := by
        match i, hi with
        | 0, hi => exact ⟨rb, U.r0, U.r1, (Option.some.inj hi).symm, hrb, fn.r⟩
        | 1, hi => exact ⟨db, U.d0, U.d1, (Option.some.inj hi).symm, hdb, fn.d⟩
      obtain ⟨c, u, v, rfl, hc, huv⟩ := hy
      exact ⟨_, rfl, c, u, v, rfl, s0 _ _ hc, huv, _, rfl, iteF ⟨_, rfl, rfl⟩⟩
    · rintro σ H2 ⟨z, rfl, rfl⟩
      have s1 : Same H (upd H t (.tup [.ref rb, .ref db])) := s0
      obtain ⟨H2, eH⟩ : ∃ H2, H2 = upd H t (.tup [.ref rb, .ref db]) := ⟨_, rfl⟩
      rw [← eH] at s1 ⊢
      let S : L2.St := [some (.ref x), some (iV U.n), some (.ref rb), some (.ref db), some (mV U.most), z]
      refine ⟨fun σ' H' => σ' = S ∧ H' = H2, ?_, ?_⟩
      · cases em : U.most with
        | none => exact ⟨_, rfl, rfl, _, rfl, iteF (iteF ⟨by show _ = [some (V.ref x), some (iV U.n), some (.ref rb), some (.ref db), some (mV U.most), z]; rw [em], rfl⟩)⟩
        | some m =>
          have m1 := fn.mo m em
          refine ⟨_, rfl, rfl, _, rfl, iteT ⟨_, rfl, _, _, rfl, _, rfl, ?_⟩⟩
          rw [decide_eq_true (show (0 : Int) ≤ (m : Int) by omega)]
          refine iteF ⟨_, rfl, rfl, _, rfl, ?_⟩
          rw [decide_eq_false (show ¬ (mV (some m) = V.int 0) from fun q => by have := V.int.inj q; omega)]
          exact iteF ⟨by show _ = [some (V.ref x), some (iV U.n), some (.ref rb), some (.ref db), some (mV U.most), z]; rw [em], rfl⟩
      · rintro σ' H' ⟨rfl, rfl⟩
        have h0 : Slt H' x C dx [] := .inl ⟨s1 _ _ hx, rfl⟩
        have ndx : dx ≠ x := Ne.symm nxd
        have tup_ne : ∀ (a : Addr) (l : List V), H a = some (.tup l) → a ≠ x ∧ a ≠ dx := fun a l ha => ⟨ne_of ha hx (fun q => by cases q), ne_of ha hdx (fun q => by cases q)⟩
        refine ⟨_, rfl, _, rfl, x, C, dx, ps, [], 4, rfl, h0, T.c, Ss, ?_⟩
        refine ⟨_, rfl, _, rfl, x, C, dx, pr, _, 3, rfl, slH_slt ndx, T.c, Sr, ?_⟩
        rw [slH_twice ndx]
        refine ⟨_, rfl, _, rfl, x, C, dx, pd, _, 0, rfl, slH_slt ndx, T.c, Sd, ?_⟩
        rw [slH_twice ndx]
        refine ⟨_, rfl, _, rfl, x, C, dx, pm, _, 2, rfl, slH_slt ndx, T.c, Sm, ?_⟩
        rw [slH_twice ndx]
        refine ⟨_, rfl, _, rfl, _, rfl, _, rfl, szl (by show 4 ≤ 100000; decide), fun fm hfm => ?_⟩
        let vs4 : List (Option V) := putS 2 (mV U.most) (putS 0 (.ref db) (putS 3 (.ref rb) (putS 4 (iV U.n) [])))
        have hfm' : slH H' x C dx vs4 fm = none := hfm
        refine ⟨_, rfl, x, C, dx, pf, vs4, 1, rfl, slt_same (same_new hfm') (slH_slt ndx), T.c, Sf, ?_⟩
        obtain ⟨H4, e4⟩ : ∃ H4, H4 = slH (upd (slH H' x C dx vs4) fm (.tup [iV U.n, .ref rb, .ref db, mV U.most])) x C dx (putS 1 (.ref fm) vs4) := ⟨_, rfl⟩
        have keep : ∀ b o, H b = some o → b ≠ x → b ≠ dx → H4 b = some o := fun b o e h1 h2 => by
          have q : slH H' x C dx vs4 b = some o := by
            rw [slH_ne h1 h2]
            exact s1 _ _ e
          rw [e4, slH_ne h1 h2, upd_ne (ne_of_none q hfm')]
          exact q
        have S4 : SprD C H4 x dx U := ⟨rb, db, fm, by rw [e4]; exact slH_slt ndx, keep _ _ hrb (tup_ne _ _ hrb).1 (tup_ne _ _ hrb).2, keep _ _ hdb (tup_ne _ _ hdb).1 (tup_ne _ _ hdb).2⟩
        rw [← e4]
        refine ⟨_, rfl, _, rfl, _, rfl, _, rfl, U, rb, db, rfl, keep _ _ hrb (tup_ne _ _ hrb).1 (tup_ne _ _ hrb).2, keep _ _ hdb (tup_ne _ _ hdb).1 (tup_ne _ _ hdb).2, n64, fn.d0, fun H5 L s5 hL tr => ?_⟩
        refine ⟨by decide, fun e he => ?_⟩
        obtain ⟨as, hL5, pr5⟩ := tr
        have s6 : Same H5 (upd H5 e (.lst [])) := same_new he
        have pr6 : Paired (TripAt (upd H5 e (.lst []))) as (pairs U) := pr5.mono fun a q z => s6 _ _ z
        refine ⟨_, _, .lst (lstL (s6 _ _ hL5)) (dp_trips pr6), .lst (lstL upd_same) .nil, tDs_shaped _, (by decide +kernel), _, rfl, ?_⟩
        rw [eqv_nil fn.ne]
        refine iteF (k _ ?_ fun b o e h1 h2 => s6 _ _ (s5 _ _ (keep b o e h1 h2)))
        obtain ⟨r, d, m, q1, q2, q3⟩ := S4
        exact ⟨r, d, m, slt_same (s5.trans s6) q1, s6 _ _ (s5 _ _ q2), s6 _ _ (s5 _ _ q3)⟩
end
end Wk
end
section
set_option Elab.async false
set_option linter.all false
set_option autoImplicit false
set_option maxRecDepth 100000
set_option maxHeartbeats 2000000
/-! The walk: size, most, pairs, fullest. -/
namespace Wk
open PySem L2 K46 SlX GenW
/-- a promise of positional arguments, from a def's -/
theorem fnr_of {P : Program} {w : World} {K : PySem.W.Frag} {mg : Str → Option Value} {base : Heap} {CX : CXT} {k : Nat} {f : Addr} {fd : FuncData} {ps : List Str} {sp : Sp} (F : FnOk P w K mg base CX k f fd ps sp) (b : Binds K fd ps []) : FnR P w K mg base CX k f sp :=
  fun A outer s H us vs Q E hr e0 r h => by
    have KX : K.In s.heap := e0.mod.kin.keeps fun b o e => (e0.bs b o e).1
    have hl : (us ++ ([] : List Value)).length = ps.length := by
      rw [List.append_nil, ← r.length]
      exact F.len _ _ _ _ h
    have hb := b s us KX hl
    rw [List.append_nil] at hb
    exact F.run A outer s H ⟨us, []⟩ us vs Q E hr e0 hb r h
/-! ### comprehensions: what is so between two turns -/
def CI (H1 : Hp) (D : Addr) (R : Nat → List V → Hp → Prop) (i : Nat) (H : Hp) : Prop := Same H1 H ∧ ∃ ys, H D = some (.lst ys) ∧ ys.length ≤ i ∧ R i ys H
theorem ci0 {H1 : Hp} {D : Addr} {R : Nat → List V → Hp → Prop} (hD : H1 D = none) (h : R 0 [] (upd H1 D (.lst []))) : CI H1 D R 0 (upd H1 D (.lst [])) := ⟨same_new hD, [], upd_same, Nat.le_refl _, h⟩
theorem ci_yes {H1 H H4 : Hp} {D : Addr} {R : Nat → List V → Hp → Prop} {i : Nat} {ys : List V} {y : V} (hD : H1 D = none) (hi : i < 100000) (s0 : Same H1 H) (hys : H D = some (.lst ys)) (hl : ys.length ≤ i) (s : Same H H4) (h : R (i + 1) (ys ++ [y]) (upd H4 D (.lst (ys ++ [y])))) :
    ∃ acc, H4 D = some (.lst acc) ∧ acc.length < sizeLine ∧ CI H1 D R (i + 1) (upd H4 D (.lst (acc ++ [y]))) :=
  ⟨ys, s _ _ hys, szlt (by omega), same_upd (s0.trans s) hD, _, upd_same, by rw [List.length_append]; exact Nat.succ_le_succ hl, h⟩
theorem ci_no {H1 H H3 : Hp} {D : Addr} {R : Nat → List V → Hp → Prop} {i : Nat} {ys : List V} (s0 : Same H1 H) (hys : H D = some (.lst ys)) (hl : ys.length ≤ i) (s : Same H H3) (h : R (i + 1) ys H3) : CI H1 D R (i + 1) H3 :=
  ⟨s0.trans s, ys, s _ _ hys, Nat.le_succ_of_le hl, h⟩
theorem trip_get {H : Hp} : ∀ {as : List Addr} {l : List (Nat × Nat × Nat)} {i : Nat} {x : V}, Paired (TripAt H) as l → (as.map V.ref)[i]? = some x → ∃ a q, x = .ref a ∧ l[i]? = some q ∧ TripAt H a q
  | _, _, i, x, .nil, e => by simp at e
  | _, _, 0, x, .cons h t, e => by
    simp at e
    exact ⟨_, _, e.symm, rfl, h⟩
  | _, _, i + 1, x, .cons h t, e => by
    obtain ⟨a, q, h1, h2, h3⟩ := trip_get (i := i) (x := x) t (by simpa using e)
    exact ⟨a, q, h1, by simpa using h2, h3⟩
theorem take_snoc {α : Type} {l : List α} {i : Nat} {q : α} (h : l[i]? = some q) : l.take (i + 1) = l.take i ++ [q] := by
  rw [List.take_succ, h]
  rfl
/-! ### size, most -/
def spSize (C : Addr) : Sp := fun vs H Q _ => ∃ (a : Addr) (T : Tl), vs = [.ref a] ∧ SprAt C H a T ∧ Q (iV T.n) H
def spMost (C : Addr) : Sp := fun vs H Q _ => ∃ (a : Addr) (T : Tl), vs = [.ref a] ∧ SprAt C H a T ∧ Q (mV T.most) H
def spPairsY (C : Addr) : Gy.SpY := fun vs H Q => ∃ (a : Addr) (T : Tl), vs = [.ref a] ∧ SprAt C H a T ∧ T.n ≤ 64 ∧ T.d0 ≤ 1000 ∧ ∀ (H' : Hp) (as : List Addr), Same H H' → Paired (TripAt H') as (pairs T) → Q (as.map V.ref) H'
def spPairsG (C : Addr) : SpG := fun vs H Q _ => spPairsY C vs H Q
section
variable {P : Program} {w : World} {K : PySem.W.Frag} {mg : Str → Option Value} {base : Heap}
abbrev sSize : Stmt := inClass (topS 15) 2
theorem scB2 : FnScope ["self"] ["self"] (C8.fnScope sSize) := C8.fnScope_by (by decide +kernel)
theorem ok_size {f C : Addr} {fd : FuncData} (F : C8.Fun K "size" "Spread.size" sSize f fd) (T : SpC K mg C) : FnOk P w K mg base CX0 1 f fd ["self"] (spSize C) := by
  refine C8.fn0 F scB2 (fun vs H Q E h => ?_) (fun cdv A outer s H vs Q E hr h => ?_)
  · obtain ⟨a, U, rfl, _⟩ := h
    rfl
  · obtain ⟨a, U, rfl, ⟨dx, rb, db, fm, hs, _⟩, k⟩ := h
    obtain ⟨p, S⟩ := T.s
    exact ⟨_, pss_one (ps_ret (pe_sl (pv 0))), _, rfl, a, C, dx, p, _, 4, _, rfl, hs, T.c, S, rfl, k⟩
abbrev sMost : Stmt := inClass (topS 15) 5
theorem scB3 : FnScope ["self"] ["self"] (C8.fnScope sMost) := C8.fnScope_by (by decide +kernel)
theorem ok_most {f C : Addr} {fd : FuncData} (F : C8.Fun K "most" "Spread.most" sMost f fd) (T : SpC K mg C) : FnOk P w K mg base CX0 1 f fd ["self"] (spMost C) := by
  refine C8.fn0 F scB3 (fun vs H Q E h => ?_) (fun cdv A outer s H vs Q E hr h => ?_)
  · obtain ⟨a, U, rfl, _⟩ := h
    rfl
  · obtain ⟨a, U, rfl, ⟨dx, rb, db, fm, hs, _⟩, k⟩ := h
    obtain ⟨p, S⟩ := T.m
    exact ⟨_, pss_one (ps_ret (pe_sl (pv 0))), _, rfl, a, C, dx, p, _, 2, _, rfl, hs, T.c, S, rfl, k⟩
/-! ### pairs -/
abbrev sPairsM : Stmt := inClass (topS 15) 7
theorem scB4 : GScope ["self"] ["self"] (C8.fnScope sPairsM) := ⟨rfl, rfl, rfl, by decide +kernel, rfl, by decide +kernel, by decide +kernel⟩
theorem ok_pairsY {f C : Addr} {fd : FuncData} (F : C8.Fun K "pairs" "Spread.pairs" sPairsM f fd) (T : SpC K mg C) (C5 : Cl0 P w K mg base 1 "possible_pairs" spPairs []) : Gy.GFy P w K mg base 2 f fd ["self"] (spPairsY C) := by
  obtain ⟨oc, od, dV, kV, doc, pm, an, cdv, ct, osl, rfl, lk, hcd⟩ := F.ex
  refine Gy.gfy_of (k := 1) lk hcd scB4 (fun vs H Q h => ?_) (fun L => rfl) (fun A outer s H vs Q pn hr h => ?_)
  · obtain ⟨a, U, rfl, _⟩ := h
    rfl
  · obtain ⟨a, U, rfl, ⟨dx, rb, db, fm, hs, h1, h2⟩, hn, hd, k⟩ := h
    obtain ⟨pd, Sd⟩ := T.d
    obtain ⟨pm', Sm⟩ := T.m
    obtain ⟨pr, Sr⟩ := T.r
    obtain ⟨ps, Ss⟩ := T.s
    refine ⟨_, C8.pe_c C5 hr (by decide) rfl (pa_cons (pe_sl (pv 0)) (pa_cons (pe_sl (pv 0)) (pa_cons (pe_sl (pv 0)) (pa_cons (pe_sl (pv 0)) pa_nil)))), ?_⟩
    refine ⟨_, rfl, a, C, dx, ps, _, 4, _, rfl, hs, T.c, Ss, rfl, ?_⟩
    refine ⟨_, rfl, a, C, dx, pr, _, 3, _, rfl, hs, T.c, Sr, rfl, ?_⟩
    refine ⟨_, rfl, a, C, dx, pd, _, 0, _, rfl, hs, T.c, Sd, rfl, ?_⟩
    refine ⟨_, rfl, a, C, dx, pm', _, 2, _, rfl, hs, T.c, Sm, rfl, ?_⟩
    refine ⟨U, rb, db, rfl, h1, h2, hn, hd, fun H1 L s1 hL ⟨as, q1, q2⟩ => ⟨L, _, rfl, hL, q1, ?_⟩⟩
    have ne : ∀ c q, TripAt H1 c q → c ≠ L := fun c q z e => by
      have z' : H1 c = some (.tup _) := z
      rw [e, q1] at z'
      cases z'
    refine k _ as (fun b o e => ?_) (q2.mono fun c q z => ?_)
    · have hb : b ≠ L := ne_of_none e hL
      show (if b = L then none else H1 b) = some o
      rw [if_neg hb]
      exact s1 _ _ e
    · show (if c = L then none else H1 c) = _
      rw [if_neg (ne c q z)]
      exact z
theorem ok_pairsG {f C : Addr} {fd : FuncData} (F : C8.Fun K "pairs" "Spread.pairs" sPairsM f fd) (T : SpC K mg C) (C5 : Cl0 P w K mg base 1 "possible_pairs" spPairs []) : GFn P w K mg base 2 f fd ["self"] (spPairsG C) := by
  obtain ⟨oc, od, dV, kV, doc, pm, an, cdv, ct, osl, rfl, lk, hcd⟩ := F.ex
  refine gfn_of (k := 1) lk hcd scB4 (fun vs H Q E h => ?_) (fun A outer s H vs Q E pn hr h => ?_)
  · obtain ⟨a, U, rfl, _⟩ := h
    rfl
  · obtain ⟨a, U, rfl, ⟨dx, rb, db, fm, hs, h1, h2⟩, hn, hd, k⟩ := h
    obtain ⟨pd, Sd⟩ := T.d
    obtain ⟨pm', Sm⟩ := T.m
    obtain ⟨pr, Sr⟩ := T.r
    obtain ⟨ps, Ss⟩ := T.s
    refine ⟨_, gss_cons (gs_yieldFrom (Gy.yf_lst (C8.pe_c C5 hr (by decide) rfl (pa_cons (pe_sl (pv 0)) (pa_cons (pe_sl (pv 0)) (pa_cons (pe_sl (pv 0)) (pa_cons (pe_sl (pv 0)) pa_nil)))))) hr.hd) gss_nil, ?_⟩
    refine ⟨_, rfl, a, C, dx, ps, _, 4, _, rfl, hs, T.c, Ss, rfl, ?_⟩
    refine ⟨_, rfl, a, C, dx, pr, _, 3, _, rfl, hs, T.c, Sr, rfl, ?_⟩
    refine ⟨_, rfl, a, C, dx, pd, _, 0, _, rfl, hs, T.c, Sd, rfl, ?_⟩
    refine ⟨_, rfl, a, C, dx, pm', _, 2, _, rfl, hs, T.c, Sm, rfl, ?_⟩
    refine ⟨U, rb, db, rfl, h1, h2, hn, hd, fun H1 L s1 hL ⟨as, q1, q2⟩ => ⟨L, _, rfl, q1, szl ?_, k H1 as s1 q2⟩⟩
    have e := pre_len U (min U.d1 U.n + 1 - U.d0)
    have e2 : (pairs U).length ≤ min U.d1 U.n + 1 - U.d0 := e
    rw [List.length_map, q2.length]
    show 0 + (pairs U).length ≤ 100000
    omega
/-! ### fullest -/
def spFullest (C : Addr) : Sp := fun vs H Q _ => ∃ (a : Addr) (T : Tl), vs = [.ref a] ∧ SprAt C H a T ∧ T.n ≤ 64 ∧ T.d0 ≤ 1000 ∧ pairs T ≠ [] ∧
  ∀ (H' : Hp) (p : Addr) (R D : Nat), Same H H' → IsFull T R D → H' p = some (.tup [iV R, iV D]) → Q (.ref p) H'
abbrev sFull : Stmt := inClass (topS 15) 11
theorem scB5 : FnScope ["self", "found", "rows", "pair"] ["self"] (C8.fnScope sFull) := C8.fnScope_by (by decide +kernel)
theorem pass_no {P : Program} {w : World} {X : Cx} : Passes (CX P w) X (fun _ _ _ => False) := fun _ _ _ _ _ _ _ ⟨_, _, _, _, _, _, _, _, _, _, _, _, h⟩ => h.elim
theorem ok_fullest {f fg C : Addr} {fd fdg : FuncData} (F : C8.Fun K "fullest" "Spread.fullest" sFull f fd) (T : SpC K mg C) (N : Nm mg) (FG : GFn P w K mg base 2 fg fdg ["self"] (spPairsG C)) (mG : Meth K C "pairs" fg) (bG : Binds K fdg ["self"] []) :
    FnOk P w K mg base CX0 6 f fd ["self"] (spFullest C) := by
  refine C8.fn0 F scB5 (fun vs H Q E h => ?_) (fun cdv A outer s H vs Q E hr h => ?_)
  · obtain ⟨a, U, rfl, _⟩ := h
    rfl
  · obtain ⟨a, U, rfl, hs, hn, hd, hne, k⟩ := h
    refine ⟨_, pss_cons (ps_set (i := 1) scB5.nd rfl (Or.inl rfl) (pe_listG (k := 2) (Gy.pgen_methSl (E := fun _ _ _ => False) (pv 0) T.c mG FG (hr.mono (by decide)) bG) pass_no (fun _ _ _ h => h.elim) hr (by rfl) N.lst (by decide +kernel)))
      (pss_cons (ps_set (i := 2) scB5.nd rfl (Or.inr rfl) (pe_callB (cr_max (by rfl)) (by rfl) N.mx (by decide +kernel) (pa_cons (pe_lc (own := [("pair", 3)]) (g := gName 3) (tt := tYes) (te := tOp (rIxT K) (tVar 3) (tC (.int 2))) (by rfl) scB5.nd (pi_list (pv 1)) (blkOk_by (own := [("pair", 3)]) (N := ["self", "found", "rows", "pair"]) (sc := C8.fnScope sFull) (by decide +kernel)) (fun _ _ _ _ _ => pg_name (i := 3) scB5.nd rfl (Or.inl rfl)) (fun _ _ _ _ _ => pts_nil) (fun _ _ _ _ _ => pe_ix ix_tup (pv 3) pe_int (fun _ _ => rfl))) pa_nil)))
      (pss_one (ps_ret (pe_tup (pa_cons (pv 2) (pa_cons (pe_callB (cr_min (by rfl)) (by rfl) N.mn (by decide +kernel) (pa_cons (pe_lc (own := [("pair", 3)]) (g := gName 3) (tt := tTest (tOp rEq (tOp (rIxT K) (tVar 3) (tC (.int 2))) (tVar 2))) (te := tOp (rIxT K) (tVar 3) (tC (.int 0))) (by rfl) scB5.nd (pi_list (pv 1)) (blkOk_by (own := [("pair", 3)]) (N := ["self", "found", "rows", "pair"]) (sc := C8.fnScope sFull) (by decide +kernel)) (fun _ _ _ _ _ => pg_name (i := 3) scB5.nd rfl (Or.inl rfl)) (fun _ _ _ _ _ => pts_one (pt_cmpR op_eq (pe_ix ix_tup (pv 3) pe_int (fun _ _ => rfl)) (pv 2) (nomark _))) (fun _ _ _ _ _ => pe_ix ix_tup (pv 3) pe_int (fun _ _ => rfl))) pa_nil)) pa_nil)))))), ?_⟩
    obtain ⟨dx, rb, db, fm, hslt, hs2, hs3⟩ := id hs
    refine ⟨_, rfl, a, dx, _, rfl, hslt, a, U, rfl, hs, hn, hd, fun H1 as s1 pr L hL => ?_⟩
    have hz : (pairs U).length ≤ 1100 := by
      have e2 : (pairs U).length ≤ min U.d1 U.n + 1 - U.d0 := pre_len U (min U.d1 U.n + 1 - U.d0)
      omega
    obtain ⟨H2, e2⟩ : ∃ H2, H2 = upd H1 L (.lst (as.map V.ref)) := ⟨_, rfl⟩
    have s12 : Same H1 H2 := by rw [e2]; exact same_new hL
    have hL2 : H2 L = some (.lst (as.map V.ref)) := by rw [e2]; exact upd_same
    have pr2 : Paired (TripAt H2) as (pairs U) := pr.mono fun c q z => s12 _ _ z
    rw [← e2]
    have hlen : (as.map V.ref).length = (pairs U).length := by rw [List.length_map]; exact pr.length
    -- rows
    refine ⟨_, rfl, L, rfl, ⟨_, lstL hL2⟩, fun D hD => lc_list (xs := as.map V.ref) (CI H2 D (fun i ys _ => ys = iVs (((pairs U).take i).map fun q => q.2.2))) (ci0 hD rfl) (fun i H3 _ p => lstL (p.1 _ _ hL2)) ?_ ?_⟩
    · rintro i x H3 hi ⟨s3, ys, hys, hyl, rfl⟩
      have hil : i < 100000 := by have := (List.getElem?_eq_some_iff.mp hi).1; omega
      obtain ⟨c, q, rfl, hq, hc⟩ := trip_get pr2 hi
      refine ⟨rfl, ?_⟩
      refine ⟨_, rfl, c, _, _, _, rfl, rfl, tupT (s3 _ _ hc), atI2, ?_⟩
      refine ci_yes hD hil s3 hys hyl (Same.refl _) ?_
      rw [take_snoc hq, List.map_append]
      exact ivs_app _ [q.2.2]
    rintro H3 ⟨s3, ys, hys, hyl, rfl⟩
    rw [hlen, List.take_length] at hys
    refine ⟨D, ((pairs U).map fun q => q.2.2).map fun n : Nat => (n : Int), rfl, ?_, ?_, fun m hm hle => ?_⟩
    · rw [List.map_map]
      exact lstL hys
    · rw [List.length_map, List.length_map]
      exact List.length_pos_iff.mpr hne
    obtain ⟨R, hR, rfl⟩ := List.mem_map.mp hm
    have hRle : ∀ q, q ∈ pairs U → q.2.2 ≤ R := fun q hq => by
      have := hle _ (List.mem_map.mpr ⟨q.2.2, List.mem_map.mpr ⟨q, hq, rfl⟩, rfl⟩)
      omega
    obtain ⟨q0, hq0, eR⟩ := List.mem_map.mp hR
    -- the fewest different
    refine ⟨_, rfl, _, rfl, L, rfl, ⟨_, lstL (s3 _ _ hL2)⟩, fun D2 hD2 => lc_list (xs := as.map V.ref) (CI H3 D2 (fun i ys _ => ys = iVs ((((pairs U).take i).filter fun q => q.2.2 == R).map fun q => q.1))) (ci0 hD2 rfl) (fun i H4 _ p => lstL (p.1 _ _ (s3 _ _ hL2))) ?_ ?_⟩
    · rintro i x H4 hi ⟨s4, ys, hys4, hyl4, rfl⟩
      have hil : i < 100000 := by have := (List.getElem?_eq_some_iff.mp hi).1; omega
      obtain ⟨c, q, rfl, hq, hc⟩ := trip_get pr2 hi
      have hc4 := s4 _ _ (s3 _ _ hc)
      refine ⟨rfl, ?_⟩
      refine ⟨_, rfl, c, _, _, _, rfl, rfl, tupT hc4, atI2, _, rfl, rfl, _, rfl, ?_⟩
      by_cases e : q.2.2 = R
      · rw [decide_eq_true (show iV q.2.2 = iV R by rw [e])]
        refine iteT ⟨_, rfl, c, _, _, _, rfl, rfl, tupT hc4, atI0, ci_yes hD2 hil s4 hys4 hyl4 (Same.refl _) ?_⟩
        rw [take_snoc hq, List.filter_append, List.map_append]
        have e3 : [q].filter (fun q => q.2.2 == R) = [q] := by simp [e]
        rw [e3]
        exact ivs_app _ [q.1]
      · rw [decide_eq_false (show ¬ iV q.2.2 = iV R from fun z => e (by have := V.int.inj z; omega))]
        refine iteF (ci_no s4 hys4 hyl4 (Same.refl _) ?_)
        rw [take_snoc hq, List.filter_append]
        have e3 : [q].filter (fun q => q.2.2 == R) = [] := by simp [e]
        rw [e3, List.append_nil]
    rintro H4 ⟨s4, ys, hys4, hyl4, rfl⟩
    rw [hlen, List.take_length] at hys4
    refine ⟨D2, (((pairs U).filter fun q => q.2.2 == R).map fun q => q.1).map fun n : Nat => (n : Int), rfl, ?_, ?_, fun m hm hle => ?_⟩
    · rw [List.map_map]
      exact lstL hys4
    · rw [List.length_map, List.length_map]
      exact List.length_pos_iff.mpr (List.ne_nil_of_mem (List.mem_filter.mpr ⟨hq0, by simp [eR]⟩))
    obtain ⟨Dm, hDm, rfl⟩ := List.mem_map.mp hm
    obtain ⟨q1, hq1, rfl⟩ := List.mem_map.mp hDm
    obtain ⟨hq1m, hq1e⟩ := List.mem_filter.mp hq1
    have hq1R : q1.2.2 = R := by simpa using hq1e
    refine ⟨szl (by show 2 ≤ 100000; decide), fun p hp => k _ p R q1.1 (((s1.trans s12).trans (s3.trans s4)).trans (same_new hp)) ⟨⟨q1.2.1, ?_⟩, fun d lo hi hm2 => ⟨hRle _ hm2, fun e => ?_⟩⟩ upd_same⟩
    · rw [← hq1R]
      exact hq1m
    · have := hle _ (List.mem_map.mpr ⟨d, List.mem_map.mpr ⟨(d, lo, hi), List.mem_filter.mpr ⟨hm2, by simp [e]⟩, rfl⟩, rfl⟩)
      omega
end
end Wk
end
section
set_option Elab.async false
set_option linter.all false
set_option autoImplicit false
set_option maxRecDepth 100000
set_option maxHeartbeats 4000000
/-! tuple * k for every k, tuple + tuple, t[::-1]. -/
namespace Sm
open PySem PySem.Spec PyProof.Rows L2
theorem tuple_mul0 (l : Addr) (items : Array Value) (n : Nat) (dd : Option Addr) (sl : Array (Option Value)) (u : Tok) (c1 : items.isEmpty = false) :
    Meets (Builtin.«tuple.__mul__» ⟨[.ref l, .int 0 u], []⟩) (fun _ R s => s.heap.get? l = some { cls := .type "tuple", dict := dd, data := .seq items n, slots := sl } ∧
      R (.ok (.ret (Value.ref s.heap.objs.size))) { s with heap := s.heap.push { cls := Value.type "tuple", data := Data.seq #[] } }) :=
  .of_wp fun prog w A R s h => by
    obtain ⟨hp, g, d, tk, os⟩ := s
    obtain ⟨hl, h⟩ := h
    have f1 := AutoSeq1.idx_int
    wp_walk using wpAny_loadPart' hl
    repeat (first
      | (refine wpAny_ite_false (decide_eq_false (by rw [c1]; decide)) ?_; wp_walk using wpAny_loadPart' hl)
      | (refine wpAny_ite_true (by first | rfl | decide) ?_; wp_walk using wpAny_loadPart' hl))
    exact ⟨_, rfl, h⟩
theorem tuple_mul1 (l : Addr) (items : Array Value) (n : Nat) (dd : Option Addr) (sl : Array (Option Value)) (u : Tok) :
    Meets (Builtin.«tuple.__mul__» ⟨[.ref l, .int 1 u], []⟩) (fun _ R s => s.heap.get? l = some { cls := .type "tuple", dict := dd, data := .seq items n, slots := sl } ∧
      R (.ok (.ret (Value.ref l))) s) :=
  .of_wp fun prog w A R s h => by
    obtain ⟨hp, g, d, tk, os⟩ := s
    obtain ⟨hl, h⟩ := h
    have f1 := AutoSeq1.idx_int
    wp_walk using wpAny_loadPart' hl
    repeat (first
      | (refine wpAny_ite_true (by first | rfl | (rw [Bool.or_true]) | decide | simp) ?_; wp_walk using wpAny_loadPart' hl))
    exact ⟨_, rfl, h⟩

section
variable {X : Cx}
theorem toSame {H : Hp} {p : Addr} {o : HO} (h : H p = none) : Same H (upd H p o) := fun a u ha => by
  rw [upd_ne (ne_of_none ha h)]
  exact ha
/-- t * k, k not negative -/
def rRepA (K : PySem.W.Frag) : R2 := fun x y H Q => ∃ (l : Addr) (k : Nat) (xs : List V), x = .ref l ∧ y = .int (k : Int) ∧ SqT K H l xs ∧ xs ≠ [] ∧ k ≤ 1000 ∧ xs.length ≤ 1000 ∧
  ∀ p H', Same H H' → SqT K H' p (List.replicate k xs).flatten → Q (.ref p) H'
theorem op_repA : OpR X (binaryOp .Mult) (rRepA X.K) := by
  intro pins s σ H x y v u Q I rx ry h
  obtain ⟨l, k, xs, rfl, rfl, hT, hne, h2, hz, q⟩ := h
  by_cases hk : 2 ≤ k
  · refine op_repT pins s σ H _ _ v u Q I rx ry ⟨l, (k : Int), xs, rfl, rfl, hT, hne, by omega, by omega, hz, fun p hp => q p _ (toSame hp) ?_⟩
    rw [Int.toNat_natCast]
    exact .inl (.inl upd_same)
  cases rx
  obtain ⟨t, rfl⟩ := ry
  obtain ⟨its, r, ⟨⟨cls, dd, data, sl⟩, ho, hc, n, hd⟩, hs⟩ := I.tuple hT
  simp only at hc hd
  subst hc hd
  have hle : its.length = xs.length := r.length.symm
  have hn : its ≠ [] := fun e => hne (by
    rw [e] at hle
    exact List.eq_nil_of_length_eq_zero hle.symm)
  have hi : its.toArray.isEmpty = false := by
    cases its with
    | nil => exact absurd rfl hn
    | cons a b => rfl
  by_cases h1 : k = 1
  · subst h1
    refine wpAny_binaryOp_repeat_ref (T := "tuple") (U := "int") (by decide) ⟨_, ho, rfl⟩ (fun s' => typeIs_int s' 1 t) noFill_tuple_mul F.fills_int_mul F.slot_int_rmul repeat_tuple F.slot_int_index.lookup
      (call_meets F.slot_int_rmul (typeIs_int s 1 t) F.entry_int_rmul (F.args_int_rmul_2 _ _) (int_rmul_tuple 1 t l its.toArray n dd sl)
        ⟨ho, rfl, ⟨_, ho, rfl⟩, call_meets F.slot_tuple_mul ⟨_, ho, rfl⟩ F.entry_tuple_mul (F.args_tuple_mul_2 _ _) (tuple_mul1 l its.toArray n dd sl t) ⟨ho, ?_⟩⟩)
    refine ⟨.ref l, H, I, rfl, q l H (Same.refl H) ?_⟩
    have e : (List.replicate 1 xs).flatten = xs := by simp
    rw [e]
    exact hT
  · have h0 : k = 0 := by omega
    subst h0
    refine wpAny_binaryOp_repeat_ref (T := "tuple") (U := "int") (by decide) ⟨_, ho, rfl⟩ (fun s' => typeIs_int s' 0 t) noFill_tuple_mul F.fills_int_mul F.slot_int_rmul repeat_tuple F.slot_int_index.lookup
      (call_meets F.slot_int_rmul (typeIs_int s 0 t) F.entry_int_rmul (F.args_int_rmul_2 _ _) (int_rmul_tuple 0 t l its.toArray n dd sl)
        ⟨ho, rfl, ⟨_, ho, rfl⟩, call_meets F.slot_tuple_mul ⟨_, ho, rfl⟩ F.entry_tuple_mul (F.args_tuple_mul_2 _ _) (tuple_mul0 l its.toArray n dd sl t hi) ⟨ho, ?_⟩⟩)
    have hf : H s.heap.objs.size = none := I.hok.fresh (Nat.le_refl _)
    refine ⟨.ref s.heap.objs.size, _, I.laid (t' := s.toks) (o := .tup []) (fun b ob z => Heap.get?_push_of_some _ z) (Nat.le_refl _) ?_, rfl, q _ _ (toSame hf) (.inl (.inl upd_same))⟩
    exact ⟨Nat.zero_le _, [], .nil, IsTup.new _ _⟩
/-- t + u, some tuple that holds both -/
def rCatS (K : PySem.W.Frag) : R2 := fun x y H Q => ∃ a b xs ys, x = .ref a ∧ y = .ref b ∧ SqT K H a xs ∧ SqT K H b ys ∧ xs.length + ys.length ≤ sizeLine ∧ ∀ p H', Same H H' → SqT K H' p (xs ++ ys) → Q (.ref p) H'
theorem op_catS : OpR X (binaryOp .Add) (rCatS X.K) := by
  intro pins s σ H x y v u Q I rx ry h
  obtain ⟨a, b, xs, ys, rfl, rfl, ha, hb, hz, q⟩ := h
  refine op_catA pins s σ H _ _ v u Q I rx ry ⟨a, b, xs, ys, rfl, rfl, ha, hb, hz, fun e => q b H (Same.refl H) ?_, fun _ e => q a H (Same.refl H) ?_, fun _ _ p hp => q p _ (toSame hp) (.inl (.inl upd_same))⟩
  · rw [e]
    exact hb
  · rw [e, List.append_nil]
    exact ha
end
section
open HT
variable {prog : Program} {w : World} {A : Around} {E : Value → Shared → Prop} {s : Shared}
theorem adjust_rev (n : Nat) : Builtin.Slice.sliceAdjust none none (-1) (n : Int) = ((n : Int) - 1, -1) := by
  unfold Builtin.Slice.sliceAdjust
  rfl
theorem places_rev (n : Nat) : Builtin.Slice.slicePlaces ((n : Int) - 1) (-1) (-1) = n := by
  unfold Builtin.Slice.slicePlaces
  have h1 : ¬ ((-1 : Int) > 0) := by omega
  simp only [h1, if_false]
  split
  · rw [show (- -1 : Int) = 1 by decide, Int.ediv_one]
    omega
  · omega
theorem pick_rev (xs : Array Value) : ((List.range xs.size).filterMap fun (k : Nat) => xs[(((xs.size : Nat) : Int) - 1 + (k : Int) * (-1)).toNat]?).toArray = xs.toList.reverse.toArray := by
  have e1 : (fun (k : Nat) => xs[(((xs.size : Nat) : Int) - 1 + (k : Int) * (-1)).toNat]?) = (fun j : Nat => xs[j]?) ∘ (fun k => xs.size - 1 - k) := by
    funext k
    show xs[(((xs.size : Nat) : Int) - 1 + (k : Int) * (-1)).toNat]? = xs[xs.size - 1 - k]?
    congr 1
    omega
  rw [e1, ← List.filterMap_map, PySem.W.krv_range, List.filterMap_reverse, PySem.W.krv_all]
theorem sliceApplied_rev {sl : Addr} {vs : Value} {n : Nat} {Q : Int × Int × Nat → Shared → Prop} (hs : s.heap.IsSliceOf sl .none .none vs) (ps : IsPart vs (some (-1)))
    (h : Q ((n : Int) - 1, -1, n) s) : wpAny (model prog w) A (Builtin.Slice.sliceApplied (.ref sl) (pure (n : Int))) Q E s := by
  obtain ⟨os, hos, hcs, hds⟩ := id hs
  unfold Builtin.Slice.sliceApplied Builtin.Slice.sliceFields
  refine wpAny_bind (wpAny_bind (wpAny_field hos hds (x := .none) rfl (wpAny_bind (wpAny_field hos hds (x := .none) rfl (wpAny_bind (wpAny_field hos hds (x := vs) rfl (wpAny_pure ?_)))))))
  refine wpAny_bind (slicePart_ ps ?_)
  show wpAny _ _ (if ((-1 : Int) == 0) = true then _ else _) _ _ s
  rw [if_neg (by decide)]
  refine wpAny_bind (slicePart_none (wpAny_bind (slicePart_none (wpAny_bind (wpAny_pure ?_)))))
  show wpAny _ _ (match Builtin.Slice.sliceAdjust none none (-1) (n : Int) with | (lo, hi) => pure (lo, (-1 : Int), Builtin.Slice.slicePlaces lo hi (-1))) _ _ s
  rw [adjust_rev n]
  show wpAny _ _ (pure (((n : Int) - 1), (-1 : Int), Builtin.Slice.slicePlaces ((n : Int) - 1) (-1) (-1))) _ _ s
  rw [places_rev]
  exact wpAny_pure h
theorem getItem_tuple_rev {t sl : Addr} {items : Array Value} {vs : Value} {Q : Value → Shared → Prop} (ht : IsTup s.heap t items) (hs : s.heap.IsSliceOf sl .none .none vs) (ps : IsPart vs (some (-1)))
    (h : Q (.ref s.heap.objs.size) { s with heap := s.heap.push { cls := .type "tuple", data := .seq items.toList.reverse.toArray } }) (hsz : items.size ≤ sizeLine) : wpAny (model prog w) A (getItem (.ref t) (.ref sl)) Q E s := by
  have htake : sizeOk (.seq items.toList.reverse.toArray) := by
    show items.toList.reverse.toArray.size ≤ sizeLine
    rw [List.size_toArray, List.length_reverse, Array.length_toList]
    exact hsz
  obtain ⟨os, hos, hcs, hds⟩ := id hs
  have hTs : s.TypeIs (.ref sl) "slice" := ⟨os, hos, hcs⟩
  unfold getItem
  try with_reducible refine wpAny_holding ?_
  first | refine wpAny_bind (wpAny_pure ?_) | skip
  refine wpAny_bind (wpAny_sequenceKey ht.typeIs (by decide) ?_)
  refine wpAny_bind (wpAny_callSpecial?_slot (name := Str.ofString "__getitem__") ht.typeIs PyProof.Rows.slot_tuple_getitem
    (wpAny_call_entry PyProof.Rows.slot_tuple_getitem ht.typeIs entry_tuple_getitem ?_ (args_tuple_getitem _ _)))
  show wpAny _ _ (Builtin.Tuple.tupleItemsOf (.ref t) >>= _) _ _ s
  refine wpAny_bind (tupleItemsOf_ ht ?_)
  refine wpAny_bind (wpAny_typeOf hTs ?_)
  rw [if_pos (by decide)]
  refine wpAny_bind (sliceApplied_rev hs ps ?_)
  have hno : ¬ (((((items.size : Nat) : Int) - 1) == 0 && (-1 : Int) == 1 && items.size == items.size) = true) := by
    intro q
    rw [Bool.and_eq_true, Bool.and_eq_true] at q
    exact absurd q.1.2 (by decide)
  show wpAny _ _ (if ((((items.size : Nat) : Int) - 1) == 0 && (-1 : Int) == 1 && items.size == items.size) = true then _ else _) _ _ s
  rw [if_neg hno, pick_rev]
  first
    | exact wpAny_bind (m := Builtin.Tuple.tupleExact _) (wpAny_newObj_type (wpAny_pure ⟨_, rfl, wpAny_pure h⟩) htake)
    | exact wpAny_bind (m := Builtin.Tuple.tupleExact _) (wpAny_newObj_type (wpAny_bind (wpAny_pure (wpAny_pure ⟨_, rfl, wpAny_pure h⟩))) htake)
    | exact wpAny_bind (wpAny_bind (m := Builtin.Tuple.tupleExact _) (wpAny_newObj_type (wpAny_pure (wpAny_pure ⟨_, rfl, wpAny_pure h⟩)) htake))
    | exact wpAny_bind (wpAny_bind (m := Builtin.Tuple.tupleExact _) (wpAny_newObj_type (wpAny_pure ⟨_, rfl, wpAny_pure h⟩) htake))
end
section
variable {X : Cx}
/-- t[::-1] -/
def tRevT (K : PySem.W.Frag) (te : TE) : TE := fun σ H Q => te σ H fun x H1 => ∃ a xs, x = .ref a ∧ SqT K H1 a xs ∧ ∀ p, H1 p = none → Q (.ref p) (upd H1 p (.tup xs.reverse))
theorem pe_revT {e : Expr} {te : TE} {k : Nat} {p1 p2 p3 pos : Pos} (he : PE X e te) : PE X (.Subscript e (.Slice none none (some (.UnaryOp .USub (.Constant (.int 1) k p1) p2)) p3) pos) (tRevT X.K te) := by
  refine ⟨fun pins s σ H Q I h => ?_⟩
  refine Subscript_ (thn (he.run pins s σ H _ I h) fun v s1 ⟨x, H1, I1, r1, q1⟩ => ?_)
  obtain ⟨a, xs, ex, hx, q⟩ := q1
  subst ex
  cases r1
  have hst : PO X (some (.UnaryOp .USub (.Constant (.int 1) k p1) p2)) (tPart (tUn (rU fun i => .int (-i)) (tC (.int 1)))) := po_some (pe_un un_neg pe_int)
  refine wpAny_Slice (thn (po_none.run pins s1 σ H1 (fun o H2 => o = none ∧ H2 = H1) I1 ⟨rfl, rfl⟩) fun vl s2 ⟨l, H2, I2, pl, el, e2⟩ => ?_)
  subst el e2
  refine thn (po_none.run pins s2 σ H2 (fun o H3 => o = none ∧ H3 = H2) I2 ⟨rfl, rfl⟩) fun vu s3 ⟨u, H3, I3, pu, eu, e3⟩ => ?_
  subst eu e3
  refine thn (hst.run pins s3 σ H3 (fun o H4 => o = some (-1) ∧ H4 = H3) I3 ⟨1, rfl, -1, rfl, rfl, rfl⟩) fun vs s4 ⟨o, H4, I4, ps, eo, e4⟩ => ?_
  subst eo e4
  have I5 : Inv X pins σ H4 { s4 with heap := s4.heap.push { cls := .type "slice", data := .fields #[vl, vu, vs] } } := I4.kept (t' := s4.toks) fun b ob q => Heap.get?_push_of_some _ q
  obtain ⟨its, r, ht, hz⟩ := I5.tuple hx
  have hlen := r.length
  have el : vl = .none := by
    cases pl
    rfl
  have eu : vu = .none := by
    cases pu
    rfl
  subst el eu
  show wpAny (model X.prog X.w) X.A (subscriptTail e (.Slice none none (some (.UnaryOp .USub (.Constant (.int 1) k p1) p2)) p3) (.ref a) (.ref s4.heap.objs.size)) (EP X pins σ Q) X.xe { s4 with heap := s4.heap.push { cls := .type "slice", data := .fields #[.none, .none, vs] } }
  refine tail_any (ops := [.ref a, .ref s4.heap.objs.size]) ht.typeIs (PyProof.Rows.slot_tuple_getitem.lookup) ?_ (by with_unfolding_all rfl)
  refine getItem_tuple_rev ht (Heap.IsSliceOf.new _ .none .none vs) ps ?_ (by rw [List.size_toArray]; omega)
  refine ⟨.ref _, _, I5.laid (t' := s4.toks) (o := .tup xs.reverse) (fun b ob q => Heap.get?_push_of_some _ q) (Nat.le_refl _) ?_, rfl, q _ (I5.hok.fresh (Nat.le_refl _))⟩
  exact ⟨by rw [List.length_reverse]; exact hz, _, r.reverse, IsTup.new _ _⟩
end
end Sm
end
section
set_option Elab.async false
set_option linter.all false
set_option autoImplicit false
set_option maxRecDepth 100000
set_option maxHeartbeats 2000000
/-! The walk: steepest, forced, apart. -/
namespace Wk
open PySem L2 K46 SlX GenW
theorem zeros_rep (k : Nat) : (List.replicate k [V.int 0]).flatten = iVs (zeros k) := by
  unfold zeros
  induction k with
  | zero => rfl
  | succ n ih =>
    rw [List.replicate_succ, List.flatten_cons, ih, List.replicate_succ]
    rfl
def spSteepest (K : PySem.W.Frag) (C : Addr) : Sp := fun vs H Q _ => ∃ (a : Addr) (T : Tl), vs = [.ref a] ∧ SprAt C H a T ∧ T.n ≤ 64 ∧ T.d0 ≤ 1000 ∧ pairs T ≠ [] ∧ Pos T ∧
  ∀ (H' : Hp) (p : Addr) (R D : Nat), Same H H' → IsFull T R D → SqT K H' p (iVs (steepest T R D)) → Q (.ref p) H'
def spForced : Sp := fun vs H Q _ => ∃ (r f : Nat) (m : Option Nat) (c : Nat), vs = [iV r, iV f, mV m, iV c] ∧ f ≤ 1000 ∧ Q (iV (forced r f m c)) H
def spApart (K : PySem.W.Frag) : Sp := fun vs H Q _ => ∃ (n r1 d1 r2 d2 : Nat) (m1 m2 : Option Nat) (a b c : Addr), vs = [iV n, .ref a, .ref b, .ref c] ∧ H a = some (.tup [iV r1, iV d1]) ∧ H b = some (.tup [iV r2, iV d2]) ∧ H c = some (.tup [mV m1, mV m2]) ∧
  d1 ≤ n ∧ d2 ≤ n ∧ d1 ≤ r1 ∧ d2 ≤ r2 ∧ n ≤ 64 ∧ (∀ k, m1 = some k → 1 ≤ k) ∧ (∀ k, m2 = some k → 1 ≤ k) ∧
  ∀ (H' : Hp) (p u v : Addr), Same H H' → H' p = some (.tup [.ref u, .ref v]) → SqT K H' u (iVs (apart n r1 d1 r2 d2 m1 m2).1) → SqT K H' v (iVs (apart n r1 d1 r2 d2 m1 m2).2) → Q (.ref p) H'
theorem forced_ok {r f sh : Nat} {m : Option Nat} (h : sh + f ≤ r) (hm : ∀ k, m = some k → 1 ≤ k) : sh ≤ forced r f m sh ∧ forced r f m sh ≤ r ∧ f ≤ r - forced r f m sh := by
  unfold forced
  cases m with
  | none =>
    show sh ≤ (if f > 0 then sh else r) ∧ (if f > 0 then sh else r) ≤ r ∧ f ≤ r - (if f > 0 then sh else r)
    split <;> omega
  | some k =>
    have hk := hm k rfl
    have h1 : f ≤ f * k := Nat.le_mul_of_pos_right f hk
    show sh ≤ max sh (r - f * k) ∧ max sh (r - f * k) ≤ r ∧ f ≤ r - max sh (r - f * k)
    omega
section
variable {P : Program} {w : World} {K : PySem.W.Frag} {mg : Str → Option Value} {base : Heap}
abbrev sSteepM : Stmt := inClass (topS 15) 13
theorem scB6 : FnScope ["self", "rows", "different"] ["self"] (C8.fnScope sSteepM) := C8.fnScope_by (by decide +kernel)
theorem ok_steepest {f fg C : Addr} {fd fdg : FuncData} (F : C8.Fun K "steepest" "Spread.steepest" sSteepM f fd) (T : SpC K mg C) (FG : FnOk P w K mg base CX0 6 fg fdg ["self"] (spFullest C)) (mG : Meth K C "fullest" fg) (bG : Binds K fdg ["self"] [])
    (CS : Cl0 P w K mg base 1 "steep_in" spSteep []) : FnOk P w K mg base CX0 7 f fd ["self"] (spSteepest K C) := by
  refine C8.fn0 F scB6 (fun vs H Q E h => ?_) (fun cdv A outer s H vs Q E hr h => ?_)
  · obtain ⟨a, U, rfl, _⟩ := h
    rfl
  · obtain ⟨a, U, rfl, hs, hn, hd, hne, hp, k⟩ := h
    obtain ⟨pm, SM⟩ := T.m
    obtain ⟨ps, Ss⟩ := T.s
    refine ⟨_, pss_cons (ps_asg (pe_methSl0 (pv 0) T.c mG (fnr_of FG bG) hr pass0) (pg_tup (by rfl) (pgs_cons (pg_name (i := 1) scB6.nd rfl (Or.inl rfl)) (pgs_cons (pg_name (i := 2) scB6.nd rfl (Or.inl rfl)) pgs_nil))))
      (pss_one (ps_ret (pe_op Sm.op_catS (C8.pe_c CS hr (by decide) rfl (pa_cons (pv 1) (pa_cons (pv 2) (pa_cons (pe_sl (pv 0)) pa_nil)))) (pe_op Sm.op_repA (pe_tup (pa_cons pe_int pa_nil)) (pe_op op_sub (pe_sl (pv 0)) (pv 2)))))), ?_⟩
    obtain ⟨dx, rb, db, fm, hslt, hs2, hs3⟩ := id hs
    refine ⟨_, rfl, a, dx, _, rfl, hslt, a, U, rfl, hs, hn, hd, hne, fun H1 p R D s1 hf hp1 => ?_⟩
    obtain ⟨q1, q2, q3, q4, q5, q6, q7, q8⟩ := full_facts hp hf
    have hsl1 := slt_same s1 hslt
    refine ⟨p, _, rfl, tupT hp1, rfl, _, _, rfl, _, _, rfl, rfl, ?_⟩
    refine ⟨_, rfl, _, rfl, _, rfl, a, C, dx, pm, _, 2, _, rfl, hsl1, T.c, SM, rfl, ?_⟩
    refine ⟨R, D, U.most, rfl, q6, by omega, hp, fun H2 p2 s2 hp2 => ?_⟩
    refine ⟨szl (by show 1 ≤ 100000; decide), fun z hz => ?_⟩
    have s3 : Same H2 (upd H2 z (.tup [.int 0])) := same_new hz
    refine ⟨_, rfl, a, C, dx, ps, _, 4, _, rfl, slt_same (s2.trans s3) hsl1, T.c, Ss, rfl, _, rfl, _, _, rfl, rfl, ?_⟩
    refine ⟨z, U.n - D, [.int 0], rfl, ?_, tupT upd_same, (by simp), by omega, (by show 1 ≤ 1000; decide), fun p3 H3 s4 hp3 => ?_⟩
    · show V.int ((U.n : Int) - (D : Int)) = _
      rw [show (U.n : Int) - (D : Int) = ((U.n - D : Nat) : Int) by omega]
    rw [zeros_rep] at hp3
    refine ⟨p2, p3, _, _, rfl, rfl, tupT (s4 _ _ (s3 _ _ hp2)), hp3, szl ?_, fun p4 H4 s5 hp4 => k H4 p4 R D (((s1.trans s2).trans (s3.trans s4)).trans s5) hf ?_⟩
    · rw [List.length_map, List.length_map, steep, steepGo_length, zeros, List.length_replicate]
      omega
    · rw [ivs_app] at hp4
      exact hp4
abbrev sForced : Stmt := topS 20
theorem scA7 : FnScope ["rows", "free", "most", "common"] ["rows", "free", "most", "common"] (C8.fnScope sForced) := C8.fnScope_by (by decide +kernel)
theorem ok_forced {f : Addr} {fd : FuncData} (F : C8.Def K mg "forced" sForced f fd) (b : Binds K fd ["rows", "free", "most", "common"] []) (N : Nm mg) : Cl0 P w K mg base 1 "forced" spForced [] := by
  refine C8.cal0 F b .nil scA7 (fun vs H Q E h => ?_) (fun cdv A outer s H vs Q E hr h => ?_)
  · obtain ⟨r, f, m, c, rfl, _⟩ := h
    rfl
  · obtain ⟨r, f, m, c, rfl, hf, k⟩ := h
    refine ⟨_, pss_cons (ps_if (pt_cmpR op_isN (pv 2) pe_non (nomark _)) (pss_one (ps_ret (pe_ifExp (pt_cmpR op_gt (pv 1) pe_int (nomark _)) (pv 3) (pv 0)))) pss_nil)
      (pss_one (ps_ret (pe_callB (call_max2 (by rfl)) (by rfl) N.mx (by decide +kernel) (pa_cons (pv 3) (pa_cons (pe_op op_sub (pv 0) (pe_op op_mul (pv 1) (pv 2))) pa_nil))))), ?_⟩
    cases m with
    | none =>
      refine ⟨_, rfl, rfl, _, rfl, iteT ⟨_, rfl, _, _, rfl, rfl, _, rfl, ite2 (fun hc => ⟨_, rfl, ?_⟩) fun hc => ⟨_, rfl, ?_⟩⟩⟩
      · have h1 : forced r f none c = c := if_pos (by have := of_decide_eq_true hc; omega)
        rw [h1] at k
        exact k
      · have h1 : forced r f none c = r := if_neg (fun z => hc (decide_eq_true (by omega)))
        rw [h1] at k
        exact k
    | some m =>
      refine ⟨_, rfl, rfl, _, rfl, iteF ⟨_, rfl, _, rfl, _, rfl, _, rfl, _, _, rfl, rfl, .inl ⟨by omega, by omega⟩, _, _, rfl, rfl, _, _, rfl, ?_⟩⟩
      have e : (if (r : Int) - (f : Int) * (m : Int) > (c : Int) then (r : Int) - (f : Int) * (m : Int) else (c : Int)) = ((forced r f (some m) c : Nat) : Int) := by
        show _ = ((max c (r - f * m) : Nat) : Int)
        have : ((f * m : Nat) : Int) = (f : Int) * (m : Int) := Int.natCast_mul _ _
        rw [← this]
        split <;> omega
      show Q (.int (if (r : Int) - (f : Int) * (m : Int) > (c : Int) then (r : Int) - (f : Int) * (m : Int) else (c : Int))) H
      rw [e]
      exact k
end
end Wk
end
section
set_option Elab.async false
set_option linter.all false
set_option autoImplicit false
set_option maxRecDepth 100000
set_option maxHeartbeats 2000000
/-! The walk: apart. -/
namespace Wk
open PySem L2 K46 SlX GenW
section
variable {P : Program} {w : World} {K : PySem.W.Frag} {mg : Str → Option Value} {base : Heap}
abbrev sApart : Stmt := topS 21
theorem scA8 : FnScope ["size", "one", "other", "mosts", "shared", "first", "second", "free", "more", "rows", "others"] ["size", "one", "other", "mosts"] (C8.fnScope sApart) := C8.fnScope_by (by decide +kernel)
theorem steep_len (r d : Nat) (m : Option Nat) : (iVs (steep r d m)).length = d := by rw [List.length_map, steep, steepGo_length]
theorem zeros_len (k : Nat) : (iVs (zeros k)).length = k := by rw [List.length_map, zeros, List.length_replicate]
theorem ok_apart {f : Addr} {fd : FuncData} (F : C8.Def K mg "apart" sApart f fd) (b : Binds K fd ["size", "one", "other", "mosts"] []) (N : Nm mg) (CS : Cl0 P w K mg base 1 "steep_in" spSteep []) (CF : Cl0 P w K mg base 1 "forced" spForced []) : Cl0 P w K mg base 2 "apart" (spApart K) [] := by
  refine C8.cal0 F b .nil scA8 (fun vs H Q E h => ?_) (fun cdv A outer s H vs Q E hr h => ?_)
  · obtain ⟨n, r1, d1, r2, d2, m1, m2, a, b, c, rfl, _⟩ := h
    rfl
  · obtain ⟨n, r1, d1, r2, d2, m1, m2, a, b, c, rfl, ha, hb, hc, e1, e2, e3, e4, en, p1, p2, k⟩ := h
    refine ⟨_, pss_cons (ps_set (i := 4) scA8.nd rfl (Or.inl rfl) (pe_callB (call_max2 (by rfl)) (by rfl) N.mx (by decide +kernel) (pa_cons pe_int (pa_cons (pe_op op_sub (pe_op op_add (pe_ix ix_tup (pv 1) pe_int (fun _ _ => rfl)) (pe_ix ix_tup (pv 2) pe_int (fun _ _ => rfl))) (pv 0)) pa_nil))))
      (pss_cons (ps_if (pt_cmpR op_eq (pv 4) pe_int (nomark _))
        (pss_cons (ps_set (i := 5) scA8.nd rfl (Or.inl rfl) (C8.pe_c CS hr (by decide) rfl (pa_cons (pe_ix ix_tup (pv 1) pe_int (fun _ _ => rfl)) (pa_cons (pe_ix ix_tup (pv 1) pe_int (fun _ _ => rfl)) (pa_cons (pe_ix ix_tup (pv 3) pe_int (fun _ _ => rfl)) pa_nil)))))
        (pss_cons (ps_set (i := 6) scA8.nd rfl (Or.inl rfl) (C8.pe_c CS hr (by decide) rfl (pa_cons (pe_ix ix_tup (pv 2) pe_int (fun _ _ => rfl)) (pa_cons (pe_ix ix_tup (pv 2) pe_int (fun _ _ => rfl)) (pa_cons (pe_ix ix_tup (pv 3) pe_int (fun _ _ => rfl)) pa_nil)))))
        (pss_one (ps_ret (pe_tup (pa_cons (pe_op Sm.op_catS (pv 5) (pe_op Sm.op_repA (pe_tup (pa_cons pe_int pa_nil)) (pe_op op_sub (pv 0) (pe_ix ix_tup (pv 1) pe_int (fun _ _ => rfl))))) (pa_cons (pe_op Sm.op_catS (pe_op Sm.op_repA (pe_tup (pa_cons pe_int pa_nil)) (pe_op op_sub (pv 0) (pe_ix ix_tup (pv 2) pe_int (fun _ _ => rfl)))) (pv 6)) pa_nil)))))))
        pss_nil)
      (pss_cons (ps_par (i := 7) (j := 8) (by rfl) scA8.nd rfl rfl (by decide) rfl rfl (pa_cons (pe_op op_sub (pv 0) (pe_ix ix_tup (pv 2) pe_int (fun _ _ => rfl))) (pa_cons (pe_op op_sub (pv 0) (pe_ix ix_tup (pv 1) pe_int (fun _ _ => rfl))) pa_nil)) (by rfl))
      (pss_cons (ps_set (i := 9) scA8.nd rfl (Or.inl rfl) (C8.pe_c CF hr (by decide) rfl (pa_cons (pe_ix ix_tup (pv 1) pe_int (fun _ _ => rfl)) (pa_cons (pv 7) (pa_cons (pe_ix ix_tup (pv 3) pe_int (fun _ _ => rfl)) (pa_cons (pv 4) pa_nil))))))
      (pss_cons (ps_set (i := 10) scA8.nd rfl (Or.inl rfl) (C8.pe_c CF hr (by decide) rfl (pa_cons (pe_ix ix_tup (pv 2) pe_int (fun _ _ => rfl)) (pa_cons (pv 8) (pa_cons (pe_ix ix_tup (pv 3) pe_int (fun _ _ => rfl)) (pa_cons (pv 4) pa_nil))))))
      (pss_cons (ps_set (i := 5) scA8.nd rfl (Or.inl rfl) (pe_op Sm.op_catS (pe_op Sm.op_catS (C8.pe_c CS hr (by decide) rfl (pa_cons (pv 9) (pa_cons (pv 4) (pa_cons (pe_ix ix_tup (pv 3) pe_int (fun _ _ => rfl)) pa_nil))))
        (C8.pe_c CS hr (by decide) rfl (pa_cons (pe_op op_sub (pe_ix ix_tup (pv 1) pe_int (fun _ _ => rfl)) (pv 9)) (pa_cons (pv 7) (pa_cons (pe_ix ix_tup (pv 3) pe_int (fun _ _ => rfl)) pa_nil))))) (pe_op Sm.op_repA (pe_tup (pa_cons pe_int pa_nil)) (pv 8))))
      (pss_cons (ps_set (i := 6) scA8.nd rfl (Or.inl rfl) (pe_op Sm.op_catS (pe_op Sm.op_catS (Sm.pe_revT (C8.pe_c CS hr (by decide) rfl (pa_cons (pv 10) (pa_cons (pv 4) (pa_cons (pe_ix ix_tup (pv 3) pe_int (fun _ _ => rfl)) pa_nil)))))
        (pe_op Sm.op_repA (pe_tup (pa_cons pe_int pa_nil)) (pv 7))) (C8.pe_c CS hr (by decide) rfl (pa_cons (pe_op op_sub (pe_ix ix_tup (pv 2) pe_int (fun _ _ => rfl)) (pv 10)) (pa_cons (pv 8) (pa_cons (pe_ix ix_tup (pv 3) pe_int (fun _ _ => rfl)) pa_nil))))))
      (pss_one (ps_ret (pe_tup (pa_cons (pv 5) (pa_cons (pv 6) pa_nil))))))))))), ?_⟩
    have ta : ∀ {H' : Hp}, Same H H' → SqT K H' a [iV r1, iV d1] := fun s => tupT (s _ _ ha)
    have tb : ∀ {H' : Hp}, Same H H' → SqT K H' b [iV r2, iV d2] := fun s => tupT (s _ _ hb)
    have tc : ∀ {H' : Hp}, Same H H' → SqT K H' c [mV m1, mV m2] := fun s => tupT (s _ _ hc)
    have s0 := Same.refl H
    refine ⟨_, rfl, _, _, _, _, rfl, rfl, ta s0, atI1, _, rfl, _, _, _, _, rfl, rfl, tb s0, atI1, _, _, rfl, rfl, _, rfl, _, _, rfl, rfl, _, _, rfl, ?_⟩
    obtain ⟨sh, esh⟩ : ∃ sh, sh = d1 + d2 - n := ⟨_, rfl⟩
    have e : (if (d1 : Int) + (d2 : Int) - (n : Int) > (0 : Int) then (d1 : Int) + (d2 : Int) - (n : Int) else (0 : Int)) = (sh : Int) := by split <;> omega
    show tSeq _ _ _ [some (iV n), some (.ref a), some (.ref b), some (.ref c), some (.int (if (d1 : Int) + (d2 : Int) - (n : Int) > (0 : Int) then (d1 : Int) + (d2 : Int) - (n : Int) else (0 : Int))), none, none, none, none, none, none] H
    rw [e]
    refine ⟨_, rfl, rfl, _, rfl, ite2 (fun hc0 => ?_) fun hc0 => ?_⟩
    · have z0 : d1 + d2 - n = 0 := by have := V.int.inj (of_decide_eq_true hc0); omega
      unfold K46.apart at k
      rw [if_pos z0] at k
      refine ⟨_, rfl, a, _, _, _, rfl, rfl, ta s0, atI0, _, rfl, a, _, _, _, rfl, rfl, ta s0, atI1, _, rfl, c, _, _, _, rfl, rfl, tc s0, atI0, ?_⟩
      refine ⟨r1, d1, m1, rfl, e3, by omega, p1, fun H1 u s1 hu => ?_⟩
      refine ⟨_, rfl, b, _, _, _, rfl, rfl, tb s1, atI0, _, rfl, b, _, _, _, rfl, rfl, tb s1, atI1, _, rfl, c, _, _, _, rfl, rfl, tc s1, atI1, ?_⟩
      refine ⟨r2, d2, m2, rfl, e4, by omega, p2, fun H2 v s2 hv => ?_⟩
      have s12 := s1.trans s2
      refine ⟨_, rfl, szl (by show 1 ≤ 100000; decide), fun z hz => ?_⟩
      have s3 : Same H2 (upd H2 z (.tup [.int 0])) := same_new hz
      refine ⟨_, rfl, _, rfl, a, _, _, _, rfl, rfl, ta (s12.trans s3), atI1, _, _, rfl, rfl, ?_⟩
      refine ⟨z, n - d1, [.int 0], rfl, (by show V.int ((n : Int) - (d1 : Int)) = _; rw [show (n : Int) - (d1 : Int) = ((n - d1 : Nat) : Int) by omega]), tupT upd_same, (by simp), by omega, (by show 1 ≤ 1000; decide), fun q1 H3 s4 hq1 => ?_⟩
      rw [zeros_rep] at hq1
      refine ⟨u, q1, _, _, rfl, rfl, tupT (s4 _ _ (s3 _ _ (s2 _ _ hu))), hq1, szl (by rw [steep_len, zeros_len]; omega), fun w1 H4 s5 hw1 => ?_⟩
      rw [ivs_app] at hw1
      have s14 : Same H H4 := (s12.trans s3).trans (s4.trans s5)
      refine ⟨szl (by show 1 ≤ 100000; decide), fun z2 hz2 => ?_⟩
      have s6 : Same H4 (upd H4 z2 (.tup [.int 0])) := same_new hz2
      refine ⟨_, rfl, _, rfl, b, _, _, _, rfl, rfl, tb (s14.trans s6), atI1, _, _, rfl, rfl, ?_⟩
      refine ⟨z2, n - d2, [.int 0], rfl, (by show V.int ((n : Int) - (d2 : Int)) = _; rw [show (n : Int) - (d2 : Int) = ((n - d2 : Nat) : Int) by omega]), tupT upd_same, (by simp), by omega, (by show 1 ≤ 1000; decide), fun q2 H5 s7 hq2 => ?_⟩
      rw [zeros_rep] at hq2
      refine ⟨_, rfl, q2, v, _, _, rfl, rfl, hq2, tupT (s7 _ _ (s6 _ _ (s5 _ _ (s4 _ _ (s3 _ _ hv))))), szl (by rw [steep_len, zeros_len]; omega), fun w2 H6 s8 hw2 => ?_⟩
      rw [ivs_app] at hw2
      refine ⟨szl (by show 2 ≤ 100000; decide), fun p hp => ?_⟩
      have s9 : Same H6 (upd H6 p (.tup [.ref w1, .ref w2])) := same_new hp
      exact k _ p w1 w2 ((s14.trans s6).trans ((s7.trans s8).trans s9)) upd_same (stT ((s6.trans (s7.trans s8)).trans s9) hw1) (stT s9 hw2)
    · have z0 : ¬ d1 + d2 - n = 0 := fun z => hc0 (by rw [decide_eq_true]; show iV sh = iV 0; rw [esh, z])
      unfold K46.apart at k
      rw [if_neg z0, ← esh] at k
      obtain ⟨f1, f2, f3⟩ := forced_ok (r := r1) (f := n - d2) (sh := sh) (m := m1) (by omega) p1
      obtain ⟨g1, g2, g3⟩ := forced_ok (r := r2) (f := n - d1) (sh := sh) (m := m2) (by omega) p2
      obtain ⟨R1, eR1⟩ : ∃ R1, R1 = forced r1 (n - d2) m1 sh := ⟨_, rfl⟩
      obtain ⟨R2, eR2⟩ : ∃ R2, R2 = forced r2 (n - d1) m2 sh := ⟨_, rfl⟩
      rw [← eR1] at f1 f2 f3 k
      rw [← eR2] at g1 g2 g3 k
      refine ⟨_, rfl, _, rfl, b, _, _, _, rfl, rfl, tb s0, atI1, _, _, rfl, rfl, _, rfl, _, rfl, a, _, _, _, rfl, rfl, ta s0, atI1, _, _, rfl, rfl, _, _, rfl, ?_⟩
      show tSeq _ _ _ [some (iV n), some (.ref a), some (.ref b), some (.ref c), some (iV sh), none, none, some (.int ((n : Int) - (d2 : Int))), some (.int ((n : Int) - (d1 : Int))), none, none] H
      rw [show (n : Int) - (d2 : Int) = ((n - d2 : Nat) : Int) by omega, show (n : Int) - (d1 : Int) = ((n - d1 : Nat) : Int) by omega]
      refine ⟨_, rfl, a, _, _, _, rfl, rfl, ta s0, atI0, _, rfl, _, rfl, c, _, _, _, rfl, rfl, tc s0, atI0, _, rfl, ?_⟩
      refine ⟨r1, n - d2, m1, sh, rfl, by omega, ?_⟩
      rw [← eR1]
      refine ⟨_, rfl, b, _, _, _, rfl, rfl, tb s0, atI0, _, rfl, _, rfl, c, _, _, _, rfl, rfl, tc s0, atI1, _, rfl, ?_⟩
      refine ⟨r2, n - d1, m2, sh, rfl, by omega, ?_⟩
      rw [← eR2]
      -- first
      refine ⟨_, rfl, _, rfl, _, rfl, c, _, _, _, rfl, rfl, tc s0, atI0, ?_⟩
      refine ⟨R1, sh, m1, rfl, f1, by omega, p1, fun H1 u1 s1 hu1 => ?_⟩
      refine ⟨_, rfl, a, _, _, _, rfl, rfl, ta s1, atI0, _, rfl, _, _, rfl, rfl, _, rfl, _, rfl, c, _, _, _, rfl, rfl, tc s1, atI0, ?_⟩
      refine ⟨r1 - R1, n - d2, m1, (by show [V.int ((r1 : Int) - (R1 : Int)), _, _] = _; rw [show (r1 : Int) - (R1 : Int) = ((r1 - R1 : Nat) : Int) by omega]), f3, by omega, p1, fun H2 u2 s2 hu2 => ?_⟩
      refine ⟨u1, u2, _, _, rfl, rfl, tupT (s2 _ _ hu1), tupT hu2, szl (by rw [steep_len, steep_len]; omega), fun w1 H3 s3 hw1 => ?_⟩
      rw [ivs_app] at hw1
      have s13 : Same H H3 := (s1.trans s2).trans s3
      refine ⟨szl (by show 1 ≤ 100000; decide), fun z hz => ?_⟩
      have s4 : Same H3 (upd H3 z (.tup [.int 0])) := same_new hz
      refine ⟨_, rfl, z, n - d1, [.int 0], rfl, rfl, tupT upd_same, (by simp), by omega, (by show 1 ≤ 1000; decide), fun q1 H4 s5 hq1 => ?_⟩
      rw [zeros_rep] at hq1
      refine ⟨w1, q1, _, _, rfl, rfl, stT (s4.trans s5) hw1, hq1, szl (by rw [← ivs_app, List.length_append, steep_len, steep_len, zeros_len]; omega), fun first H5 s6 hfirst => ?_⟩
      rw [ivs_app] at hfirst
      have s15 : Same H H5 := (s13.trans s4).trans (s5.trans s6)
      -- second
      refine ⟨_, rfl, _, rfl, _, rfl, c, _, _, _, rfl, rfl, tc s15, atI1, ?_⟩
      refine ⟨R2, sh, m2, rfl, g1, by omega, p2, fun H6 v1 s7 hv1 => ?_⟩
      refine ⟨v1, _, rfl, tupT hv1, fun v2 hv2 => ?_⟩
      have s8 : Same H6 (upd H6 v2 (.tup (iVs (steep R2 sh m2)).reverse)) := same_new hv2
      refine ⟨szl (by show 1 ≤ 100000; decide), fun z2 hz2 => ?_⟩
      have s9 := same_new (o := .tup [.int 0]) hz2
      refine ⟨_, rfl, z2, n - d2, [.int 0], rfl, rfl, tupT upd_same, (by simp), by omega, (by show 1 ≤ 1000; decide), fun q2 H7 s10 hq2 => ?_⟩
      rw [zeros_rep] at hq2
      have er : (iVs (steep R2 sh m2)).reverse = iVs (steep R2 sh m2).reverse := List.map_reverse.symm
      rw [er] at s8 s9 s10
      have hv2' : SqT K H7 v2 (iVs (steep R2 sh m2).reverse) := tupT (s10 _ _ (s9 _ _ upd_same))
      refine ⟨v2, q2, _, _, rfl, rfl, hv2', hq2, szl (by rw [List.length_map, List.length_reverse, zeros_len, steep, steepGo_length]; omega), fun w2 H8 s11 hw2 => ?_⟩
      rw [ivs_app] at hw2
      have s18 : Same H H8 := (s15.trans s7).trans ((s8.trans s9).trans (s10.trans s11))
      refine ⟨_, rfl, b, _, _, _, rfl, rfl, tb s18, atI0, _, rfl, _, _, rfl, rfl, _, rfl, _, rfl, c, _, _, _, rfl, rfl, tc s18, atI1, ?_⟩
      refine ⟨r2 - R2, n - d1, m2, (by show [V.int ((r2 : Int) - (R2 : Int)), _, _] = _; rw [show (r2 : Int) - (R2 : Int) = ((r2 - R2 : Nat) : Int) by omega]), g3, by omega, p2, fun H9 v3 s12 hv3 => ?_⟩
      refine ⟨w2, v3, _, _, rfl, rfl, stT s12 hw2, tupT hv3, szl (by rw [steep_len, ← ivs_app, List.length_append, List.length_map, List.length_reverse, zeros_len, steep, steepGo_length]; omega), fun second H10 s14 hsecond => ?_⟩
      rw [ivs_app] at hsecond
      have s510 : Same H5 H10 := (s7.trans (s8.trans s9)).trans ((s10.trans s11).trans (s12.trans s14))
      refine ⟨_, rfl, _, rfl, szl (by show 2 ≤ 100000; decide), fun p hp => ?_⟩
      have s19 : Same H10 (upd H10 p (.tup [.ref first, .ref second])) := same_new hp
      exact k _ p first second (s15.trans (s510.trans s19)) upd_same (stT (s510.trans s19) hfirst) (stT s19 hsecond)
end
end Wk
end
section
set_option Elab.async false
set_option linter.all false
set_option autoImplicit false
set_option maxRecDepth 100000
set_option maxHeartbeats 2000000
/-! The walk: products. -/
namespace Wk
open PySem L2 K46 SlX GenW
theorem ip_mul {X : Cx} : PIp X .Mult (fun x y H Q => ∃ i j, x = .int i ∧ y = .int j ∧ CMul i j ∧ Q (.int (i * j)) H) := by
  intro pins s σ H x y v u Q I r1 r2 h
  obtain ⟨i, j, e1, e2, hc, q⟩ := h
  subst e1; subst e2
  obtain ⟨t, rfl⟩ := r1
  obtain ⟨t', rfl⟩ := r2
  exact PyProof.Rows.imul_int ⟨.int _, H, I.tok _, ⟨_, rfl⟩, q⟩ hc.ok
theorem dot_snoc : ∀ (a b : List Nat) (x y : Nat), a.length = b.length → dot (a ++ [x]) (b ++ [y]) = dot a b + x * y
  | [], [], x, y, _ => by simp [dot]
  | [], _ :: _, _, _, h => by simp at h
  | _ :: _, [], _, _, h => by simp at h
  | a :: as, b :: bs, x, y, h => by
    have ih := dot_snoc as bs x y (by simpa using h)
    show a * b + dot (as ++ [x]) (bs ++ [y]) = (a * b + dot as bs) + x * y
    rw [ih, Nat.add_assoc]
theorem ivs_get {l : List Nat} {i : Nat} {x : V} (h : (iVs l)[i]? = some x) : ∃ n, l[i]? = some n ∧ x = iV n := by
  rw [List.getElem?_map] at h
  cases e : l[i]? with
  | none =>
    rw [e] at h
    cases h
  | some n =>
    rw [e] at h
    exact ⟨n, rfl, (Option.some.inj h).symm⟩
/-- products(a, b), behind the binding: the tuple of both at p -/
def spProd (K : PySem.W.Frag) : Sp := fun vs H Q _ => ∃ (p a b : Addr) (xs ys : List Nat), vs = [.ref p] ∧ H p = some (.tup [.ref a, .ref b]) ∧ SqT K H a (iVs xs) ∧ SqT K H b (iVs ys) ∧ xs.length = ys.length ∧ (∀ x ∈ xs, x < 2 ^ 64) ∧
  ∀ H', Same H H' → Q (iV (dot xs ys)) H'
section
variable {P : Program} {w : World} {K : PySem.W.Frag} {mg : Str → Option Value} {base : Heap}
abbrev sProd : Stmt := topS 19
theorem scA9 : FnScope ["columns", "total", "numbers", "product", "number"] (([] : List Str) ++ [("columns" : Str)]) (C8.fnScope sProd) := C8.fnScope_by (by decide +kernel)
theorem ok_prod {f : Addr} {fd : FuncData} (F : C8.Fun K "products" "products" sProd f fd) (df : fd.defaults = .none) (N : Nm mg) :
    FnR P w K mg base CX0 1 f (fun vs H Q E => ∃ ws rest, vs = ws ++ rest ∧ ws.length = ([] : List Str).length ∧ rest.length ≤ sizeLine ∧ ∀ p, H p = Option.none → spProd K (ws ++ [V.ref p]) (upd H p (.tup rest)) Q E) := by
  obtain ⟨oc, od, dV, kV, doc, pm, an, cdv, ct, osl, rfl, lk, hcd⟩ := F.ex
  have ed : dV = .none := df
  subst ed
  refine StX.fn_star (k := 0) (sp := spProd K) lk hcd scA9 (fun _ _ _ _ _ _ _ _ _ _ _ z => z) (fun us rest hl => ?_) (fun A outer s H vs Q E hr h => ?_)
  · cases us with
    | nil =>
      cases rest with
      | nil => rfl
      | cons r rs => rfl
    | cons u us => cases hl
  · obtain ⟨p, a, b, xs, ys, rfl, hp, ha, hb, hl, hx, k⟩ := h
    refine ⟨_, PSs.nox (pss_cons (ps_set (i := 1) scA9.nd rfl (Or.inl rfl) pe_int)
      (pss_cons (Zn.ps_forZ PassesOwn.never rfl (by rfl) N.zip (pv 0) (pg_name (i := 2) scA9.nd rfl (Or.inl rfl))
        (pss_cons (ps_set (i := 3) scA9.nd rfl (Or.inl rfl) pe_int)
        (pss_cons (ps_for PassesOwn.never rfl (pi_tup (pv 2)) (pg_name (i := 4) scA9.nd rfl (Or.inl rfl)) (pss_one (ps_aug (i := 3) scA9.nd rfl (.inl rfl) (pv 4) ip_mul)))
        (pss_one (ps_aug (i := 1) scA9.nd rfl (.inl rfl) (pv 3) ip_add)))))
      (pss_one (ps_ret (pv 1))))), ?_⟩
    refine ⟨_, rfl, p, a, b, iVs xs, iVs ys, rfl, tupT hp, ha, hb, (by rw [List.length_map, List.length_map]; exact hl), ?_⟩
    refine ⟨fun i T0 σ H2 => ∃ (tot : Nat) (y2 y3 y4 : Option V), σ = [some (.ref p), some (iV tot), y2, y3, y4] ∧ tot = dot (xs.take i) (ys.take i) ∧ Same H H2 ∧ (0 < i → ∃ zs, H2 T0 = some (.tup zs)), ?_, ?_, ?_, ?_⟩
    · exact fun T0 => ⟨0, none, none, none, rfl, rfl, Same.refl _, fun z => absurd z (Nat.lt_irrefl _)⟩
    · rintro i T0 σ H2 ⟨tot, y2, y3, y4, rfl, e, s2, ht⟩
      exact ⟨stT s2 ha, stT s2 hb, ht⟩
    · rintro i u v T0 T σ H2 hu hv ⟨tot, y2, y3, y4, rfl, e, s2, ht⟩ hT hi0
      obtain ⟨x, hxi, rfl⟩ := ivs_get hu
      obtain ⟨y, hyi, rfl⟩ := ivs_get hv
      have s3 : Same H2 (upd H2 T (.tup [iV x, iV y])) := same_new hT
      have hxb : x < 2 ^ 64 := hx x (List.mem_of_getElem? hxi)
      refine ⟨_, rfl, T, rfl, ⟨_, tupT upd_same⟩, ?_⟩
      refine for_tup (K := K) (a := T) (xs := [iV x, iV y]) (fun j σ H3 => ∃ (pr : Nat) (z4 : Option V), σ = [some (.ref p), some (iV tot), some (.ref T), some (iV pr), z4] ∧ pr = (([x, y].take j).foldl (· * ·) 1) ∧ H3 = upd H2 T (.tup [iV x, iV y])) ⟨1, y4, rfl, rfl, rfl⟩
        (fun j σ H3 _ ⟨_, _, _, _, e3⟩ => by rw [e3]; exact tupT upd_same) ?_ ?_
      · rintro j q σ H3 hj ⟨pr, z4, rfl, epr, rfl⟩
        match j, hj with
        | 0, hj =>
          obtain rfl := Option.some.inj hj
          have e1 : pr = 1 := epr
          subst e1
          refine ⟨_, rfl, _, rfl, _, _, rfl, rfl, .inl ⟨by decide, by decide⟩, x, some (iV x), ?_, ?_, rfl⟩
          · show [some (V.ref p), some (iV tot), some (V.ref T), some (V.int ((1 : Nat) * (x : Int))), some (iV x)] = _
            rw [show ((1 : Nat) : Int) * (x : Int) = (x : Int) by omega]
          · show x = 1 * x
            omega
        | 1, hj =>
          obtain rfl := Option.some.inj hj
          have e1 : pr = 1 * x := epr
          have e2 : pr = x := by omega
          subst e2
          refine ⟨_, rfl, _, rfl, _, _, rfl, rfl, .inl ⟨by omega, by omega⟩, pr * y, some (iV y), ?_, ?_, rfl⟩
          · show [some (V.ref p), some (iV tot), some (V.ref T), some (V.int ((pr : Int) * (y : Int))), some (iV y)] = _
            rw [show (pr : Int) * (y : Int) = ((pr * y : Nat) : Int) from (Int.natCast_mul _ _).symm]
          · show pr * y = 1 * pr * y
            rw [Nat.one_mul]
      · rintro σ H3 ⟨pr, z4, rfl, epr, rfl⟩
        have e1 : pr = x * y := by
          have : pr = 1 * x * y := epr
          rw [this, Nat.one_mul]
        refine ⟨_, rfl, _, rfl, _, _, rfl, rfl, tot + pr, some (.ref T), some (iV pr), z4, ?_, ?_, s2.trans s3, fun _ => ?_⟩
        · show [some (V.ref p), some (V.int ((tot : Int) + (pr : Int))), some (V.ref T), some (iV pr), z4] = _
          rw [show (tot : Int) + (pr : Int) = ((tot + pr : Nat) : Int) by omega]
        · rw [take_snoc hxi, take_snoc hyi, dot_snoc _ _ _ _ (by rw [List.length_take, List.length_take, hl]), e, e1]
        · by_cases h0 : i = 0
          · rw [hi0 h0]
            exact ⟨_, upd_same⟩
          · obtain ⟨zs, hz⟩ := ht (Nat.pos_of_ne_zero h0)
            exact ⟨zs, s3 _ _ hz⟩
    · rintro T0 σ H2 ⟨tot, y2, y3, y4, rfl, e, s2, ht⟩
      refine ⟨_, rfl, ?_⟩
      have z := k H2 s2
      rw [List.length_map, List.take_length, hl, List.take_length] at e
      rw [e]
      exact z
end
end Wk
end
section
set_option Elab.async false
set_option linter.all false
set_option autoImplicit false
set_option maxRecDepth 100000
set_option maxHeartbeats 2000000
/-! The walk: require_like. -/
namespace Wk
open PySem L2 K46 SlX GenW
/-- isinstance(x, u), x an instance with slots or any other value -/
def rIsiA (K : PySem.W.Frag) (u : Value) : List V → Hp → VK → Prop := fun vs H Q => rIsiSl K u vs H Q ∨ rIsi K vs H Q
theorem call_isiA {X : Cx} (u : Value) : CallR X (.builtin "isinstance") (rIsiA X.K u) := by
  intro pins s σ H xs us Q I r h
  rcases h with h | h
  · exact call_isiSl u pins s σ H xs us Q I r h
  · exact call_isi pins s σ H xs us Q I r h
/-- isinstance facts of the class -/
structure SpK (K : PySem.W.Frag) (C : Addr) : Prop where
  kn : PySem.W.kitOne K (.type "NoneType") (.ref C) = some false
  ki : PySem.W.kitOne K (.type "int") (.ref C) = some false
  kt : PySem.W.kitOne K (.type "tuple") (.ref C) = some false
theorem kit_self {K : PySem.W.Frag} {C : Addr} : PySem.W.kitOne K (.ref C) (.ref C) = some true := if_pos (beq_self_eq_true _)
/-- a value that is handed to a join: a spread and its size, or none -/
inductive Vk (C : Addr) (H : Hp) : V → Option Nat → Prop
  | spr {a : Addr} {T : Tl} (h : SprAt C H a T) : Vk C H (.ref a) (some T.n)
  | non : Vk C H .non none
  | int (i : Int) : Vk C H (.int i) none
  | tup {a : Addr} {xs : List V} (h : H a = some (.tup xs)) : Vk C H (.ref a) none
theorem vk_same {C : Addr} {H H' : Hp} {x : V} {n : Option Nat} (e : Same H H') (h : Vk C H x n) : Vk C H' x n := by
  cases h with
  | spr h => exact .spr (spr_same e h)
  | non => exact .non
  | int i => exact .int i
  | tup h => exact .tup (e _ _ h)
theorem vk_isi {K : PySem.W.Frag} {mg : Str → Option Value} {C : Addr} {H : Hp} {x : V} {n : Option Nat} (T : SpC K mg C) (k : SpK K C) (h : Vk C H x n) {Q : VK} (q : Q (.bl n.isSome) H) : rIsiA K (.ref C) [x, .ref C] H Q := by
  cases h with
  | @spr a U h =>
    obtain ⟨dx, rb, db, fm, hs, _⟩ := h
    exact .inl ⟨a, C, dx, _, .ref C, true, rfl, rfl, fun _ z => z, hs, T.c, T.isi, kit_self, q⟩
  | non => exact .inr ⟨_, _, _, _, false, rfl, ClsV.own C, TyX.base .non, k.kn, q⟩
  | int i => exact .inr ⟨_, _, _, _, false, rfl, ClsV.own C, TyX.base (.int _), k.ki, q⟩
  | tup h => exact .inr ⟨_, _, _, _, false, rfl, ClsV.own C, TyX.base (.tup h), k.kt, q⟩
def spRequire (C D : Addr) : Sp := fun vs H Q E => ∃ (x y : V) (nx ny : Option Nat), vs = [x, y] ∧ Vk C H x nx ∧ Vk C H y ny ∧
  (nx = none → ∀ d, H d = none → E (.ref D) (some d) (upd H d (.xd [(("value" : Str), x)]))) ∧
  (∀ n, nx = some n → ny ≠ some n → ∀ d, H d = none → E (.ref D) (some d) (upd H d (.xd [(("value" : Str), y)]))) ∧
  (∀ n, nx = some n → ny = some n → Q .non H)
/-- the property size, most -/
structure PropC (P : Program) (w : World) (K : PySem.W.Frag) (mg : Str → Option Value) (base : Heap) (C : Addr) (x : Str) (sp : Sp) : Prop where
  ex : ∃ (p g : Addr), PySem.W.findIn K (.ref C) x = some (some (.ref p)) ∧ PySem.W.specialIn K (.ref p) "__get__" = some (some (.builtin "property.__get__")) ∧ PySem.W.takesIn K (.ref p) = some true ∧ (∃ rest, PySem.W.recIn K p "property" = some (.ref g :: rest)) ∧ FnR P w K mg base CX0 1 g sp
theorem pe_prop {X : Cx} {C : Addr} {e : Expr} {x : Str} {pos : Pos} {ta : TE} {sp : Sp} {k : Nat} (c : PropC X.prog X.w X.K X.mg X.base C x sp) (he : PE X e ta) (sc : SCls X.K C) (hr : Room k X.A) (hk : 2 ≤ k) (hb : attributeBase e x X.env (eval e X.env) = eval e X.env := by rfl) :
    PE X (.Attribute e x pos) (tPropSl C sp E0 ta) := by
  obtain ⟨p, g, h1, h2, h3, h4, h5⟩ := c.ex
  exact pe_propSl he sc h1 h2 h3 h4 h5 (hr.mono hk) (fun _ _ _ _ z => z) hb
section
variable {P : Program} {w : World} {K : PySem.W.Frag} {mg : Str → Option Value} {base : Heap}
abbrev sReq : Stmt := topS 18
theorem scA10 : FnScope ["one", "other"] ["one", "other"] (defScope sReq) := ⟨rfl, rfl, rfl, by decide +kernel, rfl, by decide +kernel, by decide +kernel⟩
theorem ok_require {f C D fI : Addr} {fd : FuncData} (F : L2.Fun K "require_like" "require_like" sReq f fd) (T : SpC K mg C) (TK : SpK K C) (N : Nm mg) (Ti : Iv.IvTxt P K mg D fI) (PS' : PropC P w K mg base C "size" (spSize C)) : FnOk P w K mg base (L2.CX P w) 3 f fd ["one", "other"] (spRequire C D) := by
  refine F.okX scA10 (fun vs H Q E h => ?_) (fun cdv A outer s H vs Q E hr h => ?_)
  · obtain ⟨x, y, nx, ny, rfl, _⟩ := h
    rfl
  · obtain ⟨x, y, nx, ny, rfl, hx, hy, e1, e2, k⟩ := h
    refine ⟨_, pss_cons (ps_if (pt_not (pt_val (pe_callB (call_isiA (.ref C)) (by rfl) N.isi (by decide +kernel) (pa_cons (pv 0) (pa_cons (pe_glob (v := .ref C) rfl T.mg rfl) pa_nil))))) (pss_one (ps_raiseIv rfl Ti hr (takes_of rfl rfl rfl rfl) (pa_cons (pv 0) pa_nil))) pss_nil)
      (pss_one (ps_if (PW.pt (pw_or (pt_not (pt_val (pe_callB (call_isiA (.ref C)) (by rfl) N.isi (by decide +kernel) (pa_cons (pv 1) (pa_cons (pe_glob (v := .ref C) rfl T.mg rfl) pa_nil)))))
        (pw_or1 (pt_cmpR op_ne (pe_prop PS' (pv 1) T.c hr (by decide)) (pe_prop PS' (pv 0) T.c hr (by decide)) (nomark _))))) (pss_one (ps_raiseIv rfl Ti hr (takes_of rfl rfl rfl rfl) (pa_cons (pv 1) pa_nil))) pss_nil)), ?_⟩
    refine ⟨_, rfl, vk_isi T TK hx ⟨_, rfl, ?_⟩⟩
    cases hx with
    | non => exact iteT ⟨_, rfl, _, rfl, fun d hd => e1 rfl d hd⟩
    | int i => exact iteT ⟨_, rfl, _, rfl, fun d hd => e1 rfl d hd⟩
    | tup h => exact iteT ⟨_, rfl, _, rfl, fun d hd => e1 rfl d hd⟩
    | @spr a U h =>
      refine iteF ⟨_, rfl, vk_isi T TK hy ⟨_, rfl, ?_⟩⟩
      obtain ⟨dx, rb, db, fm, hs, hs2⟩ := id h
      cases hy with
      | non => exact iteT (iteT ⟨_, rfl, _, rfl, fun d hd => e2 _ rfl (fun z => nomatch z) d hd⟩)
      | int i => exact iteT (iteT ⟨_, rfl, _, rfl, fun d hd => e2 _ rfl (fun z => nomatch z) d hd⟩)
      | tup h => exact iteT (iteT ⟨_, rfl, _, rfl, fun d hd => e2 _ rfl (fun z => nomatch z) d hd⟩)
      | @spr a' U' h' =>
        obtain ⟨dx', rb', db', fm', hs', hs2'⟩ := id h'
        refine iteF ⟨_, rfl, a', dx', _, rfl, hs', a', U', rfl, h', _, rfl, a, dx, _, rfl, hs, a, U, rfl, h, rfl, _, rfl, ?_⟩
        by_cases e : U'.n = U.n
        · refine iteNS (by rw [e]) ?_
          exact k U.n rfl (by rw [e])
        · rw [decide_eq_false (show ¬ iV U'.n = iV U.n from fun z => e (by have := V.int.inj z; omega))]
          exact iteT ⟨_, rfl, _, rfl, fun d hd => e2 _ rfl (fun z => e (Option.some.inj z)) d hd⟩
end
end Wk
end
section
set_option Elab.async false
set_option linter.all false
set_option autoImplicit false
set_option maxRecDepth 100000
set_option maxHeartbeats 2000000
/-! The walk: greatest_join. -/
namespace Wk
open PySem L2 K46 SlX GenW
theorem pe_callR {X : Cx} {CX : CXT} {k : Nat} {f : Addr} {sp : Sp} {E : XK} {x : Str} {p pos : Pos} {e : Expr} {es : List Expr} {t : TA} (F : FnR X.prog X.w X.K X.mg X.base CX k f sp) (hr : Room k X.A) (hg : Gl X x) (hm : X.mg x = some (.ref f)) (hk : PySem.W.keepIn X.K (.ref f) = true) (hx : Passes CX X E)
    (ha : PA X (e :: es) t) (hdb : (x == ("__debug__" : Str)) = false := by decide) (he : starEach (e :: es) X.env = (false, eval e X.env) :: starEach es X.env := by rfl) (hpl : (backTo pos (starEach es X.env)).any (·.1) = false := by rfl) :
    PE X (.Call (.Name x p) (e :: es) [] pos) (fun σ H Q => t σ H fun vs H1 => sp vs H1 Q E) := by
  refine ⟨fun pins s σ H Q I h => ?_⟩
  refine wpAny_Call_Name_kw (ld_glob I hg hm ?_ hdb)
  refine PySem.W.callWith_K (h₀ := X.base) I.ok.mod.kin hk (thn (ha.run pos pins s σ H _ I h) fun us s1 ⟨vs, H1, I1, r, q⟩ => ⟨I1.kIn, ?_⟩) he hpl
  exact wpAny_call (run_fnR F hr hx I1 r q)
theorem to_nil {σ : L2.St} {H : Hp} {Q : List V → Hp → Prop} (h : Q [] H) : tNil σ H Q := h
/-- a spread as the law draws it -/
structure GoodT (T : Tl) : Prop where
  small : Small T
  fit : ∃ h, Fits T h
  r1 : T.r1 ≤ 1000
  d0 : T.d0 ≤ 1000
  r : T.r0 ≤ T.r1
  d : T.d0 ≤ T.d1
theorem GoodT.ne {T : Tl} (g : GoodT T) : pairs T ≠ [] := by
  obtain ⟨h, f⟩ := g.fit
  exact List.ne_nil_of_mem (pair_of f).1
theorem GoodT.n64 {T : Tl} (g : GoodT T) : T.n ≤ 64 := Nat.le_trans g.small.n4 (by decide)
theorem GoodT.pos {T : Tl} (g : GoodT T) : Pos T := g.small.pos
theorem GoodT.fine {T : Tl} (g : GoodT T) : Fine T := ⟨g.small.n1, g.n64, g.r, g.d, g.d0, g.pos, g.ne⟩
def AnsG (T U : Tl) (hs gs : List Nat) : Prop := Fits T hs ∧ Fits U gs ∧ ∀ h g, Fits T h → sortedD h = true → Fits U g → dot h g ≤ dot hs gs
def AnsL (T U : Tl) (hs gs : List Nat) : Prop := Fits T hs ∧ Fits U gs ∧ ∀ h g, Fits T h → Fits U g → dot hs gs ≤ dot h g
/-- the two that are handed in are spreads of one size: the answer; or not: an InvalidSpread that holds z -/
def spJoin (K : PySem.W.Frag) (C D : Addr) (Ans : Tl → Tl → List Nat → List Nat → Prop) : Sp := fun vs H Q E => ∃ x y : V, vs = [x, y] ∧
  ((∃ (a b : Addr) (T U : Tl), x = .ref a ∧ y = .ref b ∧ SprAt C H a T ∧ SprAt C H b U ∧ T.n = U.n ∧ GoodT T ∧ GoodT U ∧
      ∀ (H' : Hp) (p u v : Addr) (hs gs : List Nat), Same H H' → H' p = some (.tup [iV (dot hs gs), .ref u, .ref v]) → SqT K H' u (iVs hs) → SqT K H' v (iVs gs) → Ans T U hs gs → Q (.ref p) H') ∨
   (∃ (nx ny : Option Nat) (z : V), Vk C H x nx ∧ Vk C H y ny ∧ ((nx = none ∧ z = x) ∨ (∃ n, nx = some n ∧ ny ≠ some n ∧ z = y)) ∧ ∀ d, H d = none → E (.ref D) (some d) (upd H d (.xd [(("value" : Str), z)]))))
theorem req_mono {C D : Addr} {vs : List V} {H : Hp} {Q Q' : VK} {E : XK} (h : spRequire C D vs H Q' E) (hq : ∀ v H', Q' v H' → Q v H') : spRequire C D vs H Q E := by
  obtain ⟨x, y, nx, ny, ev, hx, hy, e1, e2, q⟩ := h
  exact ⟨x, y, nx, ny, ev, hx, hy, e1, e2, fun n h1 h2 => hq _ _ (q n h1 h2)⟩
/-- what it asks of require_like -/
theorem join_req {K : PySem.W.Frag} {C D : Addr} {Ans : Tl → Tl → List Nat → List Nat → Prop} {vs : List V} {H : Hp} {Q : VK} {E : XK} (h : spJoin K C D Ans vs H Q E) {k : Prop} (hk : (∃ (a b : Addr) (T U : Tl), vs = [.ref a, .ref b] ∧ SprAt C H a T ∧ SprAt C H b U ∧ T.n = U.n ∧ GoodT T ∧ GoodT U ∧
      ∀ (H' : Hp) (p u v : Addr) (hs gs : List Nat), Same H H' → H' p = some (.tup [iV (dot hs gs), .ref u, .ref v]) → SqT K H' u (iVs hs) → SqT K H' v (iVs gs) → Ans T U hs gs → Q (.ref p) H') → k) :
    spRequire C D vs H (fun v H' => v = .non ∧ H' = H ∧ k) E := by
  obtain ⟨x, y, rfl, h⟩ := h
  rcases h with ⟨a, b, T, U, rfl, rfl, ha, hb, hn, gt, gu, q⟩ | ⟨nx, ny, z, hx, hy, hz, q⟩
  · refine ⟨_, _, _, _, rfl, .spr ha, .spr hb, fun z => (nomatch z), fun n e1 e2 => absurd (by rw [← Option.some.inj e1, hn]) e2, fun n _ _ => ⟨rfl, rfl, hk ⟨a, b, T, U, rfl, ha, hb, hn, gt, gu, q⟩⟩⟩
  · refine ⟨_, _, nx, ny, rfl, hx, hy, fun e => ?_, fun n e1 e2 => ?_, fun n e1 e2 => ?_⟩
    · rcases hz with ⟨_, rfl⟩ | ⟨n, e1, _⟩
      · exact q
      · rw [e] at e1
        cases e1
    · rcases hz with ⟨e3, _⟩ | ⟨m, _, _, rfl⟩
      · rw [e3] at e1
        cases e1
      · exact q
    · rcases hz with ⟨e3, _⟩ | ⟨m, e3, e4, _⟩
      · rw [e3] at e1
        cases e1
      · rw [e1] at e3
        exact absurd (e2.trans e3) e4
section
variable {P : Program} {w : World} {K : PySem.W.Frag} {mg : Str → Option Value} {base : Heap}
/-- a def of the module that may raise -/
structure Clx (P : Program) (w : World) (K : PySem.W.Frag) (mg : Str → Option Value) (base : Heap) (k : Nat) (x : Str) (sp : Sp) : Prop where
  ex : ∃ (f : Addr) (fd : FuncData) (ps : List Str), FnOk P w K mg base (L2.CX P w) k f fd ps sp ∧ mg x = some (.ref f) ∧ PySem.W.keepIn K (.ref f) = true ∧ Binds K fd ps []
theorem pe_x {X : Cx} {k j : Nat} {x : Str} {sp : Sp} {p pos : Pos} {e : Expr} {es : List Expr} {t : TA} {W : WX} (c : Clx X.prog X.w X.K X.mg X.base k x sp) (hr : Room j X.A) (hk : k ≤ j) (tk : Takes X W) (hg : Gl X x) (ha : PA X (e :: es) t)
    (hdb : (x == ("__debug__" : Str)) = false := by decide) (he : starEach (e :: es) X.env = (false, eval e X.env) :: starEach es X.env := by rfl) (hpl : (backTo pos (starEach es X.env)).any (·.1) = false := by rfl) :
    PE X (.Call (.Name x p) (e :: es) [] pos) (tCallS sp (fun σ => WE W σ) t) := by
  obtain ⟨f, fd, ps, F, hm, kp, b⟩ := c.ex
  exact pe_callS F (hr.mono hk) hg hm kp b (fun σ => passAt tk σ) ha hdb he hpl
/-- products, by its name -/
def PrC (P : Program) (w : World) (K : PySem.W.Frag) (mg : Str → Option Value) (base : Heap) : Prop := ∃ f, FnR P w K mg base CX0 1 f (fun vs H Q E => ∃ ws rest, vs = ws ++ rest ∧ ws.length = ([] : List Str).length ∧ rest.length ≤ sizeLine ∧ ∀ p, H p = Option.none → spProd K (ws ++ [V.ref p]) (upd H p (.tup rest)) Q E) ∧
  mg "products" = some (.ref f) ∧ PySem.W.keepIn K (.ref f) = true
/-- products(a, b) -/
def tProd (K : PySem.W.Frag) (t : TA) : TE := fun σ H Q => t σ H fun vs H1 => ∃ (a b : Addr) (xs ys : List Nat), vs = [.ref a, .ref b] ∧ SqT K H1 a (iVs xs) ∧ SqT K H1 b (iVs ys) ∧ xs.length = ys.length ∧ (∀ x ∈ xs, x < 2 ^ 64) ∧ ∀ H', Same H1 H' → Q (iV (dot xs ys)) H'
theorem pe_prod {X : Cx} {j : Nat} {p pos : Pos} {e : Expr} {es : List Expr} {t : TA} (c : PrC X.prog X.w X.K X.mg X.base) (hr : Room j X.A) (hk : 1 ≤ j) (hg : Gl X "products") (ha : PA X (e :: es) t)
    (he : starEach (e :: es) X.env = (false, eval e X.env) :: starEach es X.env := by rfl) (hpl : (backTo pos (starEach es X.env)).any (·.1) = false := by rfl) : PE X (.Call (.Name "products" p) (e :: es) [] pos) (tProd X.K t) := by
  obtain ⟨f, F, hm, kp⟩ := c
  have F2 := F.imp (sp' := fun vs H Q E => ∃ (a b : Addr) (xs ys : List Nat), vs = [.ref a, .ref b] ∧ SqT X.K H a (iVs xs) ∧ SqT X.K H b (iVs ys) ∧ xs.length = ys.length ∧ (∀ x ∈ xs, x < 2 ^ 64) ∧ ∀ H', Same H H' → Q (iV (dot xs ys)) H') fun vs H Q E ⟨a, b, xs, ys, ev, ha, hb, hl, hx, q⟩ =>
    ⟨[], vs, rfl, rfl, by rw [ev]; exact szl (by show 2 ≤ 100000; decide), fun p hp => ⟨p, a, b, xs, ys, rfl, by rw [upd_same, ev], stT (same_new hp) ha, stT (same_new hp) hb, hl, hx, fun H' s => q H' ((same_new hp).trans s)⟩⟩
  exact pe_callR F2 (hr.mono hk) hg hm kp (E := E0) pass0 ha (by decide) he hpl
abbrev sGreat : Stmt := topS 22
theorem scA11 : FnScope ["one", "other", "first", "second"] ["one", "other"] (defScope sGreat) := ⟨rfl, rfl, rfl, by decide +kernel, rfl, by decide +kernel, by decide +kernel⟩
theorem le_sum : ∀ {h : List Nat} {x : Nat}, x ∈ h → x ≤ h.sum
  | a :: r, x, m => by
    rw [List.sum_cons]
    rcases List.mem_cons.mp m with rfl | m
    · exact Nat.le_add_right _ _
    · exact Nat.le_trans (le_sum m) (Nat.le_add_left _ _)
theorem small_mem {T : Tl} {h : List Nat} (g : GoodT T) (f : Fits T h) : ∀ x ∈ h, x < 2 ^ 64 := fun x hx => by
  have h1 : x ≤ h.sum := le_sum hx
  have h2 := f.2.2.1
  have h3 := g.r1
  omega
theorem ok_great {f g C D : Addr} {fd fdg : FuncData} (F : L2.Fun K "greatest_join" "greatest_join" sGreat f fd) (T : SpC K mg C) (CR : Clx P w K mg base 3 "require_like" (spRequire C D)) (FG : FnOk P w K mg base CX0 7 g fdg ["self"] (spSteepest K C)) (mG : Meth K C "steepest" g) (bG : Binds K fdg ["self"] [])
    (CP : PrC P w K mg base) : FnOk P w K mg base (L2.CX P w) 8 f fd ["one", "other"] (spJoin K C D AnsG) := by
  refine F.okX scA11 (fun vs H Q E h => ?_) (fun cdv A outer s H vs Q E hr h => ?_)
  · obtain ⟨x, y, rfl, _⟩ := h
    rfl
  · obtain ⟨x, y, ev, _⟩ := id h
    refine ⟨_, pss_cons (ps_expr (pe_x CR hr (by decide) (takes_of rfl rfl rfl rfl) rfl (pa_cons (pv 0) (pa_cons (pv 1) pa_nil))))
      (pss_cons (ps_par (i := 2) (j := 3) (by rfl) scA11.nd rfl rfl (by decide) rfl rfl (pa_cons (pe_methSl0 (pv 0) T.c mG (fnr_of FG bG) hr pass0) (pa_cons (pe_methSl0 (pv 1) T.c mG (fnr_of FG bG) hr pass0) pa_nil)) (by rfl))
      (pss_one (ps_ret (pe_tup (pa_cons (pe_prod CP hr (by decide) rfl (pa_cons (pv 2) (pa_cons (pv 3) pa_nil))) (pa_cons (pv 2) (pa_cons (pv 3) pa_nil))))))), ?_⟩
    subst ev
    refine ⟨_, rfl, _, rfl, ?_⟩
    refine to_nil ?_
    refine req_mono (join_req h (fun z => z)) ?_
    rintro v H' ⟨rfl, rfl, a, b, U, V', ev, ha, hb, hn, gt, gu, k⟩
    obtain ⟨rfl, rfl⟩ : x = .ref a ∧ y = .ref b := by
      have e1 := (List.cons.inj ev).1
      have e2 := (List.cons.inj (List.cons.inj ev).2).1
      exact ⟨e1, e2⟩
    obtain ⟨dx, rb, db, fm, hs, hs2⟩ := id ha
    refine ⟨_, rfl, a, dx, _, rfl, hs, a, U, rfl, ha, gt.n64, gt.d0, gt.ne, gt.pos, fun H1 p1 R D1 s1 f1 hp1 => ?_⟩
    have hb1 := spr_same s1 hb
    obtain ⟨dx', rb', db', fm', hs', hs2'⟩ := id hb1
    refine ⟨_, rfl, b, dx', _, rfl, hs', b, V', rfl, hb1, gu.n64, gu.d0, gu.ne, gu.pos, fun H2 p2 R2 D2 s2 f2 hp2 => ?_⟩
    obtain ⟨fit1, _⟩ := steepest_fits gt.pos f1
    obtain ⟨fit2, _⟩ := steepest_fits gu.pos f2
    refine ⟨_, _, rfl, ?_⟩
    have hp12 := stT s2 hp1
    refine ⟨_, rfl, _, rfl, p1, p2, _, _, rfl, hp12, hp2, by rw [fit1.1, fit2.1, hn], small_mem gt fit1, fun H3 s3 => ?_⟩
    refine ⟨_, rfl, _, rfl, szl (by show 3 ≤ 100000; decide), fun p hp => ?_⟩
    have s4 := same_new (o := .tup [iV (dot (steepest U R D1) (steepest V' R2 D2)), .ref p1, .ref p2]) hp
    exact k _ p p1 p2 _ _ ((s1.trans s2).trans (s3.trans s4)) upd_same (stT (s3.trans s4) hp12) (stT (s3.trans s4) hp2) ⟨fit1, fit2, fun h g fh sh fg => greatest_of hn gt.pos gu.pos f1 f2 fh sh fg⟩
end
end Wk
end
section
set_option Elab.async false
set_option linter.all false
set_option autoImplicit false
set_option maxRecDepth 100000
set_option maxHeartbeats 2000000
/-! The walk: least_join. -/
namespace Wk
open PySem L2 K46 SlX GenW
abbrev Tri := Nat × Nat × Nat
def apA (T U : Tl) (q r : Tri) : List Nat × List Nat := apart T.n q.2.1 q.1 r.2.1 r.1 T.most U.most
/-- the best so far, of the pairs that S tells -/
def BestAt (K : PySem.W.Frag) (T U : Tl) (H : Hp) (v : V) (S : Tri → Tri → Prop) : Prop :=
  ((∀ q r, ¬ S q r) ∧ v = .non) ∨ ∃ (p u w : Addr) (q r : Tri), v = .ref p ∧ q ∈ pairs T ∧ r ∈ pairs U ∧ H p = some (.tup [iV (dot (apA T U q r).1 (apA T U q r).2), .ref u, .ref w]) ∧ SqT K H u (iVs (apA T U q r).1) ∧ SqT K H w (iVs (apA T U q r).2) ∧
    ∀ q' r', S q' r' → dot (apA T U q r).1 (apA T U q r).2 ≤ dot (apA T U q' r').1 (apA T U q' r').2
theorem best_same {K : PySem.W.Frag} {T U : Tl} {H H' : Hp} {v : V} {S : Tri → Tri → Prop} (e : Same H H') (h : BestAt K T U H v S) : BestAt K T U H' v S := by
  rcases h with h | ⟨p, u, w, q, r, h1, h2, h3, h4, h5, h6, h7⟩
  · exact .inl h
  · exact .inr ⟨p, u, w, q, r, h1, h2, h3, e _ _ h4, stT e h5, stT e h6, h7⟩
theorem best_imp {K : PySem.W.Frag} {T U : Tl} {H : Hp} {v : V} {S S' : Tri → Tri → Prop} (e : ∀ q r, S' q r ↔ S q r) (h : BestAt K T U H v S) : BestAt K T U H v S' := by
  rcases h with ⟨h, hv⟩ | ⟨p, u, w, q, r, h1, h2, h3, h4, h5, h6, h7⟩
  · exact .inl ⟨fun q r z => h q r ((e q r).mp z), hv⟩
  · exact .inr ⟨p, u, w, q, r, h1, h2, h3, h4, h5, h6, fun q' r' z => h7 q' r' ((e q' r').mp z)⟩
theorem best_end {K : PySem.W.Frag} {T U : Tl} {H : Hp} {v : V} (hn : T.n = U.n) (gt : GoodT T) (gu : GoodT U) (h : BestAt K T U H v (fun q r => q ∈ pairs T ∧ r ∈ pairs U)) :
    ∃ (p u w : Addr) (hs gs : List Nat), v = .ref p ∧ H p = some (.tup [iV (dot hs gs), .ref u, .ref w]) ∧ SqT K H u (iVs hs) ∧ SqT K H w (iVs gs) ∧ AnsL T U hs gs := by
  rcases h with ⟨h, hv⟩ | ⟨p, u, w, q, r, h1, h2, h3, h4, h5, h6, h7⟩
  · obtain ⟨q, hq⟩ := List.exists_mem_of_ne_nil _ gt.ne
    obtain ⟨r, hr⟩ := List.exists_mem_of_ne_nil _ gu.ne
    exact absurd ⟨hq, hr⟩ (h q r)
  · obtain ⟨f1, f2⟩ := apart_fits (d := q.1) (lo := q.2.1) (hi := q.2.2) (e := r.1) (lo' := r.2.1) (hi' := r.2.2) hn gt.small gu.small h2 h3
    refine ⟨p, u, w, _, _, h1, h4, h5, h6, f1, f2, fun h g fh fg => ?_⟩
    obtain ⟨d, lo, hi, e, lo', hi', m1, m2, hle⟩ := least_of hn gt.small gu.small fh fg
    exact Nat.le_trans (h7 (d, lo, hi) (e, lo', hi') ⟨m1, m2⟩) hle
section
variable {P : Program} {w : World} {K : PySem.W.Frag} {mg : Str → Option Value} {base : Heap}
abbrev sLeast : Stmt := topS 23
abbrev nmL : List Str := ["one", "other", "best", "others", "different", "rows", "high", "many", "least", "limit", "first", "second", "number"]
theorem scA12 : FnScope nmL ["one", "other"] (defScope sLeast) := ⟨rfl, rfl, rfl, by decide +kernel, rfl, by decide +kernel, by decide +kernel⟩
theorem ok_least {f g C D : Addr} {fd fdg : FuncData} (F : L2.Fun K "least_join" "least_join" sLeast f fd) (T : SpC K mg C) (N : Nm mg) (CR : Clx P w K mg base 3 "require_like" (spRequire C D)) (FY : Gy.GFy P w K mg base 2 g fdg ["self"] (spPairsY C)) (FG : GFn P w K mg base 2 g fdg ["self"] (spPairsG C)) (mG : Meth K C "pairs" g) (bG : Binds K fdg ["self"] [])
    (CP : PrC P w K mg base) (CA : Cl0 P w K mg base 2 "apart" (spApart K) []) (PS1 : PropC P w K mg base C "size" (spSize C)) (PS2 : PropC P w K mg base C "most" (spMost C)) : FnOk P w K mg base (L2.CX P w) 8 f fd ["one", "other"] (spJoin K C D AnsL) := by
  refine F.okX scA12 (fun vs H Q E h => ?_) (fun cdv A outer s H vs Q E hr h => ?_)
  · obtain ⟨x, y, rfl, _⟩ := h
    rfl
  · obtain ⟨x, y, ev, _⟩ := id h
    refine ⟨_, pss_cons (ps_expr (pe_x CR hr (by decide) (takes_of rfl rfl rfl rfl) rfl (pa_cons (pv 0) (pa_cons (pv 1) pa_nil))))
      (PSs.nox (pss_cons (ps_par (i := 2) (j := 3) (by rfl) scA12.nd rfl rfl (by decide) rfl rfl (pa_cons pe_non (pa_cons (pe_listG (k := 2) (Gy.pgen_methSl (E := fun _ _ _ => False) (pv 1) T.c mG FG (hr.mono (by decide)) bG) pass_no (fun _ _ _ h => h.elim) (hr.mono (by decide)) (by rfl) N.lst (by decide +kernel)) pa_nil)) (by rfl))
      (pss_cons (Gy.ps_forG (k := 2) (fun _ _ z => z) rfl (hr.mono (by decide)) (Gy.pgy_methSl (pv 0) T.c mG FY (hr.mono (by decide)) bG) (pg_tup (by rfl) (pgs_cons (pg_name (i := 4) scA12.nd rfl (Or.inl rfl)) (pgs_cons (pg_name (i := 5) scA12.nd rfl (Or.inl rfl)) (pgs_cons (pg_name (i := 6) scA12.nd rfl (Or.inl rfl)) pgs_nil))))
        (pss_one (ps_for PassesOwn.never rfl (pi_list (pv 3)) (pg_tup (by rfl) (pgs_cons (pg_name (i := 7) scA12.nd rfl (Or.inl rfl)) (pgs_cons (pg_name (i := 8) scA12.nd rfl (Or.inl rfl)) (pgs_cons (pg_name (i := 9) scA12.nd rfl (Or.inl rfl)) pgs_nil))))
          (pss_cons (ps_asg (C8.pe_c CA hr (by decide) rfl (pa_cons (pe_prop PS1 (pv 0) T.c hr (by decide)) (pa_cons (pe_tup (pa_cons (pv 5) (pa_cons (pv 4) pa_nil))) (pa_cons (pe_tup (pa_cons (pv 8) (pa_cons (pv 7) pa_nil))) (pa_cons (pe_tup (pa_cons (pe_prop PS2 (pv 0) T.c hr (by decide)) (pa_cons (pe_prop PS2 (pv 1) T.c hr (by decide)) pa_nil))) pa_nil))))) (pg_tup (by rfl) (pgs_cons (pg_name (i := 10) scA12.nd rfl (Or.inl rfl)) (pgs_cons (pg_name (i := 11) scA12.nd rfl (Or.inl rfl)) pgs_nil))))
          (pss_cons (ps_set (i := 12) scA12.nd rfl (Or.inl rfl) (pe_prod CP hr (by decide) rfl (pa_cons (pv 10) (pa_cons (pv 11) pa_nil))))
          (pss_one (ps_if (PW.pt (pw_or (pt_cmpR op_isN (pv 2) pe_non (nomark _)) (pw_or1 (pt_cmpR op_lt (pv 12) (pe_ix ix_tup (pv 2) pe_int (fun _ _ => rfl)) (nomark _))))) (pss_one (ps_set (i := 2) scA12.nd rfl (Or.inl rfl) (pe_tup (pa_cons (pv 12) (pa_cons (pv 10) (pa_cons (pv 11) pa_nil)))))) pss_nil)))))))
      (pss_one (ps_ret (pv 2)))))), ?_⟩
    subst ev
    refine ⟨_, rfl, _, rfl, ?_⟩
    refine to_nil ?_
    refine req_mono (join_req h (fun z => z)) ?_
    rintro v H' ⟨rfl, rfl, a, b, U, V', ev, ha, hb, hn, gt, gu, k⟩
    obtain ⟨rfl, rfl⟩ : x = .ref a ∧ y = .ref b := by
      have e1 := (List.cons.inj ev).1
      have e2 := (List.cons.inj (List.cons.inj ev).2).1
      exact ⟨e1, e2⟩
    obtain ⟨dx', rb', db', fm', hs', hs2'⟩ := id hb
    obtain ⟨dx, rb, db, fm, hs, hs2⟩ := id ha
    -- best, others = (None, list(other.pairs()))
    refine ⟨_, rfl, b, dx', _, rfl, hs', b, V', rfl, hb, gu.n64, gu.d0, fun H1 as s1 pr L hL => ?_⟩
    obtain ⟨H2, e2⟩ : ∃ H2, H2 = upd H1 L (.lst (as.map V.ref)) := ⟨_, rfl⟩
    have s12 : Same H1 H2 := by rw [e2]; exact same_new hL
    have hL2 : H2 L = some (.lst (as.map V.ref)) := by rw [e2]; exact upd_same
    have pr2 : Paired (TripAt H2) as (pairs V') := pr.mono fun c q z => s12 _ _ z
    rw [← e2]
    have s02 := s1.trans s12
    refine ⟨_, _, rfl, ?_⟩
    refine ⟨_, rfl, a, dx, _, rfl, slt_same s02 hs, a, U, rfl, spr_same s02 ha, gt.n64, gt.d0, fun H3 as2 s3 pr3 => ?_⟩
    have s03 := s02.trans s3
    have ha3 := spr_same s03 ha
    have hb3 := spr_same s03 hb
    have hL3 := s3 _ _ hL2
    have hlen : (as.map V.ref).length = (pairs V').length := by rw [List.length_map]; exact pr2.length
    have hlen2 : (as2.map V.ref).length = (pairs U).length := by rw [List.length_map]; exact pr3.length
    refine ⟨fun i σ H4 => ∃ (bv : V) (x4 x5 x6 x7 x8 x9 x10 x11 x12 : Option V), σ = [some (.ref a), some (.ref b), some bv, some (.ref L), x4, x5, x6, x7, x8, x9, x10, x11, x12] ∧ Same H3 H4 ∧ BestAt K U V' H4 bv (fun q r => q ∈ (pairs U).take i ∧ r ∈ pairs V'), ?_, ?_, ?_⟩
    · exact ⟨_, _, _, _, _, _, _, _, _, _, rfl, Same.refl _, .inl ⟨fun q r z => by simp at z, rfl⟩⟩
    · rintro i x σ H4 hi ⟨bv, x4, x5, x6, x7, x8, x9, x10, x11, x12, rfl, s4, hbest⟩
      obtain ⟨c, q, rfl, hq, hc⟩ := trip_get pr3 hi
      have hqm := List.mem_of_getElem? hq
      obtain ⟨m1, m2, m3, m4, m5, m6⟩ := mem_pairs.mp (show (q.1, q.2.1, q.2.2) ∈ pairs U from hqm)
      have hc4 : H4 c = some (.tup [iV q.1, iV q.2.1, iV q.2.2]) := s4 _ _ hc
      refine ⟨c, _, rfl, tupT hc4, rfl, _, _, rfl, _, _, rfl, _, _, rfl, rfl, ?_⟩
      refine ⟨_, rfl, L, rfl, ⟨_, lstL (s4 _ _ hL3)⟩, for_list (K := K) (a := L) (xs := as.map V.ref) (fun j σ H5 => ∃ (bv : V) (x7 x8 x9 x10 x11 x12 : Option V), σ = [some (.ref a), some (.ref b), some bv, some (.ref L), some (iV q.1), some (iV q.2.1), some (iV q.2.2), x7, x8, x9, x10, x11, x12] ∧ Same H3 H5 ∧
        BestAt K U V' H5 bv (fun q' r' => (q' ∈ (pairs U).take i ∧ r' ∈ pairs V') ∨ (q' = q ∧ r' ∈ (pairs V').take j))) ⟨bv, _, _, _, _, _, _, rfl, s4, best_imp (fun q' r' => by simp) hbest⟩ (fun j σ H5 _ ⟨_, _, _, _, _, _, _, _, s5, _⟩ => lstL (s5 _ _ hL3)) ?_ ?_⟩
      · rintro j x σ H5 hj ⟨bv, x7, x8, x9, x10, x11, x12, rfl, s5, hbest⟩
        obtain ⟨c2, r, rfl, hr2, hc2⟩ := trip_get pr2 hj
        have hrm := List.mem_of_getElem? hr2
        obtain ⟨l1, l2, l3, l4, l5, l6⟩ := mem_pairs.mp (show (r.1, r.2.1, r.2.2) ∈ pairs V' from hrm)
        have hc5 : H5 c2 = some (.tup [iV r.1, iV r.2.1, iV r.2.2]) := s5 _ _ (s3 _ _ hc2)
        have hU5 := spr_same s5 ha3
        have hV5 := spr_same s5 hb3
        refine ⟨c2, _, rfl, tupT hc5, rfl, _, _, rfl, _, _, rfl, _, _, rfl, rfl, ?_⟩
        obtain ⟨dx5, rb5, db5, fm5, hs5, _⟩ := id hU5
        -- apart(..)
        refine ⟨_, rfl, a, dx5, _, rfl, hs5, a, U, rfl, hU5, ?_⟩
        refine ⟨_, rfl, _, rfl, szl (by show 2 ≤ 100000; decide), fun t1 ht1 => ?_⟩
        have s6 := same_new (o := .tup [iV q.2.1, iV q.1]) ht1
        refine ⟨_, rfl, _, rfl, szl (by show 2 ≤ 100000; decide), fun t2 ht2 => ?_⟩
        have s7 := same_new (o := .tup [iV r.2.1, iV r.1]) ht2
        have hU7 := spr_same (s6.trans s7) hU5
        have hV7 := spr_same (s6.trans s7) hV5
        obtain ⟨dx7, rb7, db7, fm7, hs7, _⟩ := id hU7
        obtain ⟨dx8, rb8, db8, fm8, hs8, _⟩ := id hV7
        refine ⟨_, rfl, a, dx7, _, rfl, hs7, a, U, rfl, hU7, _, rfl, b, dx8, _, rfl, hs8, b, V', rfl, hV7, szl (by show 2 ≤ 100000; decide), fun t3 ht3 => ?_⟩
        have s8 := same_new (o := .tup [mV U.most, mV V'.most]) ht3
        refine ⟨U.n, q.2.1, q.1, r.2.1, r.1, U.most, V'.most, t1, t2, t3, rfl, s8 _ _ (s7 _ _ upd_same), s8 _ _ upd_same, upd_same, m3, by rw [hn]; exact l3, by omega, by omega, gt.n64, gt.pos, gu.pos, fun H6 p u w s9 hp hu hw => ?_⟩
        refine ⟨p, _, rfl, tupT hp, rfl, _, _, rfl, _, _, rfl, rfl, ?_⟩
        have f12 := apart_fits (d := q.1) (lo := q.2.1) (hi := q.2.2) (e := r.1) (lo' := r.2.1) (hi' := r.2.2) hn gt.small gu.small hqm hrm
        obtain ⟨f1, f2⟩ := f12
        -- number
        refine ⟨_, rfl, _, rfl, u, w, _, _, rfl, hu, hw, by rw [f1.1, f2.1, hn], small_mem gt f1, fun H7 s10 => ?_⟩
        have s57 : Same H5 H7 := ((s6.trans s7).trans s8).trans (s9.trans s10)
        have hbest7 := best_same s57 hbest
        have hS : ∀ q' r', ((q' ∈ (pairs U).take i ∧ r' ∈ pairs V') ∨ (q' = q ∧ r' ∈ (pairs V').take (j + 1))) ↔ (((q' ∈ (pairs U).take i ∧ r' ∈ pairs V') ∨ (q' = q ∧ r' ∈ (pairs V').take j)) ∨ (q' = q ∧ r' = r)) := fun q' r' => by
          rw [take_snoc hr2, List.mem_append, List.mem_singleton]
          constructor
          · rintro (z | ⟨z1, z2 | z2⟩)
            · exact .inl (.inl z)
            · exact .inl (.inr ⟨z1, z2⟩)
            · exact .inr ⟨z1, z2⟩
          · rintro ((z | ⟨z1, z2⟩) | ⟨z1, z2⟩)
            · exact .inl z
            · exact .inr ⟨z1, .inl z2⟩
            · exact .inr ⟨z1, .inr z2⟩
        have hu7 := stT s10 hu
        have hw7 := stT s10 hw
        -- a new best
        have fresh : ∀ (pb : Addr), H7 pb = none → (∀ q' r', ((q' ∈ (pairs U).take i ∧ r' ∈ pairs V') ∨ (q' = q ∧ r' ∈ (pairs V').take j)) → dot (apA U V' q r).1 (apA U V' q r).2 ≤ dot (apA U V' q' r').1 (apA U V' q' r').2) →
            BestAt K U V' (upd H7 pb (.tup [iV (dot (apA U V' q r).1 (apA U V' q r).2), .ref u, .ref w])) (.ref pb) (fun q' r' => (q' ∈ (pairs U).take i ∧ r' ∈ pairs V') ∨ (q' = q ∧ r' ∈ (pairs V').take (j + 1))) := fun pb hpb hle => by
          have s11 := same_new (o := .tup [iV (dot (apA U V' q r).1 (apA U V' q r).2), .ref u, .ref w]) hpb
          refine .inr ⟨pb, u, w, q, r, rfl, hqm, hrm, upd_same, stT s11 hu7, stT s11 hw7, fun q' r' z => ?_⟩
          rcases (hS q' r').mp z with z | ⟨rfl, rfl⟩
          · exact hle q' r' z
          · exact Nat.le_refl _
        rcases hbest7 with ⟨hno, rfl⟩ | ⟨pb, ub, wb, qb, rb', rfl, b1, b2, b3, b4, b5, b6⟩
        · refine ⟨_, rfl, rfl, _, rfl, iteT (iteT ⟨_, rfl, _, rfl, _, rfl, szl (by show 3 ≤ 100000; decide), fun pb hpb => ?_⟩)⟩
          exact ⟨.ref pb, _, _, _, _, _, _, rfl, (s5.trans s57).trans (same_new hpb), fresh pb hpb fun q' r' z => absurd z (hno q' r')⟩
        · refine ⟨_, rfl, rfl, _, rfl, iteF ⟨_, rfl, _, rfl, pb, _, _, _, rfl, rfl, tupT b3, atI0, _, _, rfl, rfl, _, rfl, ite2 (fun hc => ?_) fun hc => ?_⟩⟩
          · have hlt := of_decide_eq_true hc
            refine ⟨_, rfl, _, rfl, _, rfl, szl (by show 3 ≤ 100000; decide), fun pb2 hpb2 => ?_⟩
            exact ⟨.ref pb2, _, _, _, _, _, _, rfl, (s5.trans s57).trans (same_new hpb2), fresh pb2 hpb2 fun q' r' z => Nat.le_trans (by unfold apA; unfold apA at hlt; omega) (b6 q' r' z)⟩
          · have hge : ¬ (iV (dot (apA U V' q r).1 (apA U V' q r).2) = iV 0 ∧ False) := fun z => z.2
            refine ⟨.ref pb, _, _, _, _, _, _, rfl, s5.trans s57, .inr ⟨pb, ub, wb, qb, rb', rfl, b1, b2, b3, b4, b5, fun q' r' z => ?_⟩⟩
            rcases (hS q' r').mp z with z | ⟨rfl, rfl⟩
            · exact b6 q' r' z
            · have : ¬ ((dot (apA U V' q' r').1 (apA U V' q' r').2 : Nat) : Int) < ((dot (apA U V' qb rb').1 (apA U V' qb rb').2 : Nat) : Int) := fun z => hc (decide_eq_true z)
              omega
      · rintro σ H5 ⟨bv, x7, x8, x9, x10, x11, x12, rfl, s5, hbest⟩
        refine ⟨bv, _, _, _, _, _, _, _, _, _, rfl, s5, best_imp (fun q' r' => ?_) hbest⟩
        rw [hlen, List.take_length, take_snoc hq, List.mem_append, List.mem_singleton]
        constructor
        · rintro ⟨z1 | z1, z2⟩
          · exact .inl ⟨z1, z2⟩
          · exact .inr ⟨z1, z2⟩
        · rintro (⟨z1, z2⟩ | ⟨z1, z2⟩)
          · exact ⟨.inl z1, z2⟩
          · exact ⟨.inr z1, z2⟩
    · rintro σ H4 ⟨bv, x4, x5, x6, x7, x8, x9, x10, x11, x12, rfl, s4, hbest⟩
      rw [hlen2, List.take_length] at hbest
      obtain ⟨p, u, w, hh, gg, rfl, hp, hu, hw, ans⟩ := best_end hn gt gu hbest
      exact ⟨_, rfl, k H4 p u w hh gg (s03.trans s4) hp hu hw ans⟩
end
end Wk
end
section
set_option Elab.async false
set_option linter.all false
set_option autoImplicit false
set_option maxRecDepth 100000
set_option maxHeartbeats 2000000
/-! The law's own helpers: the pool of numbers, a draw. -/
namespace Wk
open PySem L2 K46 SlX GenW
def spNumbers (K : PySem.W.Frag) : Sp := fun vs H Q _ => ∃ (c : Int) (s m : Nat) (a : Addr), vs = [.int c, iV s, .ref a] ∧ SqL K H a (List.replicate m (V.int 420)) ∧ s ≤ 100000 ∧ m ≤ 1000 ∧
  ∀ (H' : Hp) (L : Addr) (ns : List Int), Same H H' → H L = none → H' L = some (.lst (ns.map V.int)) → Q (.ref L) H'
/-- the state: its numbers at l, the place -/
def StA (H : Hp) (s l : Addr) : Prop := ∃ (ns : List Int) (at_ : Nat), H s = some (.lst [.ref l, iV at_]) ∧ H l = some (.lst (ns.map V.int)) ∧ l ≠ s
/-- all but what stands at s -/
def But (s : Addr) (H H' : Hp) : Prop := ∀ b o, H b = some o → b ≠ s → H' b = some o
theorem But.refl (s : Addr) (H : Hp) : But s H H := fun _ _ h _ => h
theorem But.trans {s : Addr} {H H1 H2 : Hp} (a : But s H H1) (b : But s H1 H2) : But s H H2 := fun c o h n => b c o (a c o h n) n

theorem sta_same {H H' : Hp} {s l : Addr} (e : Same H H') (h : StA H s l) : StA H' s l := by
  obtain ⟨ns, p, h1, h2, h3⟩ := h
  exact ⟨ns, p, e _ _ h1, e _ _ h2, h3⟩
def spDraw : Sp := fun vs H Q _ => ∃ (s l : Addr) (m : Nat), vs = [.ref s, iV m] ∧ StA H s l ∧ 0 < m ∧ ∀ (H' : Hp) (r : Nat), r < m → But s H H' → StA H' s l → Q (iV r) H'
def spPool : Sp := fun vs H Q _ => ∃ (c : Int) (s m : Nat), vs = [.int c, iV s, iV m] ∧ s ≤ 100000 ∧ m ≤ 1000 ∧ ∀ (H' : Hp) (L l : Addr), Same H H' → H L = none → StA H' L l → Q (.ref L) H'
section
variable {P : Program} {w : World} {K : PySem.W.Frag} {mg : Str → Option Value} {base : Heap}
abbrev sNumbers : Stmt := topS 25
abbrev nmN : List Str := ["_law_cell", "_law_salt", "_law_sizes", "_law_whole", "_law_left", "_law_result", "_law_k", "_law_one"]
theorem scL1 : FnScope nmN ["_law_cell", "_law_salt", "_law_sizes"] (C8.fnScope sNumbers) := C8.fnScope_by (by decide +kernel)
theorem fm_lt {i j : Int} (h : 0 < j) : 0 ≤ i.fmod j ∧ i.fmod j < j := ⟨Int.fmod_nonneg_of_pos i h, Int.fmod_lt_of_pos i h⟩
theorem rep_get {m i : Nat} (h : i < m) : (List.replicate m (V.int 420))[i]? = some (V.int 420) := by rw [List.getElem?_replicate, if_pos h]
theorem nzb {j : Int} (h : (j == 0) = false) : j ≠ 0 := fun z => by rw [z] at h; cases h
theorem imap_snoc (acc : List Int) (z : Int) : acc.map V.int ++ [V.int z] = (acc ++ [z]).map V.int := by rw [List.map_append]; rfl
theorem ok_numbers {f : Addr} {fd : FuncData} (F : C8.Def K mg "_law_numbers" sNumbers f fd) (b : Binds K fd ["_law_cell", "_law_salt", "_law_sizes"] []) (N : Nm mg) : Cl0 P w K mg base 1 "_law_numbers" (spNumbers K) [] := by
  refine C8.cal0 F b .nil scL1 (fun vs H Q E h => ?_) (fun cdv A outer s H vs Q E hr h => ?_)
  · obtain ⟨c, s, m, a, rfl, _⟩ := h
    rfl
  · obtain ⟨c, s, m, a, rfl, ha, hs, hm, k⟩ := h
    refine ⟨_, pss_cons (ps_set (i := 3) scL1.nd rfl (Or.inl rfl) (pe_callB (call_max2 (by rfl)) (by rfl) N.mx (by decide +kernel) (pa_cons (pv 0) (pa_cons (pe_op op_sub (pe_un un_neg pe_int) (pv 0)) pa_nil))))
      (pss_cons (ps_set (i := 4) scL1.nd rfl (Or.inl rfl) (pv 3))
      (pss_cons (ps_set (i := 5) scL1.nd rfl (Or.inl rfl) (pe_lst pa_nil))
      (pss_cons (ps_for PassesOwn.never rfl (pi_range1 rfl N.rng (pa_cons (pe_callB call_len_seq (by rfl) N.len PySem.boot_len (pa_cons (pv 2) pa_nil)) pa_nil)) (pg_name (i := 6) scL1.nd rfl (Or.inl rfl))
        (pss_one (ps_if (PW.pt (pw_and (pt_cmpR op_ge (pv 3) (pe_op op_pow pe_int pe_int) (nomark _)) (pw_and1 (pt_cmpR op_gt (pv 4) pe_int (nomark _)))))
          (pss_cons (ps_expr (pe_bm PySem.F.plainAttrs_list PySem.F.slot_list_append PySem.F.type_list_append mt_append (pv 5) (pa_cons (pe_op op_modN (pv 4) (pe_ix ix_list (pv 2) (pv 6) (fun _ _ => rfl))) pa_nil)))
          (pss_one (ps_set (i := 4) scL1.nd rfl (Or.inl rfl) (pe_op op_fdivN (pv 4) (pe_ix ix_list (pv 2) (pv 6) (fun _ _ => rfl))))))
          (pss_cons (ps_set (i := 7) scL1.nd rfl (Or.inl rfl) (pe_op op_modN (pe_op op_pow (pe_op op_add (pe_op op_add (pe_op op_modN (pv 3) pe_int) (pe_op op_mul pe_int (pv 1))) pe_int) pe_int) pe_int))
          (pss_cons (ps_set (i := 7) scL1.nd rfl (Or.inl rfl) (pe_op op_modN (pe_op op_mul (pe_op op_add (pv 7) (pe_op op_mul pe_int (pe_op op_add (pv 6) pe_int))) (pe_op op_add (pv 6) pe_int)) pe_int))
          (pss_cons (ps_set (i := 7) scL1.nd rfl (Or.inl rfl) (pe_op op_modN (pe_op op_mul (pe_op op_modN (pe_op op_pow (pv 7) pe_int) pe_int) pe_int) pe_int))
          (pss_one (ps_expr (pe_bm PySem.F.plainAttrs_list PySem.F.slot_list_append PySem.F.type_list_append mt_append (pv 5) (pa_cons (pe_op op_modN (pe_op op_fdivN (pv 7) pe_int) (pe_ix ix_list (pv 2) (pv 6) (fun _ _ => rfl))) pa_nil))))))))))
      (pss_one (ps_ret (pv 5)))))), ?_⟩
    refine ⟨_, rfl, _, rfl, _, rfl, _, _, rfl, rfl, _, _, rfl, ?_⟩
    obtain ⟨W, hW⟩ : ∃ W : Int, W = (if -1 - c > c then -1 - c else c) := ⟨_, rfl⟩
    show tSeq _ _ _ [some (.int c), some (iV s), some (.ref a), some (.int (if -1 - c > c then -1 - c else c)), none, none, none, none] H
    rw [← hW]
    refine ⟨_, rfl, by decide, fun l hl => ?_⟩
    have s0 : Same H (upd H l (.lst [])) := same_new hl
    refine ⟨_, rfl, a, _, rfl, .inl (s0.seq ha), _, rfl, ?_, ?_, ?_⟩
    · rw [List.length_replicate]
      omega
    · rw [List.length_replicate]
      omega
    have en : (((List.replicate m (V.int 420)).length : Nat) : Int).toNat = m := by rw [List.length_replicate]; omega
    refine for_range (lo := 0) (fun i σ H2 => ∃ (lf : Int) (acc : List Int) (x y : Option V), σ = [some (.int c), some (iV s), some (.ref a), some (.int W), some (.int lf), some (.ref l), x, y] ∧ acc.length = i ∧ Same H H2 ∧ H2 l = some (.lst (acc.map V.int))) ⟨W, [], none, none, rfl, rfl, s0, upd_same⟩ ?_ ?_
    · rintro i σ H2 hi ⟨lf, acc, x, y, rfl, e, s2, hL⟩
      rw [en] at hi
      have hx := rep_get hi
      have ai : atI (List.replicate m (V.int 420)) (0 + (i : Int)) = some (V.int 420) := by rw [Int.zero_add]; exact atI_nat hx
      have al := s2.seq ha
      have fin : ∀ (z : Int) (lf' : Int) (x' y' : Option V), ∃ (lf'' : Int) (acc' : List Int) (x'' y'' : Option V), [some (V.int c), some (iV s), some (.ref a), some (.int W), some (.int lf'), some (.ref l), x', y'] = [some (.int c), some (iV s), some (.ref a), some (.int W), some (.int lf''), some (.ref l), x'', y''] ∧ acc'.length = i + 1 ∧ Same H (upd H2 l (.lst (acc.map V.int ++ [V.int z]))) ∧ (upd H2 l (.lst (acc.map V.int ++ [V.int z]))) l = some (.lst (acc'.map V.int)) :=
        fun z lf' x' y' => ⟨lf', acc ++ [z], x', y', rfl, by rw [List.length_append, e]; rfl, same_upd s2 hl, by rw [upd_same, imap_snoc]⟩
      refine ⟨_, rfl, _, _, rfl, rfl, ⟨by decide, by decide, by decide⟩, _, _, rfl, rfl, _, rfl, ?_⟩
      have hz : (acc.map V.int).length < sizeLine := szlt (by rw [List.length_map]; omega)
      refine ite2 (fun hc => ⟨_, rfl, _, _, rfl, rfl, _, rfl, ite2 (fun hc2 => ?T) (fun hc2 => ?F1)⟩) (fun hc => iteF ?F2)
      case T =>
        refine ⟨_, rfl, .inl ⟨rfl, _, lstL hL⟩, _, rfl, _, rfl, _, rfl, a, _, _, _, rfl, rfl, al, ai, _, _, rfl, rfl, (nzb (by decide)), l, _, _, rfl, rfl, hL, hz, ?_⟩
        have al2 : SqL K (upd H2 l (.lst (acc.map V.int ++ [V.int (lf.fmod 420)]))) a (List.replicate m (V.int 420)) := (same_upd s2 hl).seq ha
        refine ⟨_, rfl, _, rfl, _, rfl, a, _, _, _, rfl, rfl, al2, ai, _, _, rfl, rfl, ⟨by decide, by decide⟩, ?_⟩
        exact fin _ _ _ _
      all_goals
        have r1 := fm_lt (i := W) (j := 2147483629) (by decide)
        obtain ⟨w0, hw0⟩ : ∃ w0, w0 = W.fmod 2147483629 := ⟨_, rfl⟩
        rw [← hw0] at r1
        refine ⟨_, rfl, _, _, rfl, rfl, (nzb (by decide)), _, rfl, _, _, rfl, rfl, .inl ⟨by decide, by decide⟩, _, _, rfl, rfl, _, _, rfl, rfl, _, _, rfl, rfl, ⟨by decide, by decide, ?_⟩, _, _, rfl, rfl, (nzb (by decide)), ?_⟩
        · rw [← hw0]
          omega
        obtain ⟨z1, hz1⟩ : ∃ z1, z1 = ((W.fmod 2147483629 + 7919 * (s : Int) + 1) ^ (3 : Int).toNat).fmod 2147483647 := ⟨_, rfl⟩
        have q1 := fm_lt (i := (W.fmod 2147483629 + 7919 * (s : Int) + 1) ^ (3 : Int).toNat) (j := 2147483647) (by decide)
        rw [← hz1] at q1
        show tSeq _ _ _ [some (.int c), some (iV s), some (.ref a), some (.int W), some (.int lf), some (.ref l), some (.int (0 + (i : Int))), some (.int (((W.fmod 2147483629 + 7919 * (s : Int) + 1) ^ (3 : Int).toNat).fmod 2147483647))] H2
        rw [← hz1]
        refine ⟨_, rfl, _, rfl, _, _, rfl, rfl, _, _, rfl, rfl, .inl ⟨by decide, by decide⟩, _, _, rfl, rfl, _, rfl, _, _, rfl, rfl, _, _, rfl, rfl, .inr ⟨by omega, by omega⟩, _, _, rfl, rfl, (nzb (by decide)), ?_⟩
        obtain ⟨z2, hz2⟩ : ∃ z2, z2 = ((z1 + 104729 * (0 + (i : Int) + 1)) * (0 + (i : Int) + 3)).fmod 2147483629 := ⟨_, rfl⟩
        have q2 := fm_lt (i := (z1 + 104729 * (0 + (i : Int) + 1)) * (0 + (i : Int) + 3)) (j := 2147483629) (by decide)
        rw [← hz2] at q2
        show tSeq _ _ _ [some (.int c), some (iV s), some (.ref a), some (.int W), some (.int lf), some (.ref l), some (.int (0 + (i : Int))), some (.int (((z1 + 104729 * (0 + (i : Int) + 1)) * (0 + (i : Int) + 3)).fmod 2147483629))] H2
        rw [← hz2]
        refine ⟨_, rfl, _, _, rfl, rfl, ⟨by decide, by decide, by omega⟩, _, _, rfl, rfl, (nzb (by decide)), _, _, rfl, rfl, .inr ⟨by decide, by decide⟩, _, _, rfl, rfl, (nzb (by decide)), ?_⟩
        refine ⟨_, rfl, .inl ⟨rfl, _, lstL hL⟩, _, rfl, _, _, rfl, rfl, ⟨by decide, by decide⟩, _, rfl, _, rfl, a, _, _, _, rfl, rfl, al, ai, _, _, rfl, rfl, (nzb (by decide)), l, _, _, rfl, rfl, hL, hz, ?_⟩
        exact fin _ _ _ _
    · rintro σ H2 ⟨lf, acc, x, y, rfl, e, s2, hL⟩
      exact ⟨_, rfl, k H2 l acc s2 hl hL⟩
end
end Wk
end
section
set_option Elab.async false
set_option linter.all false
set_option autoImplicit false
set_option maxRecDepth 100000
set_option maxHeartbeats 2000000
/-! The law's own helpers: a draw, the pool. -/
namespace Wk
open PySem L2 K46 SlX GenW
section
variable {P : Program} {w : World} {K : PySem.W.Frag} {mg : Str → Option Value} {base : Heap}
abbrev sDraw : Stmt := topS 26
theorem scL2 : FnScope ["_law_state", "_law_many", "_law_at"] ["_law_state", "_law_many"] (C8.fnScope sDraw) := C8.fnScope_by (by decide +kernel)
theorem ixN0 {n : Nat} : ixN (n + 2) (1 : Int) = some 1 := by
  unfold ixN
  first
    | rfl
    | (simp; omega)
    | simp
theorem ok_draw {f : Addr} {fd : FuncData} (F : C8.Def K mg "_law_draw" sDraw f fd) (b : Binds K fd ["_law_state", "_law_many"] []) (N : Nm mg) : Cl0 P w K mg base 1 "_law_draw" spDraw [] := by
  refine C8.cal0 F b .nil scL2 (fun vs H Q E h => ?_) (fun cdv A outer s H vs Q E hr h => ?_)
  · obtain ⟨s, l, m, rfl, _⟩ := h
    rfl
  · obtain ⟨st, l, m, rfl, ⟨ns, p, h1, h2, hne⟩, hm, k⟩ := h
    refine ⟨_, pss_cons (ps_set (i := 2) scL2.nd rfl (Or.inl rfl) (pe_ix ix_list (pv 0) pe_int (fun _ _ => rfl)))
      (pss_cons (ps_asg (pe_op op_add (pv 2) pe_int) (pg_sub (pv 0) pe_int set_list))
      (pss_one (ps_ret (pe_ifExp (pt_cmpR op_lt (pv 2) (pe_callB call_len_seq (by rfl) N.len PySem.boot_len (pa_cons (pe_ix ix_list (pv 0) pe_int (fun _ _ => rfl)) pa_nil)) (nomark _))
        (pe_op op_modN (pe_callTy call_int1 (by rfl) N.int (by decide +kernel) (pa_cons (pe_ix ix_list (pe_ix ix_list (pv 0) pe_int (fun _ _ => rfl)) (pv 2) (fun _ _ => rfl)) pa_nil)) (pv 1)) pe_int)))), ?_⟩
    refine ⟨_, rfl, st, _, _, _, rfl, rfl, lstL h1, atI1, ?_⟩
    refine ⟨_, rfl, _, _, rfl, rfl, _, rfl, st, _, _, 1, rfl, rfl, h1, rfl, ?_⟩
    let H2 : Hp := upd H st (.lst [.ref l, V.int ((p : Int) + 1)])
    have e2 : H2 = upd H st (.lst [.ref l, V.int ((p : Int) + 1)]) := rfl
    have b2 : But st H H2 := fun c o e n => by rw [e2, upd_ne n]; exact e
    have hs2 : H2 st = some (.lst [.ref l, V.int ((p : Int) + 1)]) := by rw [e2]; exact upd_same
    have hl2 : H2 l = some (.lst (ns.map V.int)) := b2 _ _ h2 hne
    have S2 : StA H2 st l := ⟨ns, p + 1, by rw [hs2]; rfl, hl2, hne⟩
    refine ⟨_, rfl, _, rfl, st, _, _, _, rfl, rfl, lstL hs2, atI0, l, _, rfl, .inl (lstL hl2), _, _, rfl, rfl, _, rfl, ite2 (fun hc => ?_) fun hc => ?_⟩
    · have hlt : p < ns.length := by
        have z := of_decide_eq_true hc
        rw [List.length_map] at z
        omega
      obtain ⟨z, hz⟩ : ∃ z, ns[p]? = some z := ⟨_, List.getElem?_eq_getElem hlt⟩
      have hz2 : (ns.map V.int)[p]? = some (V.int z) := by rw [List.getElem?_map, hz]; rfl
      refine ⟨_, rfl, st, _, _, _, rfl, rfl, lstL hs2, atI0, _, rfl, l, _, _, _, rfl, rfl, lstL hl2, atI_nat hz2, .inl ⟨z, rfl, _, rfl, _, _, rfl, rfl, (show (m : Int) ≠ 0 by omega), ?_⟩⟩
      have q := fm_lt (i := z) (j := (m : Int)) (by omega)
      show Q (.int (z.fmod (m : Int))) H2
      have e : z.fmod (m : Int) = ((z.fmod (m : Int)).toNat : Int) := by omega
      rw [e]
      exact k H2 _ (by omega) b2 S2
    · exact k H2 0 hm b2 S2
abbrev sPool : Stmt := topS 27
theorem scL3 : FnScope ["_law_cell", "_law_salt", "_law_many"] ["_law_cell", "_law_salt", "_law_many"] (C8.fnScope sPool) := C8.fnScope_by (by decide +kernel)
theorem flat_rep (m : Nat) : (List.replicate m [V.int 420]).flatten = List.replicate m (V.int 420) := by
  induction m with
  | zero => rfl
  | succ n ih =>
    rw [List.replicate_succ, List.flatten_cons, ih, List.replicate_succ]
    rfl
theorem ok_pool {f : Addr} {fd : FuncData} (F : C8.Def K mg "_law_pool" sPool f fd) (b : Binds K fd ["_law_cell", "_law_salt", "_law_many"] []) (CN : Cl0 P w K mg base 1 "_law_numbers" (spNumbers K) []) : Cl0 P w K mg base 2 "_law_pool" spPool [] := by
  refine C8.cal0 F b .nil scL3 (fun vs H Q E h => ?_) (fun cdv A outer s H vs Q E hr h => ?_)
  · obtain ⟨c, s, m, rfl, _⟩ := h
    rfl
  · obtain ⟨c, s, m, rfl, hs, hm, k⟩ := h
    refine ⟨_, pss_one (ps_ret (pe_lst (pa_cons (C8.pe_c CN hr (by decide) rfl (pa_cons (pv 0) (pa_cons (pv 1) (pa_cons (pe_op op_rep (pe_lst (pa_cons pe_int pa_nil)) (pv 2)) pa_nil)))) (pa_cons pe_int pa_nil)))), ?_⟩
    refine ⟨_, rfl, _, rfl, szl (by show 1 ≤ 100000; decide), fun l hl => ?_⟩
    have s1 : Same H (upd H l (.lst [.int 420])) := same_new hl
    refine ⟨_, rfl, l, _, _, rfl, rfl, upd_same, by omega, by omega, szl (by show 1 * _ ≤ _; omega), fun l2 hl2 => ?_⟩
    have s2 := same_new (o := .lst (List.replicate (m : Int).toNat [V.int 420]).flatten) hl2
    rw [Int.toNat_natCast, flat_rep] at s2 ⊢
    refine ⟨c, s, m, l2, rfl, lstL upd_same, hs, hm, fun H3 L ns s3 hL hLn => ?_⟩
    refine ⟨szl (by show 2 ≤ 100000; decide), fun st hst => ?_⟩
    have s4 := same_new (o := .lst [.ref L, .int 0]) hst
    have s04 : Same H H3 := (s1.trans s2).trans s3
    exact k _ st L (s04.trans s4) (s04.free hst) ⟨ns, 0, upd_same, s4 _ _ hLn, ne_of_none hLn hst⟩
end
end Wk
end
section
set_option Elab.async false
set_option linter.all false
set_option autoImplicit false
set_option maxRecDepth 100000
set_option maxHeartbeats 2000000
/-! The law's own helpers: all splits. -/
namespace Wk
open PySem L2 K46 SlX GenW
/-- a list of tuples of whole numbers -/
def HsP (K : PySem.W.Frag) (H : Hp) (as : List Addr) (l : List (List Nat)) : Prop := Paired (fun a h => SqT K H a (iVs h)) as l
def HsAt (K : PySem.W.Frag) (H : Hp) (L : Addr) (l : List (List Nat)) : Prop := ∃ as : List Addr, H L = some (.lst (as.map V.ref)) ∧ HsP K H as l
theorem hsp_same {K : PySem.W.Frag} {H H' : Hp} {as : List Addr} {l : List (List Nat)} (e : Same H H') (h : HsP K H as l) : HsP K H' as l := h.mono fun _ _ z => stT e z
theorem hs_same {K : PySem.W.Frag} {H H' : Hp} {L : Addr} {l : List (List Nat)} (e : Same H H') (h : HsAt K H L l) : HsAt K H' L l := by
  obtain ⟨as, h1, h2⟩ := h
  exact ⟨as, e _ _ h1, hsp_same e h2⟩
theorem stT_upd {K : PySem.W.Frag} {H : Hp} {a D : Addr} {xs zs : List V} {o : HO} (hD : H D = some (.lst zs)) (h : SqT K H a xs) : SqT K (upd H D o) a xs := by
  rcases h with (h | ⟨u, h⟩) | h
  · exact .inl (.inl (by rw [upd_ne (ne_of h hD (fun z => by cases z))]; exact h))
  · exact .inl (.inr ⟨u, by rw [upd_ne (ne_of h hD (fun z => by cases z))]; exact h⟩)
  · exact .inr h
theorem hsp_upd {K : PySem.W.Frag} {H : Hp} {D : Addr} {zs : List V} {o : HO} {as : List Addr} {l : List (List Nat)} (hD : H D = some (.lst zs)) (h : HsP K H as l) : HsP K (upd H D o) as l := h.mono fun _ _ z => stT_upd hD z
theorem hsp_get {K : PySem.W.Frag} {H : Hp} : ∀ {as : List Addr} {l : List (List Nat)} {i : Nat} {x : V}, HsP K H as l → (as.map V.ref)[i]? = some x → ∃ a h, x = .ref a ∧ l[i]? = some h ∧ SqT K H a (iVs h)
  | _, _, i, x, .nil, e => by simp at e
  | _, _, 0, x, .cons h t, e => by
    simp at e
    exact ⟨_, _, e.symm, rfl, h⟩
  | _, _, i + 1, x, .cons h t, e => by
    obtain ⟨a, q, h1, h2, h3⟩ := hsp_get (i := i) (x := x) t (by simpa using e)
    exact ⟨a, q, h1, by simpa using h2, h3⟩
theorem hsp_app {K : PySem.W.Frag} {H : Hp} : ∀ {as bs : List Addr} {l m : List (List Nat)}, HsP K H as l → HsP K H bs m → HsP K H (as ++ bs) (l ++ m)
  | _, _, _, _, .nil, s => s
  | _, _, _, _, .cons r t, s => .cons r (hsp_app t s)
abbrev preS (t n i : Nat) : List (List Nat) := (List.range i).flatMap fun f => (splits (t - f) n).map (f :: ·)
theorem preS_succ (t n i : Nat) : preS t n (i + 1) = preS t n i ++ (splits (t - i) n).map (i :: ·) := by
  unfold preS
  rw [List.range_succ, List.flatMap_append]
  show _ ++ (_ ++ []) = _
  rw [List.append_nil]
theorem preS_len {n T : Nat} (h : ∀ t, t ≤ T → (splits t n).length ≤ (T + 1) ^ n) (t : Nat) (ht : t ≤ T) : ∀ i, (preS t n i).length ≤ i * (T + 1) ^ n
  | 0 => by simp [preS]
  | i + 1 => by
    rw [preS_succ, List.length_append, List.length_map, Nat.succ_mul]
    have := preS_len h t ht i
    have := h (t - i) (by omega)
    omega
theorem splits_len (T : Nat) : ∀ n t, t ≤ T → (splits t n).length ≤ (T + 1) ^ n
  | 0, t, _ => by simp [splits]
  | n + 1, t, ht => by
    have e : splits t (n + 1) = preS t n (t + 1) := rfl
    have h1 := preS_len (splits_len T n) t ht (t + 1)
    rw [e, Nat.pow_succ, Nat.mul_comm]
    exact Nat.le_trans h1 (Nat.mul_le_mul_right _ (by omega))
theorem pow_le {n : Nat} (h : n ≤ 4) : 13 ^ n ≤ 28561 := by
  have : 13 ^ n ≤ 13 ^ 4 := Nat.pow_le_pow_right (by decide) h
  omega
theorem splits_le {t n : Nat} (ht : t ≤ 12) (hn : n ≤ 4) : (splits t n).length ≤ 28561 := Nat.le_trans (splits_len 12 n t ht) (pow_le hn)
def spSplits (K : PySem.W.Frag) (n0 : Nat) : Sp := fun vs H Q _ => ∃ t n : Nat, vs = [iV t, iV n] ∧ t ≤ 12 ∧ n ≤ n0 ∧ n ≤ 4 ∧ ∀ (H' : Hp) (L : Addr), Same H H' → H L = none → HsAt K H' L (splits t n) → Q (.ref L) H'
section
variable {P : Program} {w : World} {K : PySem.W.Frag} {mg : Str → Option Value} {base : Heap}
abbrev sSplits : Stmt := topS 28
abbrev nmS : List Str := ["_law_total", "_law_many", "_law_found", "_law_first", "_law_rest"]
theorem scL4 : FnScope nmS ["_law_total", "_law_many"] (C8.fnScope sSplits) := C8.fnScope_by (by decide +kernel)
theorem ok_splits0 {f : Addr} {fd : FuncData} (F : C8.Def K mg "_law_splits" sSplits f fd) (b : Binds K fd ["_law_total", "_law_many"] []) (N : Nm mg) : Cl0 P w K mg base 1 "_law_splits" (spSplits K 0) [] := by
  refine C8.cal0 F b .nil scL4 (fun vs H Q E h => ?_) (fun cdv A outer s H vs Q E hr h => ?_)
  · obtain ⟨t, n, rfl, _⟩ := h
    rfl
  · obtain ⟨t, n, rfl, ht, hn, _, k⟩ := h
    obtain rfl : n = 0 := by omega
    refine ⟨_, pss_cons (ps_if (pt_cmpR op_eq (pv 1) pe_int (nomark _)) (pss_one (ps_ret (pe_lst (pa_cons (pe_tup pa_nil) pa_nil)))) pss_nil) pss_never, ?_⟩
    refine ⟨_, rfl, rfl, _, rfl, iteT ⟨by decide, fun u hu => ⟨szl (by show 1 ≤ 100000; decide), fun l hl => ?_⟩⟩⟩
    have s1 := same_new (o := .tup []) hu
    have s2 := same_new (o := .lst [.ref u]) hl
    exact k _ l (s1.trans s2) (s1.free hl) ⟨[u], upd_same, .cons (tupT (s2 _ _ upd_same)) .nil⟩
theorem ok_splitsS {n0 : Nat} {f : Addr} {fd : FuncData} (F : C8.Def K mg "_law_splits" sSplits f fd) (b : Binds K fd ["_law_total", "_law_many"] []) (N : Nm mg) (C : Cl0 P w K mg base (n0 + 1) "_law_splits" (spSplits K n0) []) : Cl0 P w K mg base (n0 + 2) "_law_splits" (spSplits K (n0 + 1)) [] := by
  refine C8.cal0 F b .nil scL4 (fun vs H Q E h => ?_) (fun cdv A outer s H vs Q E hr h => ?_)
  · obtain ⟨t, n, rfl, _⟩ := h
    rfl
  · obtain ⟨t, n, rfl, ht, hn, hn4, k⟩ := h
    refine ⟨_, pss_cons (ps_if (pt_cmpR op_eq (pv 1) pe_int (nomark _)) (pss_one (ps_ret (pe_lst (pa_cons (pe_tup pa_nil) pa_nil)))) pss_nil)
      (pss_cons (ps_set (i := 2) scL4.nd rfl (Or.inl rfl) (pe_lst pa_nil))
      (pss_cons (ps_for PassesOwn.never rfl (pi_range1 rfl N.rng (pa_cons (pe_op op_add (pv 0) pe_int) pa_nil)) (pg_name (i := 3) scL4.nd rfl (Or.inr rfl))
        (pss_one (ps_set (i := 2) scL4.nd rfl (Or.inl rfl) (pe_op op_cat (pv 2) (pe_lc (own := [("_law_rest", 4)]) (g := gName 4) (tt := tYes) (te := tOp (Sm.rCatS K) (tTup (tCons (tVar 3) tNil)) (tVar 4)) (by rfl) scL4.nd (pi_list (C8.pe_c C hr (Nat.le_refl _) rfl (pa_cons (pe_op op_sub (pv 0) (pv 3)) (pa_cons (pe_op op_sub (pv 1) pe_int) pa_nil))))
          (blkOk_by (own := [("_law_rest", 4)]) (N := nmS) (sc := C8.fnScope sSplits) (by decide +kernel)) (fun _ _ _ _ _ => pg_name (i := 4) scL4.nd rfl (Or.inl rfl)) (fun _ _ _ _ _ => pts_nil) (fun _ _ _ _ _ => pe_op Sm.op_catS (pe_tup (pa_cons (pv 3) pa_nil)) (pv 4)))))))
      (pss_one (ps_ret (pv 2))))), ?_⟩
    refine ⟨_, rfl, rfl, _, rfl, ite2 (fun hc => ?_) fun hc => ?_⟩
    · have n0 : n = 0 := by have := V.int.inj (of_decide_eq_true hc); omega
      subst n0
      refine ⟨by decide, fun u hu => ⟨szl (by show 1 ≤ 100000; decide), fun l hl => ?_⟩⟩
      have s1 := same_new (o := .tup []) hu
      have s2 := same_new (o := .lst [.ref u]) hl
      exact k _ l (s1.trans s2) (s1.free hl) ⟨[u], upd_same, .cons (tupT (s2 _ _ upd_same)) .nil⟩
    · have n1 : ∃ n', n = n' + 1 := ⟨n - 1, by
        have : ¬ n = 0 := fun z => hc (by rw [z]; rfl)
        omega⟩
      obtain ⟨n', rfl⟩ := n1
      refine ⟨by decide, fun l hl => ?_⟩
      have en : ((t : Int) + 1).toNat = t + 1 := by omega
      refine ⟨_, rfl, _, _, rfl, rfl, _, rfl, by omega, by omega, for_range (lo := 0) (fun i σ H2 => ∃ (L : Addr) (as : List Addr) (x y : Option V), σ = [some (iV t), some (iV (n' + 1)), some (.ref L), x, y] ∧ Same H H2 ∧ H L = none ∧ H2 L = some (.lst (as.map V.ref)) ∧ HsP K H2 as (preS t n' i)) ?_ ?_ ?_⟩
      · exact ⟨l, [], none, none, rfl, same_new hl, hl, upd_same, .nil⟩
      · rintro i σ H2 hi ⟨L, as, x, y, rfl, s2, hLn, hL, pr⟩
        have hit : i < t + 1 := by omega
        refine ⟨_, rfl, _, rfl, _, rfl, _, _, rfl, rfl, _, rfl, _, _, rfl, rfl, t - i, n', ?_, by omega, by omega, by omega, fun H3 L3 s3 hL3 ⟨as3, ha3, pr3⟩ => ?_⟩
        · show [V.int ((t : Int) - (0 + (i : Int))), V.int (((n' + 1 : Nat) : Int) - 1)] = _
          rw [show (t : Int) - (0 + (i : Int)) = ((t - i : Nat) : Int) by omega, show ((n' + 1 : Nat) : Int) - 1 = (n' : Int) by omega]
        have hlen : (as3.map V.ref).length = (splits (t - i) n').length := by rw [List.length_map]; exact pr3.length
        have hbound : (splits (t - i) n').length ≤ 28561 := splits_le (by omega) (by omega)
        refine ⟨L3, rfl, ⟨_, lstL ha3⟩, fun D hD => lc_list (xs := as3.map V.ref) (CI H3 D (fun j ys H4 => ∃ bs : List Addr, ys = bs.map V.ref ∧ HsP K H4 bs (((splits (t - i) n').take j).map (i :: ·)))) (ci0 hD ⟨[], rfl, .nil⟩) (fun j H4 _ p => lstL (p.1 _ _ ha3)) ?_ ?_⟩
        · rintro j x H4 hj ⟨s4, ys, hys, hyl, bs, rfl, prb⟩
          have hjl : j < 100000 := by have := (List.getElem?_eq_some_iff.mp hj).1; omega
          obtain ⟨c, hh, rfl, hq, hc⟩ := hsp_get (hsp_same s4 pr3) hj
          have hhl : hh.length ≤ 4 := by
            have := (mem_splits.mp (List.mem_of_getElem? hq)).1
            omega
          refine ⟨rfl, ?_⟩
          refine ⟨_, rfl, szl (by show 1 ≤ 100000; decide), fun u hu => ?_⟩
          have s5 := same_new (o := .tup [.int (0 + (i : Int))]) hu
          refine ⟨_, rfl, u, c, _, _, rfl, rfl, tupT upd_same, stT s5 hc, szl (by show 1 + _ ≤ _; rw [List.length_map]; omega), fun p H5 s6 hp => ?_⟩
          refine ci_yes hD hjl s4 hys hyl (s5.trans s6) ⟨bs ++ [p], by rw [List.map_append]; rfl, ?_⟩
          rw [take_snoc hq, List.map_append]
          have hys5 := (s5.trans s6) _ _ hys
          refine hsp_app (hsp_upd hys5 (hsp_same (s5.trans s6) prb)) (.cons (stT_upd hys5 ?_) .nil)
          have e : [V.int (0 + (i : Int))] ++ iVs hh = iVs (i :: hh) := by
            rw [Int.zero_add]
            rfl
          rw [← e]
          exact hp
        · rintro H4 ⟨s4, ys, hys, hyl, bs, rfl, prb⟩
          rw [hlen, List.take_length] at prb
          have hL4 := s4 _ _ (s3 _ _ hL)
          have ll := pr.length
          have lb := prb.length
          rw [List.length_map] at lb
          have hpre : (preS t n' i).length ≤ 13 * 28561 := by
            have h1 := preS_len (splits_len 12 n') t (by omega) i
            have h2 := pow_le (n := n') (by omega)
            have h3 : i * (12 + 1) ^ n' ≤ 13 * 28561 := Nat.mul_le_mul (by omega) h2
            omega
          refine ⟨L, D, _, _, rfl, rfl, hL4, hys, Nat.le_trans (show _ ≤ 1000000 by rw [List.length_map, List.length_map]; omega) (by decide), fun p hp => ?_⟩
          have s5 := same_new (o := .lst (as.map V.ref ++ bs.map V.ref)) hp
          have s05 := (s2.trans s3).trans (s4.trans s5)
          refine ⟨p, as ++ bs, some (.int (0 + (i : Int))), y, ?_, s05, ((s2.trans s3).trans s4).free hp, by rw [upd_same, List.map_append], ?_⟩
          · rfl
          · rw [preS_succ]
            exact hsp_app (hsp_same ((s3.trans s4).trans s5) pr) (hsp_same s5 prb)
      · rintro σ H2 ⟨L, as, x, y, rfl, s2, hLn, hL, pr⟩
        rw [en] at pr
        exact ⟨_, rfl, k H2 L s2 hLn ⟨as, hL, pr⟩⟩
theorem ok_splits {f : Addr} {fd : FuncData} (F : C8.Def K mg "_law_splits" sSplits f fd) (b : Binds K fd ["_law_total", "_law_many"] []) (N : Nm mg) : ∀ n0, Cl0 P w K mg base (n0 + 1) "_law_splits" (spSplits K n0) []
  | 0 => ok_splits0 F b N
  | n0 + 1 => ok_splitsS F b N (ok_splits F b N n0)
end
end Wk
end
section
set_option Elab.async false
set_option linter.all false
set_option autoImplicit false
set_option maxRecDepth 100000
set_option maxHeartbeats 2000000
/-! The law's own helpers: told, holds. -/
namespace Wk
open PySem L2 K46 SlX GenW
theorem ivs_int (h : List Nat) : iVs h = (h.map fun n : Nat => (n : Int)).map V.int := by rw [List.map_map]; rfl
theorem sum_int : ∀ h : List Nat, (h.map fun n : Nat => (n : Int)).sum = (h.sum : Int)
  | [] => rfl
  | x :: r => by
    rw [List.map_cons, List.sum_cons, List.sum_cons, sum_int r]
    omega
theorem kinds_filter : ∀ h : List Nat, (h.filter fun x => decide (0 < x)).length = kinds h
  | [] => rfl
  | x :: r => by
    have ih := kinds_filter r
    rw [List.filter_cons]
    by_cases z : 0 < x
    · rw [if_pos (decide_eq_true z), List.length_cons, ih]
      show _ = (if 0 < x then 1 else 0) + kinds r
      rw [if_pos z]
      omega
    · rw [if_neg (by simpa using z), ih]
      show _ = (if 0 < x then 1 else 0) + kinds r
      rw [if_neg z]
      omega
def IsTop (h : List Nat) (t : Nat) : Prop := t ∈ h ∧ ∀ x ∈ h, x ≤ t
def spTold (K : PySem.W.Frag) : Sp := fun vs H Q _ => ∃ (a : Addr) (h : List Nat), vs = [.ref a] ∧ SqT K H a (iVs h) ∧ h ≠ [] ∧ h.length ≤ 1000 ∧
  ∀ (H' : Hp) (p : Addr) (t : Nat), Same H H' → IsTop h t → H' p = some (.tup [iV h.sum, iV (kinds h), iV t]) → Q (.ref p) H'
/-- what is told of a spread, a tuple of four -/
def TolAt (H : Hp) (p : Addr) (T : Tl) : Prop := ∃ rb db : Addr, H p = some (.tup [iV T.n, .ref rb, .ref db, mV T.most]) ∧ H rb = some (.tup [iV T.r0, iV T.r1]) ∧ H db = some (.tup [iV T.d0, iV T.d1])
theorem tol_same {H H' : Hp} {p : Addr} {T : Tl} (e : Same H H') (h : TolAt H p T) : TolAt H' p T := by
  obtain ⟨rb, db, h1, h2, h3⟩ := h
  exact ⟨rb, db, e _ _ h1, e _ _ h2, e _ _ h3⟩
def spHolds (K : PySem.W.Frag) : Sp := fun vs H Q _ => ∃ (p a : Addr) (T : Tl) (h : List Nat), vs = [.ref p, .ref a] ∧ TolAt H p T ∧ SqT K H a (iVs h) ∧ h ≠ [] ∧ h.length ≤ 1000 ∧ ∀ H' : Hp, Same H H' → Q (.bl (decide (Fits T h))) H'
theorem under_top {m : Option Nat} {h : List Nat} {t : Nat} (e : IsTop h t) : under m h = true ↔ ∀ k, m = some k → t ≤ k := by
  cases m with
  | none =>
    constructor
    · intro _ k z
      cases z
    · intro _
      rfl
  | some k =>
    rw [under_some]
    constructor
    · intro z k' e'
      rw [← Option.some.inj e']
      exact z t e.1
    · intro z x hx
      exact Nat.le_trans (e.2 x hx) (z k rfl)
section
variable {P : Program} {w : World} {K : PySem.W.Frag} {mg : Str → Option Value} {base : Heap}
abbrev sTold : Stmt := topS 29
theorem scL5 : FnScope ["_law_heights_here", "_law_height"] ["_law_heights_here"] (C8.fnScope sTold) := C8.fnScope_by (by decide +kernel)
theorem ok_told {f : Addr} {fd : FuncData} (F : C8.Def K mg "_law_told" sTold f fd) (b : Binds K fd ["_law_heights_here"] []) (N : Nm mg) : Cl0 P w K mg base 1 "_law_told" (spTold K) [] := by
  refine C8.cal0 F b .nil scL5 (fun vs H Q E h => ?_) (fun cdv A outer s H vs Q E hr h => ?_)
  · obtain ⟨a, h, rfl, _⟩ := h
    rfl
  · obtain ⟨a, h, rfl, ha, hne, hl, k⟩ := h
    refine ⟨_, pss_one (ps_ret (pe_tup (pa_cons (pe_callB (Sm.cr_sumT (by rfl)) (by rfl) N.sm (by decide +kernel) (pa_cons (pv 0) pa_nil))
      (pa_cons (pe_callB call_len_seq (by rfl) N.len PySem.boot_len (pa_cons (pe_lc (own := [("_law_height", 1)]) (g := gName 1) (tt := tTest (tOp (rI0 fun i j => .bl (decide (i > j))) (tVar 1) (tC (.int 0)))) (te := tVar 1) (by rfl) scL5.nd (pi_tup (pv 0))
        (blkOk_by (own := [("_law_height", 1)]) (N := ["_law_heights_here", "_law_height"]) (sc := C8.fnScope sTold) (by decide +kernel)) (fun _ _ _ _ _ => pg_name (i := 1) scL5.nd rfl (Or.inl rfl)) (fun _ _ _ _ _ => pts_one (pt_cmpR op_gt (pv 1) pe_int (nomark _))) (fun _ _ _ _ _ => pv 1)) pa_nil))
      (pa_cons (pe_callB (Sm.cr_maxT (by rfl)) (by rfl) N.mx (by decide +kernel) (pa_cons (pv 0) pa_nil)) pa_nil))))), ?_⟩
    have ha' : SqT K H a ((h.map fun n : Nat => (n : Int)).map V.int) := by rw [← ivs_int]; exact ha
    refine ⟨_, rfl, a, _, rfl, ha', ?_⟩
    refine ⟨_, rfl, a, rfl, ⟨_, ha⟩, fun D hD => lc_tup (xs := iVs h) (CI H D (fun i ys _ => ys = iVs ((h.take i).filter fun x => decide (0 < x)))) (ci0 hD rfl) (fun i H3 _ p => stT p.1 ha) ?_ ?_⟩
    · rintro i x H3 hi ⟨s3, ys, hys, hyl, rfl⟩
      have hil : i < 100000 := by
        have := (List.getElem?_eq_some_iff.mp hi).1
        rw [List.length_map] at this
        omega
      obtain ⟨n, hn, rfl⟩ := ivs_get hi
      refine ⟨rfl, _, rfl, _, _, rfl, rfl, _, rfl, ?_⟩
      by_cases z : 0 < n
      · rw [decide_eq_true (show (n : Int) > 0 by omega)]
        refine iteT ⟨_, rfl, ci_yes hD hil s3 hys hyl (Same.refl _) ?_⟩
        rw [take_snoc hn, List.filter_append]
        have e3 : [n].filter (fun x => decide (0 < x)) = [n] := by simp [z]
        rw [e3]
        exact ivs_app _ [n]
      · rw [decide_eq_false (show ¬ (n : Int) > 0 by omega)]
        refine iteF (ci_no s3 hys hyl (Same.refl _) ?_)
        rw [take_snoc hn, List.filter_append]
        have e3 : [n].filter (fun x => decide (0 < x)) = [] := by simp [z]
        rw [e3, List.append_nil]
    · rintro H3 ⟨s3, ys, hys, hyl, rfl⟩
      rw [List.length_map, List.take_length] at hys
      refine ⟨D, _, rfl, .inl (lstL hys), ?_⟩
      refine ⟨_, rfl, a, _, rfl, stT s3 ha', by rw [List.length_map]; exact List.length_pos_iff.mpr hne, fun m hm hle => ?_⟩
      obtain ⟨t, ht, rfl⟩ := List.mem_map.mp hm
      refine ⟨szl (by show 3 ≤ 100000; decide), fun p hp => k _ p t (s3.trans (same_new hp)) ⟨ht, fun x hx => ?_⟩ ?_⟩
      · have := hle (x : Int) (List.mem_map.mpr ⟨x, hx, rfl⟩)
        omega
      · rw [upd_same, sum_int]
        show some (HO.tup [V.int (h.sum : Int), V.int ((iVs (h.filter fun x => decide (0 < x))).length : Int), V.int (t : Int)]) = _
        rw [List.length_map, kinds_filter]
abbrev sHolds : Stmt := topS 30
abbrev nmH : List Str := ["_law_told_here", "_law_heights_here", "_law_size", "_law_rows", "_law_different", "_law_most", "_law_many", "_law_kinds", "_law_top"]
theorem scL6 : FnScope nmH ["_law_told_here", "_law_heights_here"] (C8.fnScope sHolds) := C8.fnScope_by (by decide +kernel)
theorem ok_holds {f : Addr} {fd : FuncData} (F : C8.Def K mg "_law_holds" sHolds f fd) (b : Binds K fd ["_law_told_here", "_law_heights_here"] []) (N : Nm mg) (CT : Cl0 P w K mg base 1 "_law_told" (spTold K) []) : Cl0 P w K mg base 2 "_law_holds" (spHolds K) [] := by
  refine C8.cal0 F b .nil scL6 (fun vs H Q E h => ?_) (fun cdv A outer s H vs Q E hr h => ?_)
  · obtain ⟨p, a, T, h, rfl, _⟩ := h
    rfl
  · obtain ⟨p, a, T, h, rfl, ⟨rb, db, hp, hrb, hdb⟩, ha, hne, hl, k⟩ := h
    refine ⟨_, pss_cons (ps_asg (pv 0) (pg_tup (by rfl) (pgs_cons (pg_name (i := 2) scL6.nd rfl (Or.inl rfl)) (pgs_cons (pg_name (i := 3) scL6.nd rfl (Or.inl rfl)) (pgs_cons (pg_name (i := 4) scL6.nd rfl (Or.inl rfl)) (pgs_cons (pg_name (i := 5) scL6.nd rfl (Or.inl rfl)) pgs_nil))))))
      (pss_cons (ps_asg (C8.pe_c CT hr (by decide) rfl (pa_cons (pv 1) pa_nil)) (pg_tup (by rfl) (pgs_cons (pg_name (i := 6) scL6.nd rfl (Or.inl rfl)) (pgs_cons (pg_name (i := 7) scL6.nd rfl (Or.inl rfl)) (pgs_cons (pg_name (i := 8) scL6.nd rfl (Or.inl rfl)) pgs_nil)))))
      (pss_cons (ps_if (PW.pt (pw_or (pt_cmpR op_ne (pe_callB call_len_seq (by rfl) N.len PySem.boot_len (pa_cons (pv 1) pa_nil)) (pv 2) (nomark _))
          (pw_or (pt_not (pt_chain op_le op_le (pe_ix ix_tup (pv 3) pe_int (fun _ _ => rfl)) (pv 6) (pe_ix ix_tup (pv 3) pe_int (fun _ _ => rfl))))
          (pw_or1 (pt_not (pt_chain op_le op_le (pe_ix ix_tup (pv 4) pe_int (fun _ _ => rfl)) (pv 7) (pe_ix ix_tup (pv 4) pe_int (fun _ _ => rfl)))))))) (pss_one (ps_ret pe_bl)) pss_nil)
      (pss_one (ps_ret (pe_or (pe_cmpR op_isN (pv 5) pe_non (nomark _)) (pe_one (pe_cmpR op_le (pv 8) (pv 5) (nomark _)))))))), ?_⟩
    refine ⟨_, rfl, p, _, rfl, tupT hp, rfl, _, _, rfl, _, _, rfl, _, _, rfl, _, _, rfl, rfl, ?_⟩
    refine ⟨_, rfl, a, h, rfl, ha, hne, hl, fun H1 q t s1 it hq => ?_⟩
    refine ⟨q, _, rfl, tupT hq, rfl, _, _, rfl, _, _, rfl, _, _, rfl, rfl, ?_⟩
    have tr : SqT K H1 rb [iV T.r0, iV T.r1] := tupT (s1 _ _ hrb)
    have td : SqT K H1 db [iV T.d0, iV T.d1] := tupT (s1 _ _ hdb)
    have no : ¬ Fits T h → Q (.bl false) H1 := fun z => by
      have := k H1 s1
      rw [decide_eq_false z] at this
      exact this
    refine ⟨_, rfl, a, _, rfl, .inr (stT s1 ha), _, rfl, rfl, _, rfl, ?_⟩
    rw [List.length_map]
    by_cases c1 : h.length = T.n
    · rw [decide_eq_true (show V.int (h.length : Int) = iV T.n by rw [c1])]
      refine iteF ⟨_, rfl, rb, _, _, _, rfl, rfl, tr, atI0, _, rfl, _, _, rfl, rfl, _, rfl, ?_⟩
      by_cases c2 : T.r0 ≤ h.sum
      · rw [decide_eq_true (show (T.r0 : Int) ≤ (h.sum : Int) by omega)]
        refine iteT ⟨_, rfl, rb, _, _, _, rfl, rfl, tr, atI1, _, _, rfl, rfl, _, rfl, ?_⟩
        by_cases c3 : h.sum ≤ T.r1
        · rw [decide_eq_true (show (h.sum : Int) ≤ (T.r1 : Int) by omega)]
          refine iteF ⟨_, rfl, db, _, _, _, rfl, rfl, td, atI0, _, rfl, _, _, rfl, rfl, _, rfl, ?_⟩
          by_cases c4 : T.d0 ≤ kinds h
          · rw [decide_eq_true (show (T.d0 : Int) ≤ (kinds h : Int) by omega)]
            refine iteT ⟨_, rfl, db, _, _, _, rfl, rfl, td, atI1, _, _, rfl, rfl, _, rfl, ?_⟩
            by_cases c5 : kinds h ≤ T.d1
            · rw [decide_eq_true (show (kinds h : Int) ≤ (T.d1 : Int) by omega)]
              refine iteF ?_
              have fin : Q (.bl (under T.most h)) H1 := by
                have z := k H1 s1
                have e : decide (Fits T h) = under T.most h := by
                  by_cases u : under T.most h = true
                  · rw [u, decide_eq_true ⟨c1, c2, c3, c4, c5, u⟩]
                  · rw [decide_eq_false (fun f => u f.2.2.2.2.2)]
                    cases e : under T.most h with
                    | true => exact absurd e u
                    | false => rfl
                rw [e] at z
                exact z
              have ut := under_top (m := T.most) it
              cases em : T.most with
              | none =>
                rw [em] at fin
                exact ⟨_, rfl, rfl, _, rfl, iteT fin⟩
              | some m =>
                rw [em] at fin ut
                refine ⟨_, rfl, rfl, _, rfl, iteF ⟨_, rfl, _, rfl, _, _, rfl, rfl, ?_⟩⟩
                have e : under (some m) h = decide ((t : Int) ≤ (m : Int)) := by
                  by_cases z : t ≤ m
                  · rw [decide_eq_true (show (t : Int) ≤ (m : Int) by omega)]
                    exact ut.mpr fun k e => by rw [← Option.some.inj e]; exact z
                  · rw [decide_eq_false (show ¬ (t : Int) ≤ (m : Int) by omega)]
                    cases e : under (some m) h with
                    | true => exact absurd (ut.mp e m rfl) z
                    | false => rfl
                rw [e] at fin
                exact fin
            · rw [decide_eq_false (show ¬ (kinds h : Int) ≤ (T.d1 : Int) by omega)]
              exact iteT (no fun f => c5 f.2.2.2.2.1)
          · rw [decide_eq_false (show ¬ (T.d0 : Int) ≤ (kinds h : Int) by omega)]
            exact iteF ⟨_, rfl, iteT (no fun f => c4 f.2.2.2.1)⟩
        · rw [decide_eq_false (show ¬ (h.sum : Int) ≤ (T.r1 : Int) by omega)]
          exact iteT (iteT (no fun f => c3 f.2.2.1))
      · rw [decide_eq_false (show ¬ (T.r0 : Int) ≤ (h.sum : Int) by omega)]
        exact iteF ⟨_, rfl, iteT (iteT (no fun f => c2 f.2.1))⟩
    · rw [decide_eq_false (show ¬ V.int (h.length : Int) = iV T.n from fun z => c1 (by have := V.int.inj z; omega))]
      exact iteT (iteT (no fun f => c1 f.1))
end
end Wk
end
section
set_option Elab.async false
set_option linter.all false
set_option autoImplicit false
set_option maxRecDepth 100000
set_option maxHeartbeats 2000000
/-! The law's own helpers: around, heights. -/
namespace Wk
open PySem L2 K46 SlX GenW
structure Around (T : Tl) (h : List Nat) : Prop where
  n : T.n = h.length
  r0 : T.r0 ≤ h.sum
  r1 : h.sum ≤ T.r1
  r2 : T.r1 ≤ h.sum + 2
  d0 : T.d0 ≤ kinds h
  d1 : kinds h ≤ T.d1
  d2 : T.d1 ≤ kinds h + 1
  mo : T.most = none ∨ ∃ m t, T.most = some m ∧ 1 ≤ m ∧ IsTop h t ∧ t ≤ m ∧ m ≤ max 1 (t + 1)
theorem sbut {s : Addr} {H H' : Hp} (e : Same H H') : But s H H' := fun b o h _ => e b o h
theorem but_tup {H H' : Hp} {s a l : Addr} {xs : List V} (e : But s H H') (st : StA H s l) (h : H a = some (.tup xs)) : H' a = some (.tup xs) := by
  obtain ⟨ns, p, h1, _⟩ := st
  exact e _ _ h (ne_of h h1 fun z => by cases z)
theorem but_T {K : PySem.W.Frag} {H H' : Hp} {s a l : Addr} {xs : List V} (e : But s H H') (st : StA H s l) (h : SqT K H a xs) : SqT K H' a xs := by
  obtain ⟨ns, p, h1, _⟩ := st
  rcases h with (h | ⟨u, h⟩) | h
  · exact .inl (.inl (e _ _ h (ne_of h h1 fun z => by cases z)))
  · exact .inl (.inr ⟨u, e _ _ h (ne_of h h1 fun z => by cases z)⟩)
  · exact .inr h
def spAround (K : PySem.W.Frag) : Sp := fun vs H Q _ => ∃ (s l a : Addr) (h : List Nat), vs = [.ref s, .ref a] ∧ StA H s l ∧ SqT K H a (iVs h) ∧ h ≠ [] ∧ h.length ≤ 1000 ∧
  ∀ (H' : Hp) (p : Addr) (T : Tl), But s H H' → StA H' s l → TolAt H' p T → Around T h → Q (.ref p) H'
section
variable {P : Program} {w : World} {K : PySem.W.Frag} {mg : Str → Option Value} {base : Heap}
abbrev sAround : Stmt := topS 31
abbrev nmA : List Str := ["_law_state", "_law_heights_here", "_law_many", "_law_kinds", "_law_top", "_law_rows", "_law_different"]
theorem scL7 : FnScope nmA ["_law_state", "_law_heights_here"] (C8.fnScope sAround) := C8.fnScope_by (by decide +kernel)
theorem max_nat {a b : Nat} : (if (a : Int) - (b : Int) > 0 then (a : Int) - (b : Int) else 0) = ((a - b : Nat) : Int) := by split <;> omega
theorem ok_around {f : Addr} {fd : FuncData} (F : C8.Def K mg "_law_around" sAround f fd) (b : Binds K fd ["_law_state", "_law_heights_here"] []) (N : Nm mg) (CT : Cl0 P w K mg base 1 "_law_told" (spTold K) []) (CD : Cl0 P w K mg base 1 "_law_draw" spDraw []) : Cl0 P w K mg base 2 "_law_around" (spAround K) [] := by
  refine C8.cal0 F b .nil scL7 (fun vs H Q E h => ?_) (fun cdv A outer s H vs Q E hr h => ?_)
  · obtain ⟨st, l, a, h, rfl, _⟩ := h
    rfl
  · obtain ⟨st, l, a, h, rfl, hst, ha, hne, hl, k⟩ := h
    refine ⟨_, pss_cons (ps_asg (C8.pe_c CT hr (by decide) rfl (pa_cons (pv 1) pa_nil)) (pg_tup (by rfl) (pgs_cons (pg_name (i := 2) scL7.nd rfl (Or.inl rfl)) (pgs_cons (pg_name (i := 3) scL7.nd rfl (Or.inl rfl)) (pgs_cons (pg_name (i := 4) scL7.nd rfl (Or.inl rfl)) pgs_nil)))))
      (pss_cons (ps_set (i := 5) scL7.nd rfl (Or.inl rfl) (pe_tup (pa_cons (pe_callB (call_max2 (by rfl)) (by rfl) N.mx (by decide +kernel) (pa_cons pe_int (pa_cons (pe_op op_sub (pv 2) (C8.pe_c CD hr (by decide) rfl (pa_cons (pv 0) (pa_cons pe_int pa_nil)))) pa_nil)))
        (pa_cons (pe_op op_add (pv 2) (C8.pe_c CD hr (by decide) rfl (pa_cons (pv 0) (pa_cons pe_int pa_nil)))) pa_nil))))
      (pss_cons (ps_set (i := 6) scL7.nd rfl (Or.inl rfl) (pe_tup (pa_cons (pe_callB (call_max2 (by rfl)) (by rfl) N.mx (by decide +kernel) (pa_cons pe_int (pa_cons (pe_op op_sub (pv 3) (C8.pe_c CD hr (by decide) rfl (pa_cons (pv 0) (pa_cons pe_int pa_nil)))) pa_nil)))
        (pa_cons (pe_op op_add (pv 3) (C8.pe_c CD hr (by decide) rfl (pa_cons (pv 0) (pa_cons pe_int pa_nil)))) pa_nil))))
      (pss_one (ps_ret (pe_tup (pa_cons (pe_callB call_len_seq (by rfl) N.len PySem.boot_len (pa_cons (pv 1) pa_nil)) (pa_cons (pv 5) (pa_cons (pv 6) (pa_cons (pe_ifExp (pt_cmpR op_eq (C8.pe_c CD hr (by decide) rfl (pa_cons (pv 0) (pa_cons pe_int pa_nil))) pe_int (nomark _)) pe_non
        (pe_callB (call_max2 (by rfl)) (by rfl) N.mx (by decide +kernel) (pa_cons pe_int (pa_cons (pe_op op_add (pv 4) (C8.pe_c CD hr (by decide) rfl (pa_cons (pv 0) (pa_cons pe_int pa_nil)))) pa_nil)))) pa_nil))))))))), ?_⟩
    refine ⟨_, rfl, a, h, rfl, ha, hne, hl, fun H1 q t s1 it hq => ?_⟩
    refine ⟨q, _, rfl, tupT hq, rfl, _, _, rfl, _, _, rfl, _, _, rfl, rfl, ?_⟩
    have st1 := sta_same s1 hst
    -- rows
    refine ⟨_, rfl, _, rfl, st, l, 3, rfl, st1, by decide, fun H2 r1 hr1 b2 st2 => ⟨_, _, rfl, rfl, _, _, rfl, ?_⟩⟩
    refine ⟨_, rfl, _, rfl, st, l, 3, rfl, st2, by decide, fun H3 r2 hr2 b3 st3 => ⟨_, _, rfl, rfl, szl (by show 2 ≤ 100000; decide), fun rb hrb => ?_⟩⟩
    have s4 := same_new (o := .tup [.int (if (h.sum : Int) - (r1 : Int) > 0 then (h.sum : Int) - (r1 : Int) else 0), .int ((h.sum : Int) + (r2 : Int))]) hrb
    have st4 := sta_same s4 st3
    -- different
    refine ⟨_, rfl, _, rfl, st, l, 2, rfl, st4, by decide, fun H5 r3 hr3 b5 st5 => ⟨_, _, rfl, rfl, _, _, rfl, ?_⟩⟩
    refine ⟨_, rfl, _, rfl, st, l, 2, rfl, st5, by decide, fun H6 r4 hr4 b6 st6 => ⟨_, _, rfl, rfl, szl (by show 2 ≤ 100000; decide), fun db hdb => ?_⟩⟩
    have s7 := same_new (o := .tup [.int (if (kinds h : Int) - (r3 : Int) > 0 then (kinds h : Int) - (r3 : Int) else 0), .int ((kinds h : Int) + (r4 : Int))]) hdb
    have st7 := sta_same s7 st6
    have a3 : SqT K H3 a (iVs h) := but_T b3 st2 (but_T b2 st1 (stT s1 ha))
    have a7 := stT s7 (but_T b6 st5 (but_T b5 st4 (stT s4 a3)))
    refine ⟨_, rfl, a, _, rfl, .inr a7, ?_⟩
    have hrb7 : ∀ {H' : Hp}, But st H6 H' → H' rb = some (.tup [iV (h.sum - r1), iV (h.sum + r2)]) := fun e => by
      have q := but_tup e st6 (but_tup b6 st5 (but_tup b5 st4 upd_same))
      rw [q, max_nat]
      exact congrArg (fun z => some (HO.tup [iV (h.sum - r1), V.int z])) (by omega)
    have hdb7 : (upd H6 db (.tup [.int (if (kinds h : Int) - (r3 : Int) > 0 then (kinds h : Int) - (r3 : Int) else 0), .int ((kinds h : Int) + (r4 : Int))])) db = some (.tup [iV (kinds h - r3), iV (kinds h + r4)]) := by
      rw [upd_same, max_nat]
      exact congrArg (fun z => some (HO.tup [iV (kinds h - r3), V.int z])) (by omega)
    have b17 : But st H (upd H6 db (.tup [.int (if (kinds h : Int) - (r3 : Int) > 0 then (kinds h : Int) - (r3 : Int) else 0), .int ((kinds h : Int) + (r4 : Int))])) := (((sbut s1).trans (b2.trans b3)).trans ((sbut s4).trans (b5.trans b6))).trans (sbut s7)
    refine ⟨_, rfl, _, rfl, _, rfl, st, l, 3, rfl, st7, by decide, fun H8 r5 hr5 b8 st8 => ⟨rfl, _, rfl, ite2 (fun hc => ?_) fun hc => ?_⟩⟩
    · refine ⟨szl (by show 4 ≤ 100000; decide), fun p hp => ?_⟩
      have s9 := same_new (o := .tup [.int ((iVs h).length : Int), .ref rb, .ref db, .non]) hp
      refine k _ p ⟨h.length, h.sum - r1, h.sum + r2, kinds h - r3, kinds h + r4, none⟩ ((b17.trans b8).trans (sbut s9)) (sta_same s9 st8) ⟨rb, db, ?_, s9 _ _ (hrb7 ((sbut s7).trans b8)), s9 _ _ (but_tup b8 st7 hdb7)⟩ ⟨rfl, by show h.sum - r1 ≤ _; omega, by show _ ≤ h.sum + r2; omega, by show h.sum + r2 ≤ _; omega, by show kinds h - r3 ≤ _; omega, by show _ ≤ kinds h + r4; omega, by show kinds h + r4 ≤ _; omega, .inl rfl⟩
      rw [upd_same]
      show some (HO.tup [V.int ((iVs h).length : Int), .ref rb, .ref db, .non]) = some (HO.tup [iV h.length, .ref rb, .ref db, .non])
      rw [List.length_map]
    · refine ⟨_, rfl, _, rfl, st, l, 2, rfl, st8, by decide, fun H9 r6 hr6 b9 st9 => ⟨_, _, rfl, rfl, _, _, rfl, ?_⟩⟩
      refine ⟨szl (by show 4 ≤ 100000; decide), fun p hp => ?_⟩
      have s10 := same_new (o := .tup [.int ((iVs h).length : Int), .ref rb, .ref db, .int (if (t : Int) + (r6 : Int) > 1 then (t : Int) + (r6 : Int) else 1)]) hp
      refine k _ p ⟨h.length, h.sum - r1, h.sum + r2, kinds h - r3, kinds h + r4, some (max 1 (t + r6))⟩ ((b17.trans (b8.trans b9)).trans (sbut s10)) (sta_same s10 st9) ⟨rb, db, ?_, s10 _ _ (hrb7 ((sbut s7).trans (b8.trans b9))), s10 _ _ (but_tup b9 st8 (but_tup b8 st7 hdb7))⟩ ⟨rfl, by show h.sum - r1 ≤ _; omega, by show _ ≤ h.sum + r2; omega, by show h.sum + r2 ≤ _; omega, by show kinds h - r3 ≤ _; omega, by show _ ≤ kinds h + r4; omega, by show kinds h + r4 ≤ _; omega, .inr ⟨_, t, rfl, by omega, it, by omega, by omega⟩⟩
      rw [upd_same]
      show some (HO.tup [V.int ((iVs h).length : Int), .ref rb, .ref db, V.int (if (t : Int) + (r6 : Int) > 1 then (t : Int) + (r6 : Int) else 1)]) = some (HO.tup [iV h.length, .ref rb, .ref db, iV (max 1 (t + r6))])
      rw [List.length_map, show (if (t : Int) + (r6 : Int) > 1 then (t : Int) + (r6 : Int) else 1) = ((max 1 (t + r6) : Nat) : Int) by split <;> omega]
end
end Wk
end
section
set_option Elab.async false
set_option linter.all false
set_option autoImplicit false
set_option maxRecDepth 100000
set_option maxHeartbeats 2000000
/-! The law's own helpers: heights drawn. -/
namespace Wk
open PySem L2 K46 SlX GenW
def spHeights (K : PySem.W.Frag) : Sp := fun vs H Q _ => ∃ (s l : Addr) (n m : Nat), vs = [.ref s, iV n, iV m] ∧ StA H s l ∧ n ≤ 100 ∧
  ∀ (H' : Hp) (p : Addr) (h : List Nat), But s H H' → StA H' s l → H' p = some (.tup (iVs h)) → h.length = n → (∀ x ∈ h, x ≤ m) → Q (.ref p) H'
section
variable {P : Program} {w : World} {K : PySem.W.Frag} {mg : Str → Option Value} {base : Heap}
abbrev sHeights : Stmt := topS 32
abbrev nmE : List Str := ["_law_state", "_law_size", "_law_most", "_law_value"]
theorem scL8 : FnScope nmE ["_law_state", "_law_size", "_law_most"] (C8.fnScope sHeights) := C8.fnScope_by (by decide +kernel)
theorem ok_heights {f : Addr} {fd : FuncData} (F : C8.Def K mg "_law_heights" sHeights f fd) (b : Binds K fd ["_law_state", "_law_size", "_law_most"] []) (N : Nm mg) (CD : Cl0 P w K mg base 1 "_law_draw" spDraw []) : Cl0 P w K mg base 3 "_law_heights" (spHeights K) [] := by
  refine C8.cal0 F b .nil scL8 (fun vs H Q E h => ?_) (fun cdv A outer s H vs Q E hr h => ?_)
  · obtain ⟨st, l, n, m, rfl, _⟩ := h
    rfl
  · obtain ⟨st, l, n, m, rfl, hst, hn, k⟩ := h
    refine ⟨_, pss_one (ps_ret (pe_callTy call_tuple_of (by rfl) N.tup (by decide +kernel) (pa_cons (pe_lc (own := [("_law_value", 3)]) (g := gName 3) (tt := tYes)
      (te := tCB rMax2 (tCons (tC (.int 0)) (tCons (tOp (rI0 fun i j => .int (i - j)) (tCall spDraw [] C8.E0 (tCons (tVar 0) (tCons (tOp (rI0 fun i j => .int (i + j)) (tVar 2) (tC (.int 2))) tNil))) (tC (.int 1))) tNil))) (by rfl) scL8.nd (pi_range1 rfl N.rng (pa_cons (pv 1) pa_nil))
      (blkOk_by (own := [("_law_value", 3)]) (N := nmE) (sc := C8.fnScope sHeights) (by decide +kernel)) (fun _ _ _ _ _ => pg_name (i := 3) scL8.nd rfl (Or.inl rfl)) (fun _ _ _ _ _ => pts_nil)
      (fun _ _ _ _ _ => pe_callB (call_max2 (by rfl)) (by rfl) N.mx (by decide +kernel) (pa_cons pe_int (pa_cons (pe_op op_sub (C8.pe_c (j := 2) CD hr (by decide) rfl (pa_cons (pv 0) (pa_cons (pe_op op_add (pv 2) pe_int) pa_nil))) pe_int) pa_nil)))) pa_nil))), ?_⟩
    refine ⟨_, rfl, _, rfl, by omega, by omega, fun D hD => ?_⟩
    have nDs : D ≠ st := by
      obtain ⟨ns, p, h1, _⟩ := hst
      exact Ne.symm (ne_of_none h1 hD)
    have nDl : l ≠ D := by
      obtain ⟨ns, p, _, h2, _⟩ := hst
      exact ne_of_none h2 hD
    refine lc_range (lo := 0) (n := n) (fun i H' => But st H H' ∧ StA H' st l ∧ ∃ hs : List Nat, H' D = some (.lst (iVs hs)) ∧ hs.length = i ∧ ∀ x ∈ hs, x ≤ m) ⟨sbut (same_new hD), sta_same (same_new hD) hst, [], upd_same, rfl, fun x hx => by cases hx⟩ ?_ ?_
    · rintro i H' hi ⟨b1, st1, hs, hL, hl, hle⟩
      refine ⟨rfl, ?_⟩
      refine ⟨_, rfl, _, rfl, _, _, rfl, rfl, st, l, m + 2, rfl, st1, by omega, fun H2 r hr2 b2 st2 => ⟨_, _, rfl, rfl, _, _, rfl, ?_⟩⟩
      have hL2 := b2 _ _ hL nDs
      refine ⟨_, hL2, szlt (by rw [List.length_map]; omega), fun b o e ne => ?_, ?_, hs ++ [r - 1], ?_, by rw [List.length_append, hl]; rfl, fun x hx => ?_⟩
      · rw [upd_ne (ne_of_none e hD)]
        exact b2 _ _ (b1 _ _ e ne) ne
      · obtain ⟨ns, p, h1, h2, h3⟩ := st2
        exact ⟨ns, p, by rw [upd_ne (Ne.symm nDs)]; exact h1, by rw [upd_ne nDl]; exact h2, h3⟩
      · rw [upd_same]
        exact congrArg (fun q => some (HO.lst q)) (ivs_snoc (by show (if (r : Int) - 1 > 0 then (r : Int) - 1 else 0) = _; split <;> omega))
      · rcases List.mem_append.mp hx with hx | hx
        · exact hle x hx
        · rw [List.mem_singleton] at hx
          omega
    · rintro H' ⟨b1, st1, hs, hL, hl, hle⟩
      exact ⟨D, _, rfl, .inl ⟨lstL hL, fun p hp => k _ p hs (b1.trans (sbut (same_new hp))) (sta_same (same_new hp) st1) upd_same hl hle⟩⟩
end
end Wk
end
section
set_option Elab.async false
set_option linter.all false
set_option autoImplicit false
set_option maxRecDepth 100000
set_option maxHeartbeats 2000000
/-! The law's own helpers: made, sorted only. -/
namespace Wk
open PySem L2 K46 SlX GenW
/-- Spread(..): the class and its __init__ -/
structure MkC (P : Program) (w : World) (K : PySem.W.Frag) (mg : Str → Option Value) (base : Heap) (C : Addr) : Prop where
  ex : ∃ (f : Addr) (fd : FuncData) (tk : Value), Mk K C f ∧ FnOk P w K mg base CX0 4 f fd ["self", "size", "rows", "different", "most"] (spInit C) ∧ Binds K fd ["self", "size", "rows", "different", "most"] [] ∧ Binds K fd ["self", "size", "rows", "different", "most"] [Value.none]
def spMade (C : Addr) : Sp := fun vs H Q _ => ∃ (p : Addr) (T : Tl), vs = [.ref p] ∧ TolAt H p T ∧ Fine T ∧ ∀ (H' : Hp) (a : Addr), Same H H' → SprAt C H' a T → Q (.ref a) H'
theorem spr_of {C : Addr} {H H' : Hp} {a dx : Addr} {T : Tl} (h : SprD C H a dx T) : SprAt C H a T := ⟨dx, h⟩
section
variable {P : Program} {w : World} {K : PySem.W.Frag} {mg : Str → Option Value} {base : Heap}
/-- what __init__ asks of a call of the class -/
theorem init_call {C x dx rb db : Addr} {T : Tl} {H : Hp} {Q : VK} {E : XK} (hx : H x = none) (hd : H dx = none) (ne : dx ≠ x) (h1 : H rb = some (.tup [iV T.r0, iV T.r1])) (h2 : H db = some (.tup [iV T.d0, iV T.d1])) (fn : Fine T) (q : ∀ H', Same H H' → SprAt C H' x T → Q .non H') :
    spInit C (V.ref x :: [iV T.n, .ref rb, .ref db, mV T.most]) (upd (upd H dx (.own x)) x (.ins C dx [])) Q E := by
  have s : Same H (upd (upd H dx (.own x)) x (.ins C dx [])) := same_upd (same_new hd) hx
  refine ⟨x, dx, rb, db, T, rfl, upd_same, by rw [upd_ne ne, upd_same], Ne.symm ne, s _ _ h1, s _ _ h2, fn, fun H' hs k => q H' (fun b o e => k b o (s _ _ e) (ne_of_none e hx) (ne_of_none e hd)) ⟨dx, hs⟩⟩
abbrev sMade : Stmt := topS 33
theorem scL9 : FnScope ["_law_told_here"] ["_law_told_here"] (C8.fnScope sMade) := C8.fnScope_by (by decide +kernel)
theorem ok_made {f C : Addr} {fd : FuncData} (F : C8.Def K mg "_law_made" sMade f fd) (b : Binds K fd ["_law_told_here"] []) (T : SpC K mg C) (M : MkC P w K mg base C) : Cl0 P w K mg base 6 "_law_made" (spMade C) [] := by
  refine C8.cal0 F b .nil scL9 (fun vs H Q E h => ?_) (fun cdv A outer s H vs Q E hr h => ?_)
  · obtain ⟨p, U, rfl, _⟩ := h
    rfl
  · obtain ⟨p, U, rfl, ⟨rb, db, h1, h2, h3⟩, fn, k⟩ := h
    obtain ⟨g, fdg, tk, m1, F1, b1, _⟩ := M.ex
    have tp := tupT (K := K) h1
    refine ⟨_, pss_one (ps_ret (StX.pe_makeR m1 (fnr_of F1 b1) (hr.mono (by decide)) rfl T.mg pass0 (pa_cons (pe_ix ix_tup (pv 0) pe_int (fun _ _ => rfl)) (pa_cons (pe_ix ix_tup (pv 0) pe_int (fun _ _ => rfl)) (pa_cons (pe_ix ix_tup (pv 0) pe_int (fun _ _ => rfl)) (pa_cons (pe_ix ix_tup (pv 0) pe_int (fun _ _ => rfl)) pa_nil)))))), ?_⟩
    refine ⟨_, rfl, p, _, _, _, rfl, rfl, tp, atI0, _, rfl, p, _, _, _, rfl, rfl, tp, atI1, _, rfl, p, _, _, _, rfl, rfl, tp, atI2, _, rfl, p, _, _, _, rfl, rfl, tp, atI3, ?_⟩
    intro x dx hx hd ne
    exact init_call hx hd ne h2 h3 fn fun H' s q => ⟨rfl, k H' x s q⟩
/-! ### sorted only -/
theorem sortedD_iff : ∀ h : List Nat, sortedD h = true ↔ h.Pairwise (fun a b => b ≤ a)
  | [] => by simp [sortedD]
  | [x] => by simp [sortedD]
  | x :: y :: r => by
    have ih := sortedD_iff (y :: r)
    constructor
    · intro h
      simp only [sortedD, Bool.and_eq_true, decide_eq_true_eq] at h
      have p := ih.mp h.2
      rw [List.pairwise_cons]
      refine ⟨fun z hz => ?_, p⟩
      rcases List.mem_cons.mp hz with rfl | hz
      · exact h.1
      · exact Nat.le_trans ((List.pairwise_cons.mp p).1 z hz) h.1
    · intro h
      obtain ⟨h1, h2⟩ := List.pairwise_cons.mp h
      simp only [sortedD, Bool.and_eq_true, decide_eq_true_eq]
      exact ⟨h1 y List.mem_cons_self, ih.mpr h2⟩
/-- a list is its own order, from the top, just when it falls -/
theorem sorted_eq {ns : List Int} {h : List Nat} (p : ns.Perm (h.map fun n : Nat => (n : Int))) (s : ns.Pairwise (· ≥ ·)) : ns = (h.map fun n : Nat => (n : Int)) ↔ sortedD h = true := by
  rw [sortedD_iff]
  constructor
  · intro e
    rw [e, List.pairwise_map] at s
    exact s.imp fun h => by omega
  · intro q
    have q' : (h.map fun n : Nat => (n : Int)).Pairwise (· ≥ ·) := by
      rw [List.pairwise_map]
      exact q.imp fun h => by omega
    exact p.eq_of_pairwise (fun a b _ _ h1 h2 => by omega) s q'
theorem dp_ints {K : PySem.W.Frag} {H : Hp} : ∀ ns : List Int, DpAll K H (ns.map V.int) (ns.map PyData.int)
  | [] => .nil
  | n :: r => .cons (.int n) (dp_ints r)
theorem lay_ints : ∀ ns : List Int, PyData.canLayAll0 (ns.map PyData.int) = true
  | [] => by simp [PyData.canLayAll0]
  | n :: r => by simp [PyData.canLayAll0, PyData.canLay0, lay_ints r]
theorem depth_ints : ∀ ns : List Int, PyData.depthAll (ns.map PyData.int) = 0
  | [] => by simp [PyData.depthAll]
  | n :: r => by simp [PyData.depthAll, PyData.depth, depth_ints r]
theorem shaped_ints (ns : List Int) : SeqAt.shaped (.list (ns.map PyData.int)) = true := by
  have h2 : PyData.depth (.list (ns.map PyData.int)) ≤ 64 := by
    simp only [PyData.depth, depth_ints]
    omega
  show (PyData.canLay0 (.list (ns.map PyData.int)) && decide (PyData.depth (.list (ns.map PyData.int)) ≤ 64)) = true
  rw [Bool.and_eq_true]
  exact ⟨by simp only [PyData.canLay0]; exact lay_ints ns, decide_eq_true h2⟩
theorem eqv_ints : ∀ ns ms : List Int, PyData.eqvAll (ns.map PyData.int) (ms.map PyData.int) = decide (ns = ms)
  | [], [] => by simp [PyData.eqvAll]
  | [], m :: ms => by simp [PyData.eqvAll]
  | n :: ns, [] => by simp [PyData.eqvAll]
  | n :: ns, m :: ms => by
    have ih := eqv_ints ns ms
    simp only [List.map_cons, PyData.eqvAll, PyData.eqv, ih, List.cons.injEq, Bool.decide_and]
    congr 1
def spSorted (K : PySem.W.Frag) : Sp := fun vs H Q _ => ∃ (a : Addr) (l : List (List Nat)), vs = [.ref a] ∧ HsAt K H a l ∧ l.length ≤ 28561 ∧ ∀ (H' : Hp) (L : Addr), Same H H' → H L = none → HsAt K H' L (l.filter fun h => sortedD h) → Q (.ref L) H'
abbrev rListOf (K : PySem.W.Frag) : List V → Hp → VK → Prop := fun xs H Q => ∃ p ys, xs = [.ref p] ∧ (SqL K H p ys ∨ SqT K H p ys) ∧ ∀ l, H l = none → Q (.ref l) (upd H l (.lst ys))
abbrev sSorted : Stmt := topS 34
abbrev nmO : List Str := ["_law_some", "_law_heights_here"]
theorem scL10 : FnScope nmO ["_law_some"] (C8.fnScope sSorted) := C8.fnScope_by (by decide +kernel)
theorem ok_sorted {f : Addr} {fd : FuncData} (F : C8.Def K mg "_law_sorted_only" sSorted f fd) (b : Binds K fd ["_law_some"] []) (N : Nm mg) : Cl0 P w K mg base 1 "_law_sorted_only" (spSorted K) [] := by
  refine C8.cal0 F b .nil scL10 (fun vs H Q E h => ?_) (fun cdv A outer s H vs Q E hr h => ?_)
  · obtain ⟨a, l, rfl, _⟩ := h
    rfl
  · obtain ⟨a, l, rfl, ⟨as, ha, pr⟩, hl, k⟩ := h
    refine ⟨_, pss_one (ps_ret (pe_lc (own := [("_law_heights_here", 1)]) (g := gName 1) (tt := tTest (tOp (rEqD K) (tCB (rListOf K) (tCons (tVar 1) tNil)) (tCKw (Sm.rSortedTR K) (tCons (tVar 1) tNil) (tCons (tC (.bl true)) tNil)))) (te := tVar 1) (by rfl) scL10.nd (pi_list (pv 0))
      (blkOk_by (own := [("_law_heights_here", 1)]) (N := nmO) (sc := C8.fnScope sSorted) (by decide +kernel)) (fun _ _ _ _ _ => pg_name (i := 1) scL10.nd rfl (Or.inl rfl))
      (fun _ _ _ _ _ => pts_one (pt_cmpR (op_eqD hr.units) (pe_callTy call_list_of (by rfl) N.lst (by decide +kernel) (pa_cons (pv 1) pa_nil)) (pe_callBK Sm.cr_sortedTR (by rfl) N.srt (by decide +kernel) (pa_cons (pv 1) pa_nil) (pk_cons pe_bl pk_nil)) (nomark _))) (fun _ _ _ _ _ => pv 1))), ?_⟩
    have hlen : (as.map V.ref).length = l.length := by rw [List.length_map]; exact pr.length
    refine ⟨_, rfl, a, rfl, ⟨_, lstL ha⟩, fun D hD => lc_list (xs := as.map V.ref) (CI H D (fun i ys H3 => ∃ bs : List Addr, ys = bs.map V.ref ∧ HsP K H3 bs ((l.take i).filter fun h => sortedD h))) (ci0 hD ⟨[], rfl, .nil⟩) (fun i H3 _ p => lstL (p.1 _ _ ha)) ?_ ?_⟩
    · rintro i x H3 hi ⟨s3, ys, hys, hyl, bs, rfl, prb⟩
      have hil : i < 100000 := by have := (List.getElem?_eq_some_iff.mp hi).1; omega
      obtain ⟨c, h, rfl, hq, hc⟩ := hsp_get (hsp_same s3 pr) hi
      refine ⟨rfl, ?_⟩
      refine ⟨_, rfl, c, _, rfl, .inr hc, fun u hu => ?_⟩
      have s4 := same_new (o := .lst (iVs h)) hu
      have hc' : SqT K (upd H3 u (.lst (iVs h))) c ((h.map fun n : Nat => (n : Int)).map V.int) := by rw [← ivs_int]; exact stT s4 hc
      refine ⟨_, rfl, c, _, rfl, rfl, hc', fun ns p pm ps hp => ?_⟩
      have s5 := same_new (o := .lst (ns.map V.int)) hp
      have d1 : Dp K (upd (upd H3 u (.lst (iVs h))) p (.lst (ns.map V.int))) (.ref u) (.list ((h.map fun n : Nat => (n : Int)).map PyData.int)) := by
        refine .lst (lstL (s5 _ _ upd_same)) ?_
        rw [ivs_int]
        exact dp_ints _
      have d2 : Dp K (upd (upd H3 u (.lst (iVs h))) p (.lst (ns.map V.int))) (.ref p) (.list (ns.map PyData.int)) := .lst (lstL upd_same) (dp_ints _)
      refine ⟨_, _, d1, d2, shaped_ints _, shaped_ints _, _, rfl, ?_⟩
      have ev : PyData.eqv (.list ((h.map fun n : Nat => (n : Int)).map PyData.int)) (.list (ns.map PyData.int)) = sortedD h := by
        have e1 : PyData.eqv (.list ((h.map fun n : Nat => (n : Int)).map PyData.int)) (.list (ns.map PyData.int)) = PyData.eqvAll ((h.map fun n : Nat => (n : Int)).map PyData.int) (ns.map PyData.int) := by simp only [PyData.eqv]
        rw [e1, eqv_ints]
        have z := sorted_eq pm ps
        by_cases q : sortedD h = true
        · rw [q, decide_eq_true (z.mpr q).symm]
        · rw [decide_eq_false (fun e => q (z.mp e.symm))]
          cases e : sortedD h with
          | true => exact absurd e q
          | false => rfl
      rw [ev]
      have s45 := s4.trans s5
      have hys5 := s45 _ _ hys
      cases eq : sortedD h with
      | true =>
        refine iteT ⟨_, rfl, ci_yes hD hil s3 hys hyl s45 ⟨bs ++ [c], by rw [List.map_append]; rfl, ?_⟩⟩
        rw [take_snoc hq, List.filter_append]
        have e3 : [h].filter (fun h => sortedD h) = [h] := by simp [eq]
        rw [e3]
        exact hsp_app (hsp_upd hys5 (hsp_same s45 prb)) (.cons (stT_upd hys5 (stT s45 hc)) .nil)
      | false =>
        refine iteF (ci_no s3 hys hyl s45 ⟨bs, rfl, ?_⟩)
        rw [take_snoc hq, List.filter_append]
        have e3 : [h].filter (fun h => sortedD h) = [] := by simp [eq]
        rw [e3, List.append_nil]
        exact hsp_same s45 prb
    · rintro H3 ⟨s3, ys, hys, hyl, bs, rfl, prb⟩
      rw [hlen, List.take_length] at prb
      exact k H3 D s3 hD ⟨bs, hys, prb⟩
end
end Wk
end
section
set_option Elab.async false
set_option linter.all false
set_option autoImplicit false
set_option maxRecDepth 100000
set_option maxHeartbeats 2000000
/-! The law's own helpers: products by a comprehension over zip. -/
namespace Wk
open PySem L2 K46 SlX GenW RZ
theorem lc_zipT {K : PySem.W.Frag} {a b : Addr} {xs ys : List V} {g : TG} {tt : TT} {te : TE} {vs : List Nat} {σ : L2.St} {H1 : Hp} {D : Addr} {Qd : Hp → Prop} (hl : xs.length = ys.length) (Pv : Nat → Hp → Prop) (h0 : Pv 0 (upd H1 D (.lst []))) (hq : ∀ i H, Pv i H → SqT K H a xs ∧ SqT K H b ys)
    (hs : ∀ (i : Nat) (x y : V) (T : Addr) (H : Hp), xs[i]? = some x → ys[i]? = some y → Pv i H → H T = none → g (.ref T) (wipe σ vs) (upd H T (.tup [x, y])) fun σ2 H2 => wipe σ2 vs = wipe σ vs ∧ tt σ2 H2 fun b H3 =>
      if b = true then te σ2 H3 fun y H4 => ∃ acc, H4 D = some (.lst acc) ∧ acc.length < sizeLine ∧ Pv (i + 1) (upd H4 D (.lst (acc ++ [y]))) else Pv (i + 1) H3) (hd : ∀ H, Pv xs.length H → Qd H) :
    ∃ W : Nat → Nat → Hp → Prop, (∃ m, W 0 m (upd H1 D (.lst []))) ∧ ∀ i m H, W i m H →
      ((ItzT K a b).stop i H ∧ Qd H) ∨ ((ItzT K a b).go i H ∧ ∃ Nx : Hp → Prop, (∀ H', Nx H' → ∃ m', m' < m ∧ W (i + 1) m' H') ∧ ∀ x H', (ItzT K a b).yld i H x H' → g x (wipe σ vs) H' fun σ2 H2 => wipe σ2 vs = wipe σ vs ∧ tt σ2 H2 fun b H3 =>
        if b = true then te σ2 H3 fun y H4 => ∃ acc, H4 D = some (.lst acc) ∧ acc.length < sizeLine ∧ Nx (upd H4 D (.lst (acc ++ [y]))) else Nx H3) := by
  refine ⟨fun i m H => m = xs.length - i ∧ i ≤ xs.length ∧ Pv i H, ⟨xs.length, rfl, Nat.zero_le _, h0⟩, ?_⟩
  rintro i m H ⟨rfl, hi, p⟩
  obtain ⟨qx, qy⟩ := hq i H p
  by_cases hlt : i < xs.length
  · have hx : xs[i]? = some xs[i] := List.getElem?_eq_getElem hlt
    have hlt2 : i < ys.length := by omega
    have hy : ys[i]? = some ys[i] := List.getElem?_eq_getElem hlt2
    refine .inr ⟨⟨xs, ys, _, _, qx, qy, hx, hy⟩, Pv (i + 1), fun H' p' => ⟨xs.length - (i + 1), by omega, rfl, hlt, p'⟩, fun v H' y => ?_⟩
    obtain ⟨T, x', y', rfl, hT, rfl, f1, f2⟩ := y
    exact hs i x' y' T H (f1 xs qx) (f2 ys qy) p hT
  · have e : i = xs.length := by omega
    subst e
    exact .inl ⟨⟨xs, ys, qx, qy, Or.inl (Nat.le_refl _)⟩, hd H p⟩
def prI (xs ys : List Nat) : List Int := List.zipWith (fun x y : Nat => ((x * y : Nat) : Int)) xs ys
theorem prI_sum : ∀ xs ys : List Nat, (prI xs ys).sum = ((dot xs ys : Nat) : Int)
  | [], ys => by simp [prI, dot]
  | x :: xs, [] => by simp [prI, dot]
  | x :: xs, y :: ys => by
    have ih := prI_sum xs ys
    show (((x * y : Nat) : Int) :: prI xs ys).sum = ((x * y + dot xs ys : Nat) : Int)
    rw [List.sum_cons, ih]
    omega
theorem prI_snoc {xs ys : List Nat} {i x y : Nat} (hx : xs[i]? = some x) (hy : ys[i]? = some y) : prI (xs.take (i + 1)) (ys.take (i + 1)) = prI (xs.take i) (ys.take i) ++ [((x * y : Nat) : Int)] := by
  have lx := (List.getElem?_eq_some_iff.mp hx).1
  have ly := (List.getElem?_eq_some_iff.mp hy).1
  rw [take_snoc hx, take_snoc hy]
  unfold prI
  rw [List.zipWith_append (by rw [List.length_take, List.length_take]; omega)]
  rfl
/-- [x * y for x, y in zip(a, b)], its walk: the names in slots i, j -/
theorem zip_in {K : PySem.W.Frag} {a b : Addr} {xs ys : List Nat} {σ : L2.St} {H1 : Hp} {i j : Nat} {Qd : Addr → Hp → Prop} (ha : SqT K H1 a (iVs xs)) (hb : SqT K H1 b (iVs ys)) (hl : xs.length = ys.length) (hz : xs.length ≤ 1000) (hx : ∀ x ∈ xs, x < 2 ^ 64)
    (w1 : ∀ x y : V, wipe (((wipe σ [i, j]).set i (some x)).set j (some y)) [i, j] = wipe σ [i, j]) (w2 : ∀ x y : V, (((wipe σ [i, j]).set i (some x)).set j (some y))[i]? = some (some x)) (w3 : ∀ x y : V, (((wipe σ [i, j]).set i (some x)).set j (some y))[j]? = some (some y))
    (hd : ∀ D H', Same H1 H' → H' D = some (.lst ((prI xs ys).map V.int)) → Qd D H') :
    ∀ D, H1 D = none → ∃ W : Nat → Nat → Hp → Prop, (∃ m, W 0 m (upd H1 D (.lst []))) ∧ ∀ k m H, W k m H →
      ((ItzT K a b).stop k H ∧ Qd D H) ∨ ((ItzT K a b).go k H ∧ ∃ Nx : Hp → Prop, (∀ H', Nx H' → ∃ m', m' < m ∧ W (k + 1) m' H') ∧ ∀ x H', (ItzT K a b).yld k H x H' → (gTup K 2 (gCons (gName i) (gCons (gName j) gNil))) x (wipe σ [i, j]) H' fun σ2 H2 => wipe σ2 [i, j] = wipe σ [i, j] ∧ tYes σ2 H2 fun b H3 =>
        if b = true then (tOp (rI CMul fun i j => .int (i * j)) (tVar i) (tVar j)) σ2 H3 fun y H4 => ∃ acc, H4 D = some (.lst acc) ∧ acc.length < sizeLine ∧ Nx (upd H4 D (.lst (acc ++ [y]))) else Nx H3) := by
  intro D hD
  refine lc_zipT (xs := iVs xs) (ys := iVs ys) (by rw [List.length_map, List.length_map]; exact hl) (CI H1 D (fun k zs _ => zs = (prI (xs.take k) (ys.take k)).map V.int)) (ci0 hD rfl) (fun k H p => ⟨stT p.1 ha, stT p.1 hb⟩) ?_ ?_
  · rintro k u v T H hu hv ⟨s1, zs, hzs, hzl, rfl⟩ hT
    obtain ⟨x, hxk, rfl⟩ := ivs_get hu
    obtain ⟨y, hyk, rfl⟩ := ivs_get hv
    have hk : k < 100000 := by
      have := (List.getElem?_eq_some_iff.mp hxk).1
      omega
    have s2 := same_new (o := .tup [iV x, iV y]) hT
    refine ⟨T, _, rfl, tupT upd_same, rfl, _, _, rfl, _, _, rfl, rfl, w1 _ _, ?_⟩
    refine ⟨_, w2 _ _, _, w3 _ _, _, _, rfl, rfl, .inl ⟨by omega, by have := hx x (List.mem_of_getElem? hxk); omega⟩, ?_⟩
    refine ci_yes hD hk s1 hzs hzl s2 ?_
    rw [prI_snoc hxk hyk, ← imap_snoc]
    exact congrArg (fun z => List.map V.int (prI (xs.take k) (ys.take k)) ++ [V.int z]) (Int.natCast_mul x y).symm
  · rintro H ⟨s1, zs, hzs, hzl, rfl⟩
    have e1 : (iVs xs).length = xs.length := List.length_map ..
    have e2 : (iVs xs).length = ys.length := e1.trans hl
    refine hd D H s1 ?_
    rw [hzs]
    rw [show xs.take (iVs xs).length = xs by rw [e1, List.take_length], show ys.take (iVs xs).length = ys by rw [e2, List.take_length]]
end Wk
end
section
set_option Elab.async false
set_option linter.all false
set_option autoImplicit false
set_option maxRecDepth 100000
set_option maxHeartbeats 2000000
/-! The law's own helpers: the greatest and the least sum. -/
namespace Wk
open PySem L2 K46 SlX GenW RZ
def IsHi (l m : List (List Nat)) (z : Nat) : Prop := (∃ h g, h ∈ l ∧ g ∈ m ∧ z = dot h g) ∧ ∀ h g, h ∈ l → g ∈ m → dot h g ≤ z
def IsLo (l m : List (List Nat)) (z : Nat) : Prop := (∃ h g, h ∈ l ∧ g ∈ m ∧ z = dot h g) ∧ ∀ h g, h ∈ l → g ∈ m → z ≤ dot h g
def spEnds (K : PySem.W.Frag) : Sp := fun vs H Q _ => ∃ (a b : Addr) (l m : List (List Nat)) (n : Nat), vs = [.ref a, .ref b] ∧ HsAt K H a l ∧ HsAt K H b m ∧ l ≠ [] ∧ m ≠ [] ∧ n ≤ 1000 ∧ (∀ h ∈ l, h.length = n ∧ ∀ x ∈ h, x < 2 ^ 64) ∧ (∀ h ∈ m, h.length = n) ∧
  ∀ (H' : Hp) (L : Addr) (hi lo : Nat), Same H H' → H' L = some (.lst [iV hi, iV lo]) → IsHi l m hi → IsLo l m lo → Q (.ref L) H'
section
variable {P : Program} {w : World} {K : PySem.W.Frag} {mg : Str → Option Value} {base : Heap}
abbrev sEnds : Stmt := topS 36
abbrev nmZ : List Str := ["_law_some", "_law_others", "_law_low", "_law_left", "_law_right", "_law_high", "_law_one", "_law_other", "_law_number"]
theorem scL11 : FnScope nmZ ["_law_some", "_law_others"] (C8.fnScope sEnds) := C8.fnScope_by (by decide +kernel)
/-- the reading of sum([x * y for x, y in zip(a, b)]) -/
abbrev tDotZ (K : PySem.W.Frag) (i j : Nat) (t : TA) : TE := tCB (rSum K) (tCons (tLc (iZipA K t) (gTup K 2 (gCons (gName i) (gCons (gName j) gNil))) tYes (tOp (rI CMul fun i j => .int (i * j)) (tVar i) (tVar j)) [i, j]) tNil)
theorem ok_ends {f : Addr} {fd : FuncData} (F : C8.Def K mg "_law_ends" sEnds f fd) (b : Binds K fd ["_law_some", "_law_others"] []) (N : Nm mg) : Cl0 P w K mg base 1 "_law_ends" (spEnds K) [] := by
  refine C8.cal0 F b .nil scL11 (fun vs H Q E h => ?_) (fun cdv A outer s H vs Q E hr h => ?_)
  · obtain ⟨a, b, l, m, n, rfl, _⟩ := h
    rfl
  · obtain ⟨a, b, l, m, n, rfl, ⟨as, ha, pa⟩, ⟨bs, hb, pb⟩, hl, hm, hn, bl, bm, k⟩ := h
    refine ⟨_, pss_cons (ps_set (i := 2) scL11.nd rfl (Or.inl rfl) (pe_callB (cr_sum (by rfl)) (by rfl) N.sm (by decide +kernel) (pa_cons (pe_lc (own := [("_law_left", 3), ("_law_right", 4)]) (g := gTup K 2 (gCons (gName 3) (gCons (gName 4) gNil))) (tt := tYes) (te := tOp (rI CMul fun i j => .int (i * j)) (tVar 3) (tVar 4)) (by rfl) scL11.nd
        (pi_zipA (by rfl) N.zip (pa_cons (pe_ix ix_list (pv 0) pe_int (fun _ _ => rfl)) (pa_cons (pe_ix ix_list (pv 1) pe_int (fun _ _ => rfl)) pa_nil))) (blkOk_by (own := [("_law_left", 3), ("_law_right", 4)]) (N := nmZ) (sc := C8.fnScope sEnds) (by decide +kernel))
        (fun _ _ _ _ _ => pg_tup (by rfl) (pgs_cons (pg_name (i := 3) scL11.nd rfl (Or.inl rfl)) (pgs_cons (pg_name (i := 4) scL11.nd rfl (Or.inl rfl)) pgs_nil))) (fun _ _ _ _ _ => pts_nil) (fun _ _ _ _ _ => pe_op op_mul (pv 3) (pv 4))) pa_nil)))
      (pss_cons (ps_set (i := 5) scL11.nd rfl (Or.inl rfl) (pv 2))
      (pss_cons (ps_for PassesOwn.never rfl (pi_list (pv 0)) (pg_name (i := 6) scL11.nd rfl (Or.inl rfl))
        (pss_one (ps_for PassesOwn.never rfl (pi_list (pv 1)) (pg_name (i := 7) scL11.nd rfl (Or.inl rfl))
          (pss_cons (ps_set (i := 8) scL11.nd rfl (Or.inl rfl) (pe_callB (cr_sum (by rfl)) (by rfl) N.sm (by decide +kernel) (pa_cons (pe_lc (own := [("_law_left", 3), ("_law_right", 4)]) (g := gTup K 2 (gCons (gName 3) (gCons (gName 4) gNil))) (tt := tYes) (te := tOp (rI CMul fun i j => .int (i * j)) (tVar 3) (tVar 4)) (by rfl) scL11.nd
            (pi_zipA (by rfl) N.zip (pa_cons (pv 6) (pa_cons (pv 7) pa_nil))) (blkOk_by (own := [("_law_left", 3), ("_law_right", 4)]) (N := nmZ) (sc := C8.fnScope sEnds) (by decide +kernel))
            (fun _ _ _ _ _ => pg_tup (by rfl) (pgs_cons (pg_name (i := 3) scL11.nd rfl (Or.inl rfl)) (pgs_cons (pg_name (i := 4) scL11.nd rfl (Or.inl rfl)) pgs_nil))) (fun _ _ _ _ _ => pts_nil) (fun _ _ _ _ _ => pe_op op_mul (pv 3) (pv 4))) pa_nil)))
          (pss_one (ps_par (i := 2) (j := 5) (by rfl) scL11.nd rfl rfl (by decide) rfl rfl (pa_cons (pe_callB (call_min2 (by rfl)) (by rfl) N.mn (by decide +kernel) (pa_cons (pv 2) (pa_cons (pv 8) pa_nil))) (pa_cons (pe_callB (call_max2 (by rfl)) (by rfl) N.mx (by decide +kernel) (pa_cons (pv 5) (pa_cons (pv 8) pa_nil))) pa_nil)) (by rfl)))))))
      (pss_one (ps_ret (pe_lst (pa_cons (pv 5) (pa_cons (pv 2) pa_nil))))))), ?_⟩
    have get : ∀ {H' : Hp} {cs : List Addr} {q : List (List Nat)} {i : Nat} {x : V}, HsP K H' cs q → (cs.map V.ref)[i]? = some x → ∃ c h, x = .ref c ∧ q[i]? = some h ∧ SqT K H' c (iVs h) := fun p e => hsp_get p e
    have la : (as.map V.ref).length = l.length := by rw [List.length_map]; exact pa.length
    have lb : (bs.map V.ref).length = m.length := by rw [List.length_map]; exact pb.length
    have l0 : 0 < l.length := List.length_pos_iff.mpr hl
    have m0 : 0 < m.length := List.length_pos_iff.mpr hm
    obtain ⟨u0, hu0⟩ : ∃ u, (as.map V.ref)[0]? = some u := ⟨_, List.getElem?_eq_getElem (by omega)⟩
    obtain ⟨v0, hv0⟩ : ∃ v, (bs.map V.ref)[0]? = some v := ⟨_, List.getElem?_eq_getElem (by omega)⟩
    obtain ⟨a0, h0, rfl, e1, ta0⟩ := get pa hu0
    obtain ⟨b0, g0, rfl, e2, tb0⟩ := get pb hv0
    have mh0 := List.mem_of_getElem? e1
    have mg0 := List.mem_of_getElem? e2
    -- low
    refine ⟨_, rfl, a, _, _, _, rfl, rfl, lstL ha, atI_nat (j := 0) hu0, _, rfl, b, _, _, _, rfl, rfl, lstL hb, atI_nat (j := 0) hv0, a0, b0, _, _, rfl, .inr ⟨ta0, tb0, zip_in ta0 tb0 (by rw [(bl h0 mh0).1, bm g0 mg0]) (by rw [(bl h0 mh0).1]; exact hn) (bl h0 mh0).2 (fun _ _ => rfl) (fun _ _ => rfl) (fun _ _ => rfl) fun D H1 s1 hD => ⟨D, _, rfl, lstL hD, ?_⟩⟩⟩
    rw [prI_sum]
    refine ⟨_, rfl, ?_⟩
    -- the loops
    refine ⟨_, rfl, a, rfl, ⟨_, lstL (s1 _ _ ha)⟩, for_list (K := K) (a := a) (xs := as.map V.ref) (fun i σ H2 => ∃ (lo hi : Nat) (x6 x7 x8 : Option V), σ = [some (.ref a), some (.ref b), some (iV lo), none, none, some (iV hi), x6, x7, x8] ∧ Same H H2 ∧ (∃ h g, h ∈ l ∧ g ∈ m ∧ hi = dot h g) ∧ (∃ h g, h ∈ l ∧ g ∈ m ∧ lo = dot h g) ∧
      ∀ h g, h ∈ l.take i → g ∈ m → lo ≤ dot h g ∧ dot h g ≤ hi) ⟨_, _, none, none, none, rfl, s1, ⟨h0, g0, mh0, mg0, rfl⟩, ⟨h0, g0, mh0, mg0, rfl⟩, fun h g z => by simp at z⟩ (fun i σ H2 _ ⟨_, _, _, _, _, _, s2, _⟩ => lstL (s2 _ _ ha)) ?_ ?_⟩
    · rintro i x σ H2 hi ⟨lo, hi', x6, x7, x8, rfl, s2, at1, at2, bd⟩
      obtain ⟨c, h, rfl, hq, hc⟩ := get (hsp_same s2 pa) hi
      have mh := List.mem_of_getElem? hq
      refine ⟨_, rfl, b, rfl, ⟨_, lstL (s2 _ _ hb)⟩, for_list (K := K) (a := b) (xs := bs.map V.ref) (fun j σ H3 => ∃ (lo hi : Nat) (x7 x8 : Option V), σ = [some (.ref a), some (.ref b), some (iV lo), none, none, some (iV hi), some (.ref c), x7, x8] ∧ Same H2 H3 ∧ (∃ h g, h ∈ l ∧ g ∈ m ∧ hi = dot h g) ∧ (∃ h g, h ∈ l ∧ g ∈ m ∧ lo = dot h g) ∧
        (∀ h g, h ∈ l.take i → g ∈ m → lo ≤ dot h g ∧ dot h g ≤ hi) ∧ ∀ g, g ∈ m.take j → lo ≤ dot h g ∧ dot h g ≤ hi) ⟨lo, hi', x7, x8, rfl, Same.refl _, at1, at2, bd, fun g z => by simp at z⟩ (fun j σ H3 _ ⟨_, _, _, _, _, s3, _⟩ => lstL (s3 _ _ (s2 _ _ hb))) ?_ ?_⟩
      · rintro j y σ H3 hj ⟨lo, hi', x7, x8, rfl, s3, at1, at2, bd, bd2⟩
        obtain ⟨d, g, rfl, hq2, hd⟩ := get (hsp_same (s2.trans s3) pb) hj
        have mg' := List.mem_of_getElem? hq2
        have hc3 := stT s3 hc
        refine ⟨_, rfl, _, rfl, c, d, _, _, rfl, .inr ⟨hc3, hd, zip_in hc3 hd (by rw [(bl h mh).1, bm g mg']) (by rw [(bl h mh).1]; exact hn) (bl h mh).2 (fun _ _ => rfl) (fun _ _ => rfl) (fun _ _ => rfl) fun D H4 s4 hD => ⟨D, _, rfl, lstL hD, ?_⟩⟩⟩
        rw [prI_sum]
        refine ⟨_, rfl, _, rfl, _, _, rfl, _, rfl, _, rfl, _, _, rfl, _, _, rfl, ?_⟩
        refine ⟨min lo (dot h g), max hi' (dot h g), some (.ref d), some (iV (dot h g)), ?_, s3.trans s4, ?_, ?_, fun h' g' z1 z2 => ?_, fun g' z => ?_⟩
        · show [some (V.ref a), some (.ref b), some (.int (if ((dot h g : Nat) : Int) < (lo : Int) then ((dot h g : Nat) : Int) else (lo : Int))), none, none, some (.int (if ((dot h g : Nat) : Int) > (hi' : Int) then ((dot h g : Nat) : Int) else (hi' : Int))), some (.ref c), some (.ref d), some (iV (dot h g))] = _
          rw [show (if ((dot h g : Nat) : Int) < (lo : Int) then ((dot h g : Nat) : Int) else (lo : Int)) = ((min lo (dot h g) : Nat) : Int) by split <;> omega, show (if ((dot h g : Nat) : Int) > (hi' : Int) then ((dot h g : Nat) : Int) else (hi' : Int)) = ((max hi' (dot h g) : Nat) : Int) by split <;> omega]
        · rcases Nat.le_total hi' (dot h g) with q | q
          · rw [Nat.max_eq_right q]
            exact ⟨h, g, mh, mg', rfl⟩
          · rw [Nat.max_eq_left q]
            exact at1
        · rcases Nat.le_total lo (dot h g) with q | q
          · rw [Nat.min_eq_left q]
            exact at2
          · rw [Nat.min_eq_right q]
            exact ⟨h, g, mh, mg', rfl⟩
        · have := bd h' g' z1 z2
          omega
        · rw [take_snoc hq2, List.mem_append, List.mem_singleton] at z
          rcases z with z | rfl
          · have := bd2 g' z
            omega
          · omega
      · rintro σ H3 ⟨lo, hi', x7, x8, rfl, s3, at1, at2, bd, bd2⟩
        rw [lb, List.take_length] at bd2
        refine ⟨lo, hi', some (.ref c), x7, x8, rfl, s2.trans s3, at1, at2, fun h' g' z1 z2 => ?_⟩
        rw [take_snoc hq, List.mem_append, List.mem_singleton] at z1
        rcases z1 with z1 | rfl
        · exact bd h' g' z1 z2
        · exact bd2 g' z2
    · rintro σ H2 ⟨lo, hi, x6, x7, x8, rfl, s2, at1, at2, bd⟩
      rw [la, List.take_length] at bd
      refine ⟨_, rfl, _, rfl, szl (by show 2 ≤ 100000; decide), fun p hp => k _ p hi lo (s2.trans (same_new hp)) upd_same ⟨at1, fun h g z1 z2 => (bd h g z1 z2).2⟩ ⟨at2, fun h g z1 z2 => (bd h g z1 z2).1⟩⟩
end
end Wk
end
section
set_option Elab.async false
set_option linter.all false
set_option autoImplicit false
set_option maxRecDepth 100000
set_option maxHeartbeats 2000000
/-! The law's own helpers: what a join tells, or that it refuses. -/
namespace Wk
open PySem L2 K46 SlX GenW RZ
/-- f(e, ..), f an expression that gives one of two defs -/
def tCallF (f1 f2 : Addr) (sp1 sp2 : Sp) (E : L2.St → XK) (tf : TE) (t : TA) : TE := fun σ H Q => tf σ H fun y H1 => (y = .ref f1 ∧ t σ H1 fun vs H2 => sp1 vs H2 Q (E σ)) ∨ (y = .ref f2 ∧ t σ H1 fun vs H2 => sp2 vs H2 Q (E σ))
theorem pe_callF {X : Cx} {CX : CXT} {k : Nat} {f1 f2 : Addr} {fd1 fd2 : FuncData} {ps1 ps2 : List Str} {sp1 sp2 : Sp} {E : L2.St → XK} {pos : Pos} {fe e : Expr} {es : List Expr} {tf : TE} {t : TA} (hf : PE X fe tf)
    (F1 : FnOk X.prog X.w X.K X.mg X.base CX k f1 fd1 ps1 sp1) (k1 : PySem.W.keepIn X.K (.ref f1) = true) (b1 : Binds X.K fd1 ps1 []) (F2 : FnOk X.prog X.w X.K X.mg X.base CX k f2 fd2 ps2 sp2) (k2 : PySem.W.keepIn X.K (.ref f2) = true) (b2 : Binds X.K fd2 ps2 [])
    (hr : Room k X.A) (hx : ∀ σ, PassesAt CX X σ (E σ)) (ha : PA X (e :: es) t)
    (ht : eval (.Call fe (e :: es) [] pos) X.env = (do callWith pos (← eval fe X.env) [] (backTo pos (starEach (e :: es) X.env)) (backToKw pos (keywordEach [] X.env))) := by rfl)
    (he : starEach (e :: es) X.env = (false, eval e X.env) :: starEach es X.env := by rfl) (hpl : (backTo pos (starEach es X.env)).any (·.1) = false := by rfl) : PE X (.Call fe (e :: es) [] pos) (tCallF f1 f2 sp1 sp2 E tf t) := by
  refine ⟨fun pins s σ H Q I h => ?_⟩
  refine PyProof.Rows.Call_ (thn (hf.run pins s σ H _ I h) fun u s1 ⟨y, H1, I1, ry, q⟩ => ?_) ht
  rcases q with ⟨ey, q⟩ | ⟨ey, q⟩
  · subst ey
    obtain rfl : u = Value.ref f1 := ry
    exact PySem.W.callWith_K (h₀ := X.base) I1.ok.mod.kin k1 (thn (ha.run pos pins s1 σ H1 _ I1 q) fun us s2 ⟨vs, H2, I2, r, q2⟩ => ⟨I2.kIn, run_fnS F1 hr b1 (hx σ) I2 r q2⟩) he hpl
  · subst ey
    obtain rfl : u = Value.ref f2 := ry
    exact PySem.W.callWith_K (h₀ := X.base) I1.ok.mod.kin k2 (thn (ha.run pos pins s1 σ H1 _ I1 q) fun us s2 ⟨vs, H2, I2, r, q2⟩ => ⟨I2.kIn, run_fnS F2 hr b2 (hx σ) I2 r q2⟩) he hpl
def AnsOf (d : Nat) : Tl → Tl → List Nat → List Nat → Prop := if d = 0 then AnsG else AnsL
def spToldOf (K : PySem.W.Frag) (C : Addr) : Sp := fun vs H Q _ => ∃ (d : Nat) (x y : V), d < 2 ∧ vs = [iV d, x, y] ∧
  ((∃ (a b : Addr) (T U : Tl), x = .ref a ∧ y = .ref b ∧ SprAt C H a T ∧ SprAt C H b U ∧ T.n = U.n ∧ GoodT T ∧ GoodT U ∧
      ∀ (H' : Hp) (p u v : Addr) (hs gs : List Nat), Same H H' → H' p = some (.tup [iV (dot hs gs), .ref u, .ref v]) → SqT K H' u (iVs hs) → SqT K H' v (iVs gs) → AnsOf d T U hs gs → Q (.ref p) H') ∨
   (∃ (nx ny : Option Nat) (z : V), Vk C H x nx ∧ Vk C H y ny ∧ ((nx = none ∧ z = x) ∨ (∃ n, nx = some n ∧ ny ≠ some n ∧ z = y)) ∧ ∀ (H' : Hp) (L : Addr), Same H H' → H' L = some (.lst [.str "none", z]) → Q (.ref L) H'))
section
variable {P : Program} {w : World} {K : PySem.W.Frag} {mg : Str → Option Value} {base : Heap}
abbrev sToldOf : Stmt := topS 35
abbrev nmT : List Str := ["_law_door", "_law_one", "_law_other", "e"]
theorem scL12 : FnScope nmT ["_law_door", "_law_one", "_law_other"] (C8.fnScope sToldOf) := C8.fnScope_by (by decide +kernel)
theorem ok_toldOf {f g1 g2 C D fI : Addr} {fd fd1 fd2 : FuncData} (F : C8.Def K mg "_law_told_of" sToldOf f fd) (b : Binds K fd ["_law_door", "_law_one", "_law_other"] []) (Ti : Iv.IvTxt P K mg D fI)
    (F1 : FnOk P w K mg base (L2.CX P w) 8 g1 fd1 ["one", "other"] (spJoin K C D AnsG)) (m1 : mg "greatest_join" = some (.ref g1)) (k1 : PySem.W.keepIn K (.ref g1) = true) (b1 : Binds K fd1 ["one", "other"] [])
    (F2 : FnOk P w K mg base (L2.CX P w) 8 g2 fd2 ["one", "other"] (spJoin K C D AnsL)) (m2 : mg "least_join" = some (.ref g2)) (k2 : PySem.W.keepIn K (.ref g2) = true) (b2 : Binds K fd2 ["one", "other"] []) : Cl0 P w K mg base 9 "_law_told_of" (spToldOf K C) [] := by
  refine C8.cal0 F b .nil scL12 (fun vs H Q E h => ?_) (fun cdv A outer s H vs Q E hr h => ?_)
  · obtain ⟨d, x, y, _, rfl, _⟩ := h
    rfl
  · obtain ⟨d, x, y, hd, rfl, h⟩ := h
    refine ⟨_, pss_one (ps_try_as (i := 3) (tb := fun W => tRet (tCallF g1 g2 (spJoin K C D AnsG) (spJoin K C D AnsL) (WE W) (tOp (rIxL K) (tLst (tCons (tC (.ref g1)) (tCons (tC (.ref g2)) tNil))) (tVar 0)) (tCons (tVar 1) (tCons (tVar 2) tNil))))
      (ts := fun a cls d => tRet (tLst (tCons (tC (.str "none")) (tCons (tByIv D a cls d (tVar 3)) tNil)))) (Wout := fun _ _ _ _ => False) rfl rfl scL12.nd rfl rfl ⟨rfl, by decide, Or.inl Ti.gC⟩ takes0
      (fun W pn xe tk _ => pss_one (ps_ret (pe_callF (pe_ix ix_list (pe_lst (pa_cons (pe_glob (v := .ref g1) rfl m1 rfl) (pa_cons (pe_glob (v := .ref g2) rfl m2 rfl) pa_nil))) (pv 0) (fun _ _ => rfl)) F1 k1 b1 F2 k2 b2 hr (fun σ => passAt tk σ) (pa_cons (pv 1) (pa_cons (pv 2) pa_nil)))))
      (fun a oe cls d pn hz hf => pss_one (ps_ret (pe_lst (pa_cons pe_str (pa_cons (pe_byIv Ti hz hf (pv 3)) pa_nil)))))), ?_⟩
    refine ⟨szl (by show 2 ≤ 100000; decide), fun l hl => ?_⟩
    have s1 := same_new (o := .lst [.ref g1, .ref g2]) hl
    have good : ∀ (a b : Addr) (T U : Tl), SprAt C H a T → SprAt C H b U → SprAt C (upd H l (.lst [.ref g1, .ref g2])) a T ∧ SprAt C (upd H l (.lst [.ref g1, .ref g2])) b U := fun a b T U h1 h2 => ⟨spr_same s1 h1, spr_same s1 h2⟩
    match d, hd with
    | 0, _ =>
      refine ⟨_, rfl, l, _, _, _, rfl, rfl, lstL upd_same, atI0, .inl ⟨rfl, _, rfl, _, rfl, ?_⟩⟩
      refine to_nil ⟨x, y, rfl, ?_⟩
      rcases h with ⟨a, b, T, U, rfl, rfl, ha, hb, hn, gt, gu, k⟩ | ⟨nx, ny, z, hx, hy, hz, k⟩
      · exact .inl ⟨a, b, T, U, rfl, rfl, spr_same s1 ha, spr_same s1 hb, hn, gt, gu, fun H' p u v hs gs s2 hp hu hv an => k H' p u v hs gs (s1.trans s2) hp hu hv (by show AnsOf 0 T U hs gs; unfold AnsOf; rw [if_pos rfl]; exact an)⟩
      · refine .inr ⟨nx, ny, z, vk_same s1 hx, vk_same s1 hy, hz, fun dd hdd => ⟨true, Ti.te, fun _ a0 _ => ?_, fun q => Bool.noConfusion q⟩⟩
        have s2 := same_new (o := .xd [(("value" : Str), z)]) hdd
        exact ⟨_, rfl, rfl, rfl, dd, z, rfl, upd_same, szl (by show 2 ≤ 100000; decide), fun p hp => k _ p ((s1.trans s2).trans (same_new hp)) upd_same⟩
    | 1, _ =>
      refine ⟨_, rfl, l, _, _, _, rfl, rfl, lstL upd_same, atI1, .inr ⟨rfl, _, rfl, _, rfl, ?_⟩⟩
      refine to_nil ⟨x, y, rfl, ?_⟩
      rcases h with ⟨a, b, T, U, rfl, rfl, ha, hb, hn, gt, gu, k⟩ | ⟨nx, ny, z, hx, hy, hz, k⟩
      · exact .inl ⟨a, b, T, U, rfl, rfl, spr_same s1 ha, spr_same s1 hb, hn, gt, gu, fun H' p u v hs gs s2 hp hu hv an => k H' p u v hs gs (s1.trans s2) hp hu hv (by show AnsOf 1 T U hs gs; unfold AnsOf; rw [if_neg (by decide)]; exact an)⟩
      · refine .inr ⟨nx, ny, z, vk_same s1 hx, vk_same s1 hy, hz, fun dd hdd => ⟨true, Ti.te, fun _ a0 _ => ?_, fun q => Bool.noConfusion q⟩⟩
        have s2 := same_new (o := .xd [(("value" : Str), z)]) hdd
        exact ⟨_, rfl, rfl, rfl, dd, z, rfl, upd_same, szl (by show 2 ≤ 100000; decide), fun p hp => k _ p ((s1.trans s2).trans (same_new hp)) upd_same⟩
    | n + 2, h2 => exact absurd h2 (by omega)
end
end Wk
end
section
set_option Elab.async false
set_option linter.all false
set_option autoImplicit false
set_option maxRecDepth 100000
set_option maxHeartbeats 2000000
/-! != of two lists that hold the same; x in a list of other things, x with an own ==. -/
namespace Sn
open PySem PySem.Spec PyProof.Rows L2 SlX
theorem eqAt_self {A : PySem.Around} {s : Shared} (v : Value) : SeqAt.EqAt A s v v true := fun prog w E Q hq => by
  unfold eqBool
  refine wpAny_holding ?_
  rw [if_pos (beq_self_eq_true v)]
  exact wpAny_bind (wpAny_rule (wpAny_pure hq))
/-- values that are equal to what they are, in any writing -/
def Okv (v : V) : Prop := (∃ c, v = .ref c) ∨ (flatV v = true ∧ eqV v v = true)
theorem okv_at {A : PySem.Around} {s : Shared} {v : V} {u u' : Value} (h : Okv v) (r : RelV v u) (r' : RelV v u') : SeqAt.EqAt A s u u' true := by
  rcases h with ⟨c, rfl⟩ | ⟨hf, he⟩
  · cases (show u = Value.ref c from r)
    cases (show u' = Value.ref c from r')
    exact eqAt_self _
  · have z := eqAt_V (A := A) (s := s) r r' hf hf
    rw [he] at z
    exact z
/-- [x, z] != [x, z] -/
def rNeO : R2 := fun x y H Q => ∃ (a b : Addr) (xs : List V), x = .ref a ∧ y = .ref b ∧ H a = some (.lst xs) ∧ H b = some (.lst xs) ∧ (∀ v ∈ xs, Okv v) ∧ Q (.bl false) H
theorem op_neO {X : Cx} (hu : X.A.units < cLine) : OpR X (compareOp .NotEq) rNeO := by
  intro pins s σ H x y v u Q I rx ry h
  obtain ⟨a, b, xs, rfl, rfl, ha, hb, hok, q⟩ := h
  cases rx
  cases ry
  obtain ⟨its, r1, p1, _⟩ := I.list (.inl (.inl ha))
  obtain ⟨its2, r2, p2, _⟩ := I.list (.inl (.inl hb))
  have l1 := r1.length
  have l2 := r2.length
  have all : (!(List.range its.toArray.size).all fun _ => true) = false := by simp
  refine (SeqAt.RcNeAt.lists (e := fun _ => true) p1.isList p2.isList (by rw [List.size_toArray, List.size_toArray]; omega) hu (fun j h1 h2 => ?_)) _ _ _ _ ?_
  · have h1' : j < its.length := by simpa using h1
    have h2' : j < its2.length := by simpa using h2
    have hx : xs[j]? = some xs[j] := List.getElem?_eq_getElem (by omega)
    obtain ⟨u1, e1, q1⟩ := r1.get hx
    obtain ⟨u2, e2, q2⟩ := r2.get hx
    have g1 : its.toArray[j] = u1 := by
      have := (List.getElem?_eq_some_iff.mp e1).2
      simpa using this
    have g2 : its2.toArray[j] = u2 := by
      have := (List.getElem?_eq_some_iff.mp e2).2
      simpa using this
    rw [g1, g2]
    exact okv_at (hok _ (List.getElem_mem _)) q1 q2
  · rw [all]
    exact ⟨.bl false, H, I, rfl, q⟩
/-! ### an own ==, reflected -/
section
variable {prog : Program} {w : World} {A : PySem.Around} {E : Value → Shared → Prop} {s : Shared} {K : PySem.W.Frag} {x C f : Addr} {ox : Obj} {od : Option Obj}
theorem rc_eq_refl {a : Value} {Ta ida : String} {Q : Value → Shared → Prop} (ha : s.TypeIs a Ta) (X : K.In s.heap) (I : PySem.W.InstAt s.heap x ox C od) (hsub : PySem.W.subIn K (.ref C) (.type Ta) = some false) (h1 : Slot Ta (cmpInfo .Eq).2.1 ida)
    (hc1 : ∀ Q' : Value → Shared → Prop, Q' .notImplemented s → wpAny (model prog w) A (call (.builtin ida) [a, .ref x]) Q' E s) (hs : PySem.W.findIn K (.ref C) (cmpInfo .Eq).2.2 = some (some (.ref f))) (hf : PySem.W.isFn K (.ref f) = true) (hu : A.units < cLine)
    (h : wpAny (model prog w) A (call (.ref f) [.ref x, a]) (PySem.W.CmpBack Q) E s) : wpAny (model prog w) A (richCompare .Eq a (.ref x)) Q E s := by
  rcases hi : cmpInfo CmpOp.Eq with ⟨sym, f', r⟩
  rw [hi] at h1 hs
  simp only [richCompare, hi, ha.oneThing_none]
  refine wpAny_holding (wpAny_bind (wpAny_cRoomFor hu ?_))
  refine wpAny_bind (wpAny_typeOf ha (wpAny_bind (I.type.here ?_)))
  have hne : (Value.type Ta != Value.ref C) = true := rfl
  simp only [hne, if_true]
  refine wpAny_bind ((PySem.W.looks_subIn X hsub).here ?_)
  simp only [Bool.false_eq_true, if_false, Bool.not_false, if_true]
  refine wpAny_bind (m := tryCompare a _ (.ref x)) (wpAny_tryCompare_declines ha h1 (hc1 _ ⟨rfl, ?_⟩))
  refine wpAny_bind (m := tryCompare (.ref x) _ a) ?_
  unfold tryCompare
  refine wpAny_bind (PySem.W.ifBound_K X I hs hf (wpAny_mono h (fun v s' hv => ?_) fun _ _ e => e))
  cases v <;> first | exact hv.elim | exact wpAny_pure (wpAny_pure hv)
theorem eqb_refl {a : Value} (na : a ≠ .ref x) (nf : ∀ b t, a ≠ .float b t) {Q : Bool → Shared → Prop} (h : wpAny (model prog w) A (richCompare .Eq a (.ref x)) (fun v s' => v = .bool false ∧ Q false s') E s) : wpAny (model prog w) A (eqBool a (.ref x)) Q E s := by
  unfold eqBool
  refine wpAny_holding ?_
  rw [if_neg (show ¬ (a == Value.ref x) = true from fun z => na (eq_of_beq z))]
  have tail : wpAny (model prog w) A (richCompare .Eq a (.ref x) >>= truthOfDropped) Q E s := by
    refine wpAny_bind (wpAny_mono h (fun v s' hv => ?_) fun _ _ z => z)
    obtain ⟨rfl, q⟩ := hv
    exact wpAny_truthy_bool q
  cases a <;> first | exact absurd rfl (nf _ _) | exact tail
open AutoSeq1 (wpAny_loadPart')
theorem int_eq_declines_inst (b : Int) (u : Tok) (l : Addr) (c : Value) (dd : Option Addr) (sl : Array (Option Value)) :
    Meets (Builtin.«int.__eq__» ⟨[.int b u, .ref l], []⟩) (fun _ R s => s.heap.get? l = some { cls := c, dict := dd, data := .plain, slots := sl } ∧ R (.ok (.ret .notImplemented)) s) :=
  .of_wp fun prog w A R s h => by obtain ⟨hp, g, d, tk, os⟩ := s; obtain ⟨hl, h⟩ := h; wp_walk using wpAny_loadPart' hl, wpAny_load hl; exact ⟨_, rfl, h⟩
theorem tuple_eq_declines_inst {l x : Addr} {P : Fin → Shared → Prop} (hin : PySem.W.Looks (model prog w) s.heap (isInstance (.ref x) (.type "tuple")) false) (hq : P (.done (.ret .notImplemented)) s) :
    wpAny (model prog w) A (Builtin.«tuple.__eq__» ⟨[.ref l, .ref x], []⟩) P E s := by
  obtain ⟨hp, g, d, tk, os⟩ := s
  unfold Builtin.«tuple.__eq__»
  repeat (first | (with_reducible refine PySem.W.Looks.at hin ?_) | wp_step)
  all_goals exact hq
end
/-- what the class must be: an own == that says no to all but its own -/
def spEq (C : Addr) : Sp := fun vs H Q _ => ∃ (a : Addr) (T : K46.Tl) (y : V), vs = [.ref a, y] ∧ Wk.SprAt C H a T ∧ Wk.Vk C H y none ∧ Q (.bl false) H
structure EqC (P : Program) (w : World) (K : PySem.W.Frag) (mg : Str → Option Value) (base : Heap) (C : Addr) : Prop where
  sn : PySem.W.subIn K (.ref C) (.type "NoneType") = some false
  si : PySem.W.subIn K (.ref C) (.type "int") = some false
  st : PySem.W.subIn K (.ref C) (.type "tuple") = some false
  ex : ∃ g, PySem.W.findIn K (.ref C) "__eq__" = some (some (.ref g)) ∧ PySem.W.isFn K (.ref g) = true ∧ FnR P w K mg base L2.CX0 1 g (spEq C)
section
variable {X : Cx} {pins : List (Addr × Obj)} {σ : L2.St} {H : Hp} {s : Shared} {C a : Addr} {T : K46.Tl} {y : V} {u : Value}
theorem eqb_own (c : EqC X.prog X.w X.K X.mg X.base C) (I : Inv X pins σ H s) (hr : Room 1 X.A.in1) (hs : Wk.SprAt C H a T) (hy : Wk.Vk C H y none) (ru : RelV y u) {Q : Bool → Shared → Prop} (hq : ∀ s', Inv X pins σ H s' → Q false s') :
    wpAny (model X.prog X.w) X.A.in1 (eqBool u (.ref a)) Q X.xe s := by
  obtain ⟨g, hg, hf, Fg⟩ := c.ex
  obtain ⟨dx, rb, db, fm, hsl, _⟩ := id hs
  obtain ⟨sl, od, _, J, _⟩ := slt_inst I hsl
  have own : ∀ w : Value, RelV y w → wpAny (model X.prog X.w) X.A.in1 (call (.ref g) [.ref a, w]) (PySem.W.CmpBack fun v s' => v = .bool false ∧ Q false s') X.xe s := fun w rw' => by
    refine wpAny_mono (wpAny_call (run_at (us := [.ref a, w]) (ws := [.ref a, y]) (E := E0) (Q := fun z H' => z = .bl false ∧ H' = H) Fg hr I.env0.in1 (fun _ _ _ _ _ _ _ z => z.elim) I (.cons rfl (.cons rw' .nil)) ⟨a, T, y, rfl, hs, hy, rfl, rfl⟩)) (fun v s' z => ?_) fun _ _ z => z
    obtain ⟨z', H', I', rz, rfl, rfl⟩ := z
    obtain rfl : v = Value.bool false := rz
    exact ⟨rfl, hq s' I'⟩
  have hu : X.A.in1.units < cLine := hr.units0
  cases hy with
  | non =>
    obtain rfl : u = Value.none := ru
    refine eqb_refl (a := Value.none) (by intro z; cases z) (by intro _ _ z; cases z) (rc_eq_refl (a := Value.none) (Ta := "NoneType") rfl I.kIn J c.sn F.slot_NoneType_eq (fun Q' h => call_gives F.slot_NoneType_eq rfl F.entry_NoneType_eq (F.args_NoneType_eq_2 _ _) (SeqAt.NoneType___eq___none_ref_0 a) h) hg hf hu (own _ rfl))
  | int i =>
    obtain ⟨t, rfl⟩ := ru
    refine eqb_refl (a := Value.int i t) (by intro z; cases z) (by intro _ _ z; cases z) (rc_eq_refl (a := Value.int i t) (Ta := "int") (typeIs_int s i t) I.kIn J c.si F.slot_int_eq (fun Q' h => call_meets F.slot_int_eq (typeIs_int s i t) F.entry_int_eq (F.args_int_eq_2 _ _) (int_eq_declines_inst i t a (.ref C) (some dx) sl) ⟨J.at_, h⟩) hg hf hu (own _ ⟨t, rfl⟩))
  | @tup p xs hp =>
    obtain rfl : u = Value.ref p := ru
    obtain ⟨its, _, ht, _⟩ := I.tuple (.inl (.inl hp))
    have na : p ≠ a := fun z => by
      rw [z] at hp
      rcases hsl with ⟨h1, _⟩ | ⟨h1, _⟩
      · rw [h1] at hp
        cases hp
      · rw [h1] at hp
        have := Option.some.inj hp
        unfold SlO at this
        cases this
    refine eqb_refl (a := Value.ref p) (fun z => na (Value.ref.inj z)) (by intro _ _ z; cases z) (rc_eq_refl (a := Value.ref p) (Ta := "tuple") ht.typeIs I.kIn J c.st F.slot_tuple_eq (fun Q' h => wpAny_call_entry F.slot_tuple_eq ht.typeIs F.entry_tuple_eq (tuple_eq_declines_inst (J.type.andThen (PySem.W.looks_subIn I.kIn c.st)) ⟨_, rfl, h⟩) (F.args_tuple_eq_2 _ _)) hg hf hu (own _ rfl))
open MeetsSeq MeetsSeq2 MeetsSeq3 in
theorem loop_own (c : EqC X.prog X.w X.K X.mg X.base C) (hr : Room 1 X.A.in1) (hs : Wk.SprAt C H a T) {l : Addr} {xs : List V} (hl : H l = some (.lst xs)) (hx : ∀ y ∈ xs, Wk.Vk C H y none) {R : Result → Shared → Prop} (hR : ∀ s, Inv X pins σ H s → R (.ok (.ret (.bool false))) s)
    (hE : ∀ e s', X.xe e s' → R (.error e) s') (k : Nat) : ∀ i : Nat, xs.length - i = k → ∀ s, Inv X pins σ H s → wpAny (model X.prog X.w) X.A.in1 (Builtin.«list.__contains__.loop» ⟨[.ref l, .ref a, rawInt i], []⟩)
      (fun fin s' => match fin with | .done f => R (.ok f) s' | .again c' => c'.quiet = true ∧ codeAny (model X.prog X.w) X.A c' R s') (fun e s' => R (.error e) s') s := by
  induction k with
  | zero =>
    intro i hk s I
    obtain ⟨hz, its, n, rv, ho⟩ := (show ObjOk X.prog X.w H s.heap l (.lst xs) from I.hok l _ hl)
    have h0 := hR s I
    have hle := rv.length
    obtain ⟨hp, g, d, tk, os⟩ := s
    wp_walk using wpAny_loadPart' ho
    have hi : its.toArray[((i : Nat) : Int).toNat]? = none := by simp; omega
    rw [hi]
    wp_walk
    exact h0
  | succ k ih =>
    intro i hk s I
    obtain ⟨hz, its, n, rv, ho⟩ := (show ObjOk X.prog X.w H s.heap l (.lst xs) from I.hok l _ hl)
    have hle := rv.length
    have hlt : i < xs.length := by omega
    have hxi : xs[i]? = some xs[i] := List.getElem?_eq_getElem hlt
    obtain ⟨u, eu, ru⟩ := rv.get hxi
    have step := eqb_own (Q := fun b s' => b = false ∧ Inv X pins σ H s') c I hr hs (hx _ (List.getElem_mem hlt)) ru (fun s' I' => ⟨rfl, I'⟩)
    obtain ⟨hp, g, d, tk, os⟩ := s
    wp_walk using wpAny_loadPart' ho
    have hi : its.toArray[((i : Nat) : Int).toNat]? = some u := by
      rw [Int.toNat_natCast]
      simpa using eu
    rw [hi]
    refine wpAny_bind (wpAny_mono step (fun b s' hb => ?_) fun e s' he => hE e s' he)
    obtain ⟨rfl, I'⟩ := hb
    have hc : ((i : Int) + 1) = ((i + 1 : Nat) : Int) := by omega
    wp_walk
    rw [hc]
    exact ⟨plainId_quiet plain_contains_loop _, codeAny_builtin entry_contains_loop (by
      rw [Around.under_plainId plain_contains_loop _]
      exact ih (i + 1) (by omega) s' I')⟩
/-- x in [..], x a spread, no spread among the items -/
def rInOwn (C : Addr) : R2 := fun x y H Q => ∃ (a l : Addr) (T : K46.Tl) (xs : List V), x = .ref a ∧ y = .ref l ∧ Wk.SprAt C H a T ∧ H l = some (.lst xs) ∧ (∀ y ∈ xs, Wk.Vk C H y none) ∧ Q (.bl false) H
open MeetsSeq MeetsSeq2 MeetsSeq3 in
theorem op_inOwn {k : Nat} (c : EqC X.prog X.w X.K X.mg X.base C) (hr : Room (k + 2) X.A) : OpR X (compareOp .In) (rInOwn C) := by
  intro pins s σ H x y v u Q I rx ry h
  obtain ⟨a, l, T, xs, rfl, rfl, hs, hl, hx, q⟩ := h
  cases rx
  cases ry
  obtain ⟨hz, its, n, rv, ho⟩ := (show ObjOk X.prog X.w H s.heap l (.lst xs) from I.hok l _ hl)
  have hT : s.TypeIs (.ref l) "list" := ⟨_, ho, rfl⟩
  have hr1 : Room 1 X.A.in1 := (hr.mono (by omega) : Room 2 X.A).in1
  show wpAny _ X.A (contains (.ref l) (.ref a) >>= fun b => pure (Value.bool b)) _ _ s
  have g : MeetsIn X.prog X.w (Builtin.«list.__contains__» ⟨[.ref l, .ref a], []⟩) (fun A R s => A = X.A ∧ Inv X pins σ H s ∧ (∀ s, Inv X pins σ H s → R (.ok (.ret (.bool false))) s) ∧ ∀ e s', X.xe e s' → R (.error e) s') := by
    intro A R s h
    obtain ⟨rfl, I, hR, hE⟩ := h
    obtain ⟨hz, its, n, rv, ho⟩ := (show ObjOk X.prog X.w H s.heap l (.lst xs) from I.hok l _ hl)
    obtain ⟨hp, g, d, tk, os⟩ := s
    wp_walk using wpAny_loadPart' ho
    exact ⟨plainId_quiet plain_contains_loop _, codeAny_builtin entry_contains_loop (by
      rw [Around.under_plainId plain_contains_loop _]
      exact loop_own c hr1 hs hl hx hR hE _ 0 rfl _ I)⟩
  refine wpAny_bind (wpAny_contains_slot hT F.slot_list_contains (wpAny_mono (call_meetsIn (Q := fun v s' => v = .bool false ∧ Inv X pins σ H s') F.slot_list_contains hT F.entry_list_contains (F.args_list_contains_2 _ _) g ⟨rfl, I, fun s' I' => ⟨rfl, I'⟩, fun _ _ z => z⟩) (fun v s' hv => ?_) fun _ _ z => z))
  obtain ⟨rfl, I'⟩ := hv
  exact wpAny_truthy_bool (wpAny_pure ⟨.bl false, H, I', rfl, q⟩)
/-- x in [..]: data, or a spread -/
def rInA (K : PySem.W.Frag) (C : Addr) : R2 := fun x y H Q => rInD K x y H Q ∨ rInOwn C x y H Q
theorem op_inA {k : Nat} (c : EqC X.prog X.w X.K X.mg X.base C) (hr : Room (k + 2) X.A) : OpR X (compareOp .In) (rInA X.K C) := by
  intro pins s σ H x y v u Q I rx ry h
  rcases h with h | h
  · exact op_inD (by have := hr.un; omega) pins s σ H x y v u Q I rx ry h
  · exact op_inOwn c hr pins s σ H x y v u Q I rx ry h
end
end Sn
end
section
set_option Elab.async false
set_option linter.all false
set_option autoImplicit false
set_option maxRecDepth 100000
set_option maxHeartbeats 2000000
/-! Spread's own ==; what is drawn is good. -/
namespace Wk
open PySem L2 K46 SlX GenW RZ
section
variable {P : Program} {w : World} {K : PySem.W.Frag} {mg : Str → Option Value} {base : Heap}
abbrev sEqM : Stmt := inClass (topS 15) 6
theorem scB7 : FnScope ["self", "other"] ["self", "other"] (C8.fnScope sEqM) := C8.fnScope_by (by decide +kernel)
theorem ok_eq {f C : Addr} {fd : FuncData} (F : C8.Fun K "__eq__" "Spread.__eq__" sEqM f fd) (T : SpC K mg C) (TK : SpK K C) (N : Nm mg) : FnOk P w K mg base CX0 1 f fd ["self", "other"] (Sn.spEq C) := by
  refine C8.fn0 F scB7 (fun vs H Q E h => ?_) (fun cdv A outer s H vs Q E hr h => ?_)
  · obtain ⟨a, U, y, rfl, _⟩ := h
    rfl
  · obtain ⟨a, U, y, rfl, hs, hy, k⟩ := h
    refine ⟨_, pss_one (ps_ret (pe_and (pe_callB (call_isiA (.ref C)) (by rfl) N.isi (by decide +kernel) (pa_cons (pv 1) (pa_cons (pe_glob (v := .ref C) rfl T.mg rfl) pa_nil))) (pe_one (pe_cmpR op_eq (pe_sl (pv 0)) (pe_sl (pv 1)) (nomark _))))), ?_⟩
    exact ⟨_, rfl, vk_isi T TK hy ⟨_, rfl, iteF k⟩⟩
end
/-! ### what is drawn -/
theorem sum_le_mul : ∀ (h : List Nat) (m : Nat), (∀ x ∈ h, x ≤ m) → h.sum ≤ h.length * m
  | [], m, _ => Nat.zero_le _
  | x :: r, m, hx => by
    have ih := sum_le_mul r m fun y hy => hx y (List.mem_cons_of_mem _ hy)
    have h1 := hx x List.mem_cons_self
    rw [List.sum_cons, List.length_cons, Nat.succ_mul]
    omega
theorem fits_around {T : Tl} {h : List Nat} (a : Around T h) : Fits T h := by
  refine ⟨a.n.symm, a.r0, a.r1, a.d0, a.d1, ?_⟩
  rcases a.mo with e | ⟨m, t, e, h1, it, h2, h3⟩
  · rw [e]
    rfl
  · rw [e, under_some]
    intro x hx
    exact Nat.le_trans (it.2 x hx) h2
theorem good_around {T : Tl} {h : List Nat} (a : Around T h) (h1 : 1 ≤ h.length) (h4 : h.length ≤ 4) (hm : ∀ x ∈ h, x ≤ if h.length < 4 then 2 else 1) : GoodT T ∧ T.r1 ≤ 8 := by
  have en := a.n
  have hs := sum_le_mul h _ hm
  have hk := kinds_le_length h
  have a0 := a.r0
  have a1 := a.r1
  have a2 := a.r2
  have b0 := a.d0
  have b1 := a.d1
  have hsum : h.sum ≤ 6 ∧ h.sum ≤ capOf h.length := by
    unfold capOf
    match h.length, h1, h4, hs with
    | 1, _, _, hs =>
      have hs' : h.sum ≤ 1 * 2 := hs
      exact ⟨by omega, by rw [if_neg (by decide)]; omega⟩
    | 2, _, _, hs =>
      have hs' : h.sum ≤ 2 * 2 := hs
      exact ⟨by omega, by rw [if_neg (by decide)]; omega⟩
    | 3, _, _, hs =>
      have hs' : h.sum ≤ 3 * 2 := hs
      exact ⟨by omega, by rw [if_pos rfl]; omega⟩
    | 4, _, _, hs =>
      have hs' : h.sum ≤ 4 * 1 := hs
      exact ⟨by omega, by rw [if_neg (by decide)]; omega⟩
  refine ⟨⟨⟨by omega, by omega, by rw [en]; omega, ?_⟩, ⟨h, fits_around a⟩, by omega, by omega, by omega, by omega⟩, by omega⟩
  rcases a.mo with e | ⟨m, t, e, g1, it, g2, g3⟩
  · rw [e]
    simp [mosts]
  · rw [e]
    have ht : t ≤ 2 := by
      have := hm t it.1
      split at this <;> omega
    have : m = 1 ∨ m = 2 ∨ m = 3 := by omega
    rcases this with rfl | rfl | rfl <;> simp [mosts]
/-- the heights that the law takes -/
def fitL (T : Tl) : List (List Nat) := (splits T.r1 T.n).filter fun h => decide (Fits T h)
theorem mem_fitL {T : Tl} {h : List Nat} : h ∈ fitL T ↔ Fits T h := by
  unfold fitL
  rw [List.mem_filter, mem_splits, decide_eq_true_eq]
  exact ⟨fun z => z.2, fun z => ⟨⟨z.1, z.2.2.1⟩, z⟩⟩
def sortL (T : Tl) : List (List Nat) := (fitL T).filter fun h => sortedD h
theorem mem_sortL {T : Tl} {h : List Nat} : h ∈ sortL T ↔ Fits T h ∧ sortedD h = true := by
  unfold sortL
  rw [List.mem_filter, mem_fitL]
/-- any two heights, the first one in order -/
theorem in_order {T U : Tl} (hn : T.n = U.n) {h g : List Nat} (f : Fits T h) (f' : Fits U g) : ∃ h' g', h' ∈ sortL T ∧ g' ∈ fitL U ∧ dot h' g' = dot h g := by
  obtain ⟨h', g', p1, p2, so, e⟩ := sort_both h g (by rw [f.1, f'.1, hn])
  exact ⟨h', g', mem_sortL.mpr ⟨fits_perm p1 f, so⟩, mem_fitL.mpr (fits_perm p2 f'), e⟩
theorem sortL_ne {T U : Tl} (hn : T.n = U.n) (gt : GoodT T) (gu : GoodT U) : sortL T ≠ [] ∧ fitL U ≠ [] := by
  obtain ⟨h, f⟩ := gt.fit
  obtain ⟨g, f'⟩ := gu.fit
  obtain ⟨h', g', m1, m2, _⟩ := in_order hn f f'
  exact ⟨List.ne_nil_of_mem m1, List.ne_nil_of_mem m2⟩
/-- the answer is the law's own -/
theorem ans_due {T U : Tl} (hn : T.n = U.n) {d hi lo : Nat} (hd : d < 2) {hs gs : List Nat} (an : AnsOf d T U hs gs) (h1 : IsHi (sortL T) (fitL U) hi) (h2 : IsLo (sortL T) (fitL U) lo) : Fits T hs ∧ Fits U gs ∧ dot hs gs = (if d = 0 then hi else lo) := by
  match d, hd with
  | 0, _ =>
    have an' : AnsG T U hs gs := an
    obtain ⟨f, f', best⟩ := an'
    refine ⟨f, f', ?_⟩
    rw [if_pos rfl]
    obtain ⟨⟨h, g, m1, m2, e⟩, all⟩ := h1
    obtain ⟨h', g', n1, n2, e'⟩ := in_order hn f f'
    have q1 := all h' g' n1 n2
    obtain ⟨fh, sh⟩ := mem_sortL.mp m1
    have q2 := best h g fh sh (mem_fitL.mp m2)
    omega
  | 1, _ =>
    have an' : AnsL T U hs gs := an
    obtain ⟨f, f', best⟩ := an'
    refine ⟨f, f', ?_⟩
    rw [if_neg (by decide)]
    obtain ⟨⟨h, g, m1, m2, e⟩, all⟩ := h2
    obtain ⟨h', g', n1, n2, e'⟩ := in_order hn f f'
    have q1 := all h' g' n1 n2
    obtain ⟨fh, sh⟩ := mem_sortL.mp m1
    have q2 := best h g fh (mem_fitL.mp m2)
    omega
/-- the odd spread -/
theorem fine_odd {n : Nat} (h : n ≤ 4) : Fine ⟨n + 1, 0, 9, 0, 9, none⟩ := by
  refine ⟨by show 1 ≤ n + 1; omega, by show n + 1 ≤ 64; omega, by show 0 ≤ 9; omega, by show 0 ≤ 9; omega, by show 0 ≤ 1000; omega, fun k e => (nomatch e), ?_⟩
  refine List.ne_nil_of_mem (a := (0, 0, 0)) (mem_pairs.mpr ⟨Nat.le_refl _, Nat.zero_le _, Nat.zero_le _, rfl, ?_, Nat.le_refl _⟩)
  rw [hiOf_zero]
end Wk
end
section
set_option Elab.async false
set_option linter.all false
set_option autoImplicit false
set_option maxRecDepth 100000
set_option maxHeartbeats 4000000
/-! The law: its parts. -/
namespace Wk
open PySem L2 K46 SlX GenW RZ
abbrev sLaw : Stmt := topS 37
abbrev nmLaw : List Str := ["_law_script", "_law_k", "_law_cell", "_law_state", "_law_turn", "_law_size", "_law_most", "_law_first", "_law_second", "_law_some", "_law_others", "_law_due", "_law_door", "_law_number", "_law_one", "_law_other", "_law_odd", "_law_heights_here", "_law_left", "_law_right"]
theorem scL : FnScope nmLaw ["_law_script"] (C8.fnScope sLaw) := C8.fnScope_by (by decide +kernel)
def forB : Stmt → List Stmt
  | .For (body := b) .. => b
  | _ => []
def nth (l : List Stmt) (i : Nat) : Stmt := l.getD i (.Pass ⟨0, 0, 0, 0⟩)
/-- the outer for, its body; the turn's body -/
abbrev sOuter : Stmt := nth (C8.fnBody sLaw) 0
abbrev sTurn : Stmt := nth (forB sOuter) 1
abbrev tBody : List Stmt := forB sTurn
/-- what the law calls -/
structure LawC (P : Program) (w : World) (K : PySem.W.Frag) (mg : Str → Option Value) (base : Heap) (C : Addr) : Prop where
  N : Nm mg
  T : SpC K mg C
  pool : Cl0 P w K mg base 2 "_law_pool" spPool []
  draw : Cl0 P w K mg base 1 "_law_draw" spDraw []
  around : Cl0 P w K mg base 2 "_law_around" (spAround K) []
  heights : Cl0 P w K mg base 3 "_law_heights" (spHeights K) []
  splits : Cl0 P w K mg base 5 "_law_splits" (spSplits K 4) []
  holds : Cl0 P w K mg base 2 "_law_holds" (spHolds K) []
  sorted : Cl0 P w K mg base 1 "_law_sorted_only" (spSorted K) []
  ends : Cl0 P w K mg base 1 "_law_ends" (spEnds K) []
  told : Cl0 P w K mg base 9 "_law_told_of" (spToldOf K C) []
  made : Cl0 P w K mg base 6 "_law_made" (spMade C) []
  eq : Sn.EqC P w K mg base C
  mks : MkC P w K mg base C
/-- a statement that goes on, never returns -/
def Goes (X : Cx) (st : Stmt) (Pre Post : L2.St → Hp → Prop) : Prop := ∃ t, PS X st t ∧ ∀ (D : Ends) (σ : L2.St) (H : Hp), Pre σ H → (∀ σ' H', Post σ' H' → D.nx σ' H') → t D σ H
section
variable {P : Program} {w : World} {K : PySem.W.Frag} {mg : Str → Option Value} {base : Heap} {C : Addr}
abbrev xL (P : Program) (w : World) (K : PySem.W.Frag) (mg : Str → Option Value) (base : Heap) (f : Addr) (cdv : Value) (A : PySem.Around) (outer : List Env) (s : Shared) (H : Hp) (E : XK) : Cx := (cxOf C8.CX0 P w K mg base nmLaw "law" (C8.fnScope sLaw) f cdv A outer s H E).nox
/-- the slots -/
abbrev sl (x0 x1 x2 x3 x4 x5 x6 x7 x8 x9 x10 x11 x12 x13 x14 x15 x16 : Option V) : L2.St := [x0, x1, x2, x3, x4, x5, x6, x7, x8, x9, x10, x11, x12, x13, x14, x15, x16, none, none, none]
abbrev sDoors : Stmt := nth tBody 7
theorem goes_doors {f : Addr} {cdv : Value} {A : PySem.Around} {outer : List Env} {s : Shared} {Hz : Hp} {E : XK} (L : LawC P w K mg base C) (hr : Room 11 (xL P w K mg base f cdv A outer s Hz E).A) :
    ∃ t, PS (xL P w K mg base f cdv A outer s Hz E) sDoors t ∧ ∀ (p1 p2 dl : Addr) (T U : Tl) (hi lo : Nat) (H0 : Hp) (hn : T.n = U.n) (gt : GoodT T) (gu : GoodT U) (ti : IsHi (sortL T) (fitL U) hi) (to : IsLo (sortL T) (fitL U) lo) (ht : TolAt H0 p1 T) (hu : TolAt H0 p2 U) (hd : H0 dl = some (.lst [iV hi, iV lo])) (x0 x1 x2 x3 x4 x5 x6 x9 x10 : Option V) (D : Ends) (σ : L2.St) (H : Hp), (fun σ H => ∃ x12 x13 x14 x15 x16, σ = sl x0 x1 x2 x3 x4 x5 x6 (some (.ref p1)) (some (.ref p2)) x9 x10 (some (.ref dl)) x12 x13 x14 x15 x16 ∧ H = H0) σ H → (∀ σ' H', (fun σ H => ∃ x12 x13 x14 x15 x16, σ = sl x0 x1 x2 x3 x4 x5 x6 (some (.ref p1)) (some (.ref p2)) x9 x10 (some (.ref dl)) x12 x13 x14 x15 x16 ∧ Same H0 H) σ' H' → D.nx σ' H') → t D σ H := by
  refine ⟨_, ps_for PassesOwn.never rfl (pi_range1 rfl L.N.rng (pa_cons pe_int pa_nil)) (pg_name (i := 12) scL.nd rfl (Or.inl rfl))
    (pss_cons (ps_asg (C8.pe_c L.told hr (by decide) rfl (pa_cons (pv 12) (pa_cons (C8.pe_c L.made hr (by decide) rfl (pa_cons (pv 7) pa_nil)) (pa_cons (C8.pe_c L.made hr (by decide) rfl (pa_cons (pv 8) pa_nil)) pa_nil)))) (pg_tup (by rfl) (pgs_cons (pg_name (i := 13) scL.nd rfl (Or.inl rfl)) (pgs_cons (pg_name (i := 14) scL.nd rfl (Or.inl rfl)) (pgs_cons (pg_name (i := 15) scL.nd rfl (Or.inl rfl)) pgs_nil)))))
    (pss_cons (ps_if (PW.pt (pw_or (pt_cmpR op_ne (pv 13) (pe_ix ix_list (pv 11) (pv 12) (fun _ _ => rfl)) (nomark _)) (pw_or (pt_not (pt_val (C8.pe_c L.holds hr (by decide) rfl (pa_cons (pv 7) (pa_cons (pv 14) pa_nil))))) (pw_or1 (pt_not (pt_val (C8.pe_c L.holds hr (by decide) rfl (pa_cons (pv 8) (pa_cons (pv 15) pa_nil))))))))) (pss_one ps_never) pss_nil)
    (pss_one (ps_if (pt_cmpR op_ne (pe_callB (cr_sum (by rfl)) (by rfl) L.N.sm (by decide +kernel) (pa_cons (pe_lc (own := [("_law_left", 18), ("_law_right", 19)]) (g := gTup K 2 (gCons (gName 18) (gCons (gName 19) gNil))) (tt := tYes) (te := tOp (rI CMul fun i j => .int (i * j)) (tVar 18) (tVar 19)) (by rfl) scL.nd
        (pi_zipA (by rfl) L.N.zip (pa_cons (pv 14) (pa_cons (pv 15) pa_nil))) (blkOk_by (own := [("_law_left", 18), ("_law_right", 19)]) (N := nmLaw) (sc := C8.fnScope sLaw) (by decide +kernel))
        (fun _ _ _ _ _ => pg_tup (by rfl) (pgs_cons (pg_name (i := 18) scL.nd rfl (Or.inl rfl)) (pgs_cons (pg_name (i := 19) scL.nd rfl (Or.inl rfl)) pgs_nil))) (fun _ _ _ _ _ => pts_nil) (fun _ _ _ _ _ => pe_op op_mul (pv 18) (pv 19))) pa_nil)) (pv 13) (nomark _)) (pss_one ps_never) pss_nil)))), ?_⟩
  rintro p1 p2 dl T U hi lo H0 hn gt gu ti to ht hu hd x0 x1 x2 x3 x4 x5 x6 x9 x10 D σ H ⟨x12, x13, x14, x15, x16, rfl, rfl⟩ hD
  refine ⟨2, rfl, by decide, by decide, for_range (lo := 0) (n := 2) (fun i σ H1 => ∃ x12 x13 x14 x15 x16, σ = sl x0 x1 x2 x3 x4 x5 x6 (some (.ref p1)) (some (.ref p2)) x9 x10 (some (.ref dl)) x12 x13 x14 x15 x16 ∧ Same H H1) ⟨_, _, _, _, _, rfl, Same.refl _⟩ ?_ ?_⟩
  · rintro i σ H1 hi2 ⟨x12, x13, x14, x15, x16, rfl, s1⟩
    have e0 : (0 : Int) + (i : Int) = (i : Int) := Int.zero_add _
    rw [e0]
    have at_ : atI [iV hi, iV lo] (i : Int) = some (iV (if i = 0 then hi else lo)) := by
      match i, hi2 with
      | 0, _ => exact atI0
      | 1, _ => exact atI1
    refine ⟨_, rfl, _, rfl, p1, T, rfl, tol_same s1 ht, gt.fine, fun H2 a s2 ha => ⟨_, rfl, p2, U, rfl, tol_same (s1.trans s2) hu, gu.fine, fun H3 b s3 hb => ?_⟩⟩
    refine ⟨i, .ref a, .ref b, hi2, rfl, .inl ⟨a, b, T, U, rfl, rfl, spr_same s3 ha, hb, hn, gt, gu, fun H4 p u v hs gs s4 hp hus hvs an => ?_⟩⟩
    refine ⟨p, _, rfl, tupT hp, rfl, _, _, rfl, _, _, rfl, _, _, rfl, rfl, ?_⟩
    obtain ⟨fit1, fit2, edot⟩ := ans_due hn hi2 an ti to
    have s14 : Same H H4 := (s1.trans s2).trans (s3.trans s4)
    have n1 : hs ≠ [] := fun z => by
      have := fit1.1
      have := gt.small.n1
      rw [z] at fit1
      have := fit1.1
      simp at this
      omega
    have n2 : gs ≠ [] := fun z => by
      have := gu.small.n1
      rw [z] at fit2
      have := fit2.1
      simp at this
      omega
    have l1 : hs.length ≤ 1000 := by
      have := fit1.1
      have := gt.n64
      omega
    have l2 : gs.length ≤ 1000 := by
      have := fit2.1
      have := gu.n64
      omega
    refine ⟨_, rfl, _, rfl, _, rfl, dl, _, _, _, rfl, rfl, lstL (s14 _ _ hd), at_, rfl, _, rfl, ?_⟩
    rw [edot, decide_eq_true rfl]
    refine iteF ⟨_, rfl, _, rfl, p1, u, T, hs, rfl, tol_same s14 ht, hus, n1, l1, fun H5 s5 => ⟨_, rfl, ?_⟩⟩
    rw [decide_eq_true fit1]
    refine iteF ⟨_, rfl, _, rfl, p2, v, U, gs, rfl, tol_same (s14.trans s5) hu, stT s5 hvs, n2, l2, fun H6 s6 => ⟨_, rfl, ?_⟩⟩
    rw [decide_eq_true fit2]
    refine iteF ?_
    have hus6 := stT (s5.trans s6) hus
    have hvs6 := stT (s5.trans s6) hvs
    refine ⟨_, rfl, _, rfl, u, v, _, _, rfl, .inr ⟨hus6, hvs6, zip_in hus6 hvs6 (by rw [fit1.1, fit2.1, hn]) l1 (small_mem gt fit1) (fun _ _ => rfl) (fun _ _ => rfl) (fun _ _ => rfl) fun Dl H7 s7 hDl => ⟨Dl, _, rfl, lstL hDl, ?_⟩⟩⟩
    rw [prI_sum, edot]
    refine ⟨_, rfl, rfl, _, rfl, ?_⟩
    rw [decide_eq_true rfl]
    exact iteF ⟨_, _, _, _, _, rfl, s14.trans (s5.trans (s6.trans s7))⟩
  · rintro σ H1 ⟨x12, x13, x14, x15, x16, rfl, s1⟩
    exact hD _ _ ⟨_, _, _, _, _, rfl, s1⟩
end
end Wk
end
section
set_option Elab.async false
set_option linter.all false
set_option autoImplicit false
set_option maxRecDepth 100000
set_option maxHeartbeats 4000000
/-! The law: the odd ones. -/
namespace Wk
open PySem L2 K46 SlX GenW RZ
def mD : Option Nat → PyData
  | none => .none
  | some m => .int (m : Int)
def tolD (T : Tl) : PyData := .tuple [.int (T.n : Int), .tuple [.int (T.r0 : Int), .int (T.r1 : Int)], .tuple [.int (T.d0 : Int), .int (T.d1 : Int)], mD T.most]
def oddD (T : Tl) : List PyData := [.none, tolD T, .int 5]
theorem mD_lay (m : Option Nat) : (mD m).canLay0 = true ∧ (mD m).depth = 0 := by
  cases m with
  | none => exact ⟨by simp [mD, PyData.canLay0], by simp [mD, PyData.depth]⟩
  | some k => exact ⟨by simp [mD, PyData.canLay0], by simp [mD, PyData.depth]⟩
theorem tolD_lay (T : Tl) : (tolD T).canLay0 = true ∧ (tolD T).depth ≤ 3 := by
  obtain ⟨h1, h2⟩ := mD_lay T.most
  exact ⟨by simp [tolD, PyData.canLay0, PyData.canLayAll0, h1], by simp [tolD, PyData.depth, PyData.depthAll, h2]⟩
theorem lay_mem {T : Tl} {d : PyData} (h : d ∈ oddD T) : d.canLay0 = true ∧ d.depth ≤ 3 := by
  unfold oddD at h
  simp only [List.mem_cons, List.not_mem_nil, or_false] at h
  rcases h with rfl | rfl | rfl
  · exact ⟨by simp [PyData.canLay0], by simp [PyData.depth]⟩
  · exact tolD_lay T
  · exact ⟨by simp [PyData.canLay0], by simp [PyData.depth]⟩
theorem shaped_of {d : PyData} (h1 : d.canLay0 = true) (h2 : d.depth ≤ 64) : SeqAt.shaped d = true := by
  show (d.canLay0 && decide (d.depth ≤ 64)) = true
  rw [Bool.and_eq_true]
  exact ⟨h1, decide_eq_true h2⟩
theorem odd_shaped (T : Tl) : SeqAt.shaped (.list (oddD T)) = true := by
  obtain ⟨h1, h2⟩ := tolD_lay T
  refine shaped_of ?_ ?_
  · simp [oddD, PyData.canLay0, PyData.canLayAll0, h1]
  · simp only [oddD, PyData.depth, PyData.depthAll]
    omega
theorem dp_mV {K : PySem.W.Frag} {H : Hp} (m : Option Nat) : Dp K H (mV m) (mD m) := by
  cases m with
  | none => exact .non
  | some k => exact .int _
theorem dp_tol {K : PySem.W.Frag} {H : Hp} {p : Addr} {T : Tl} (h : TolAt H p T) : Dp K H (.ref p) (tolD T) := by
  obtain ⟨rb, db, h1, h2, h3⟩ := h
  exact .tup (tupT h1) (.cons (.int _) (.cons (.tup (tupT h2) (.cons (.int _) (.cons (.int _) .nil))) (.cons (.tup (tupT h3) (.cons (.int _) (.cons (.int _) .nil))) (.cons (dp_mV _) .nil))))
theorem dp_odds {K : PySem.W.Frag} {H : Hp} {p l : Addr} {T : Tl} (h : TolAt H p T) (hl : H l = some (.lst [.non, .ref p, .int 5])) : Dp K H (.ref l) (.list (oddD T)) :=
  .lst (lstL hl) (.cons .non (.cons (dp_tol h) (.cons (.int 5) .nil)))
/-- one that no join takes -/
def OddV (C : Addr) (H : Hp) (p : Addr) (n : Nat) (y : V) : Prop := y = .non ∨ y = .ref p ∨ y = .int 5 ∨ ∃ e, y = .ref e ∧ SprAt C H e ⟨n + 1, 0, 9, 0, 9, none⟩
theorem odd_ok {C : Addr} {H : Hp} {p : Addr} {n : Nat} {y : V} (h : OddV C H p n y) : Sn.Okv y := by
  rcases h with rfl | rfl | rfl | ⟨e, rfl, _⟩
  · exact .inr ⟨rfl, rfl⟩
  · exact .inl ⟨_, rfl⟩
  · exact .inr ⟨rfl, rfl⟩
  · exact .inl ⟨_, rfl⟩
theorem odd_same {C : Addr} {H H' : Hp} {p : Addr} {n : Nat} {y : V} (s : Same H H') (h : OddV C H p n y) : OddV C H' p n y := by
  rcases h with h | h | h | ⟨e, h, q⟩
  · exact .inl h
  · exact .inr (.inl h)
  · exact .inr (.inr (.inl h))
  · exact .inr (.inr (.inr ⟨e, h, spr_same s q⟩))
theorem odd_vk {C : Addr} {H : Hp} {p : Addr} {n : Nat} {y : V} {T : Tl} (t : TolAt H p T) (h : OddV C H p n y) : ∃ ny, Vk C H y ny ∧ ny ≠ some n := by
  rcases h with rfl | rfl | rfl | ⟨e, rfl, q⟩
  · exact ⟨_, .non, fun z => nomatch z⟩
  · obtain ⟨rb, db, h1, _⟩ := t
    exact ⟨_, .tup h1, fun z => nomatch z⟩
  · exact ⟨_, .int 5, fun z => nomatch z⟩
  · exact ⟨_, .spr q, fun z => by
      have := Option.some.inj z
      have e2 : n + 1 = n := this
      omega⟩
section
variable {P : Program} {w : World} {K : PySem.W.Frag} {mg : Str → Option Value} {base : Heap} {C : Addr}
abbrev sOdds : Stmt := nth tBody 8
theorem goes_odds {f : Addr} {cdv : Value} {A : PySem.Around} {outer : List Env} {s : Shared} {Hz : Hp} {E : XK} (L : LawC P w K mg base C) (hr : Room 11 (xL P w K mg base f cdv A outer s Hz E).A) :
    ∃ t, PS (xL P w K mg base f cdv A outer s Hz E) sOdds t ∧ ∀ (p1 : Addr) (T : Tl) (H0 : Hp) (gt : GoodT T) (ht : TolAt H0 p1 T) (x0 x1 x2 x3 x4 x6 x8 x9 x10 x11 : Option V) (D : Ends) (σ : L2.St) (H : Hp), (fun σ H => ∃ x12 x13 x14 x15 x16, σ = sl x0 x1 x2 x3 x4 (some (iV T.n)) x6 (some (.ref p1)) x8 x9 x10 x11 x12 x13 x14 x15 x16 ∧ H = H0) σ H → (∀ σ' H', (fun σ H => ∃ x12 x13 x14 x15 x16, σ = sl x0 x1 x2 x3 x4 (some (iV T.n)) x6 (some (.ref p1)) x8 x9 x10 x11 x12 x13 x14 x15 x16 ∧ Same H0 H) σ' H' → D.nx σ' H') → t D σ H := by
  obtain ⟨g, fdg, tk, m1, F1, _, b1⟩ := L.mks.ex
  have FR := F1.raw b1 (dvs := [V.non]) (.cons rfl .nil)
  have hu : A.units + 3 < cLine := by have := hr.un; have e : (xL P w K mg base f cdv A outer s Hz E).A.units = A.units + 3 := rfl; omega
  refine ⟨_, ps_for PassesOwn.never rfl (pi_list (pe_lst (pa_cons pe_non (pa_cons (pv 7) (pa_cons pe_int (pa_cons (StX.pe_makeR m1 FR (hr.mono (by decide)) rfl L.T.mg (E := E0) (fun _ _ _ _ _ _ _ z => z.elim) (pa_cons (pe_op op_add (pv 5) pe_int) (pa_cons (pe_tup (pa_cons pe_int (pa_cons pe_int pa_nil))) (pa_cons (pe_tup (pa_cons pe_int (pa_cons pe_int pa_nil))) pa_nil)))) pa_nil)))))) (pg_name (i := 16) scL.nd rfl (Or.inl rfl))
    (pss_one (ps_for PassesOwn.never rfl (pi_range1 rfl L.N.rng (pa_cons pe_int pa_nil)) (pg_name (i := 12) scL.nd rfl (Or.inl rfl))
      (pss_cons (ps_if (pt_cmpR (Sn.op_neO hu) (C8.pe_c L.told hr (by decide) rfl (pa_cons (pv 12) (pa_cons (C8.pe_c L.made hr (by decide) rfl (pa_cons (pv 7) pa_nil)) (pa_cons (pv 16) pa_nil)))) (pe_lst (pa_cons pe_str (pa_cons (pv 16) pa_nil))) (nomark _)) (pss_one ps_never) pss_nil)
      (pss_one (ps_if (PW.pt (pw_and (pt_cmpR (Sn.op_inA (k := 9) L.eq hr) (pv 16) (pe_lst (pa_cons pe_non (pa_cons (pv 7) (pa_cons pe_int pa_nil)))) (by rfl)) (pw_and1 (pt_cmpR (Sn.op_neO hu) (C8.pe_c L.told hr (by decide) rfl (pa_cons (pv 12) (pa_cons (pv 16) (pa_cons pe_non pa_nil)))) (pe_lst (pa_cons pe_str (pa_cons (pv 16) pa_nil))) (nomark _))))) (pss_one ps_never) pss_nil))))), ?_⟩
  rintro p1 T H0 gt ht x0 x1 x2 x3 x4 x6 x8 x9 x10 x11 D σ H ⟨x12, x13, x14, x15, x16, rfl, rfl⟩ hD
  refine ⟨_, rfl, _, rfl, _, _, rfl, rfl, szl (by show 2 ≤ 100000; decide), fun t1 ht1 => ⟨szl (by show 2 ≤ 100000; decide), fun t2 ht2 => ?_⟩⟩
  have s1 := same_new (o := .tup [.int 0, .int 9]) ht1
  have s2 := same_new (o := .tup [.int 0, .int 9]) ht2
  intro e dx he hdx ne
  show spInit C (V.ref e :: [V.int ((T.n : Int) + 1), .ref t1, .ref t2, .non]) _ _ _
  rw [show (T.n : Int) + 1 = ((T.n + 1 : Nat) : Int) by omega]
  refine init_call (T := ⟨T.n + 1, 0, 9, 0, 9, none⟩) he hdx ne (s2 _ _ upd_same) upd_same (fine_odd gt.small.n4) fun H3 s3 he3 => ⟨rfl, ?_⟩
  refine ⟨szl (by show 4 ≤ 100000; decide), fun l hl => ?_⟩
  have s4 := same_new (o := .lst [.non, .ref p1, .int 5, .ref e]) hl
  obtain ⟨H4, e4⟩ : ∃ H4, H4 = upd H3 l (.lst [.non, .ref p1, .int 5, .ref e]) := ⟨_, rfl⟩
  have hl4 : H4 l = some (.lst [.non, .ref p1, .int 5, .ref e]) := by rw [e4]; exact upd_same
  have s04 : Same H H4 := by rw [e4]; exact (s1.trans s2).trans (s3.trans s4)
  have he4 : SprAt C H4 e ⟨T.n + 1, 0, 9, 0, 9, none⟩ := by rw [e4]; exact spr_same s4 he3
  rw [← e4]
  refine ⟨l, rfl, ⟨_, lstL hl4⟩, for_list (K := K) (a := l) (xs := [.non, .ref p1, .int 5, .ref e]) (fun i σ H5 => ∃ x12 x13 x14 x15 x16, σ = sl x0 x1 x2 x3 x4 (some (iV T.n)) x6 (some (.ref p1)) x8 x9 x10 x11 x12 x13 x14 x15 x16 ∧ Same H4 H5) ⟨_, _, _, _, _, rfl, Same.refl _⟩ (fun i σ H5 _ ⟨_, _, _, _, _, _, s5⟩ => lstL (s5 _ _ hl4)) ?_ ?_⟩
  · rintro i y σ H5 hi ⟨x12, x13, x14, x15, x16, rfl, s5⟩
    have oy : OddV C H5 p1 T.n y := by
      match i, hi with
      | 0, hi => exact .inl (Option.some.inj hi).symm
      | 1, hi => exact .inr (.inl (Option.some.inj hi).symm)
      | 2, hi => exact .inr (.inr (.inl (Option.some.inj hi).symm))
      | 3, hi => exact .inr (.inr (.inr ⟨e, (Option.some.inj hi).symm, spr_same s5 he4⟩))
    have s05 := s04.trans s5
    refine ⟨2, rfl, by decide, by decide, for_range (lo := 0) (n := 2) (fun i σ H6 => ∃ x12 x13 x14 x15, σ = sl x0 x1 x2 x3 x4 (some (iV T.n)) x6 (some (.ref p1)) x8 x9 x10 x11 x12 x13 x14 x15 (some y) ∧ Same H5 H6) ⟨_, _, _, _, rfl, Same.refl _⟩ ?_ ?_⟩
    · rintro d σ H6 hd2 ⟨x12, x13, x14, x15, rfl, s6⟩
      have e0 : (0 : Int) + (d : Int) = (d : Int) := Int.zero_add _
      rw [e0]
      have s06 := s05.trans s6
      refine ⟨_, rfl, _, rfl, p1, T, rfl, tol_same s06 ht, gt.fine, fun H7 a s7 ha => ?_⟩
      have s07 := s06.trans s7
      have oy7 := odd_same (s6.trans s7) oy
      obtain ⟨ny, vy, hny⟩ := odd_vk (tol_same s07 ht) oy7
      have okl : ∀ v ∈ [V.str "none", y], Sn.Okv v := fun v hv => by
        rcases List.mem_cons.mp hv with rfl | hv
        · exact .inr ⟨rfl, by simp [eqV]⟩
        · rw [List.mem_singleton] at hv
          rw [hv]
          exact odd_ok oy7
      refine ⟨_, rfl, d, .ref a, y, hd2, rfl, .inr ⟨some T.n, ny, y, .spr ha, vy, .inr ⟨T.n, rfl, hny, rfl⟩, fun H8 L8 s8 hL8 => ?_⟩⟩
      refine ⟨_, rfl, szl (by show 2 ≤ 100000; decide), fun m hm => ?_⟩
      have s9 := same_new (o := .lst [.str "none", y]) hm
      refine ⟨L8, m, _, rfl, rfl, s9 _ _ hL8, upd_same, okl, _, rfl, iteF ?_⟩
      have s89 := s8.trans s9
      have s09 := s07.trans s89
      have oy9 := odd_same s89 oy7
      refine ⟨_, rfl, _, rfl, szl (by show 3 ≤ 100000; decide), fun q hq => ?_⟩
      have s10 := same_new (o := .lst [.non, .ref p1, .int 5]) hq
      have s010 := s09.trans s10
      have t10 := tol_same s010 ht
      have oy10 := odd_same s10 oy9
      have hq10 : (upd (upd H8 m (.lst [.str "none", y])) q (.lst [.non, .ref p1, .int 5])) q = some (.lst [.non, .ref p1, .int 5]) := upd_same
      have s610 := (s7.trans s89).trans s10
      -- data: it is one of them
      have data : ∀ d' : PyData, d' ∈ oddD T → Dp K (upd (upd H8 m (.lst [.str "none", y])) q (.lst [.non, .ref p1, .int 5])) y d' → Vk C (upd (upd H8 m (.lst [.str "none", y])) q (.lst [.non, .ref p1, .int 5])) y none →
          ∀ Z : VK, (Vk C (upd (upd H8 m (.lst [.str "none", y])) q (.lst [.non, .ref p1, .int 5])) y none → Z (.bl true) (upd (upd H8 m (.lst [.str "none", y])) q (.lst [.non, .ref p1, .int 5]))) → Sn.rInA K C y (.ref q) (upd (upd H8 m (.lst [.str "none", y])) q (.lst [.non, .ref p1, .int 5])) Z := fun d' hm' hd' vn Z hZ => by
        obtain ⟨c1, c2⟩ := lay_mem hm'
        refine .inl ⟨d', oddD T, hd', dp_odds t10 hq10, shaped_of c1 (by omega), odd_shaped T, ?_⟩
        have ev : (oddD T).any (fun z => PyData.eqv z d') = true := List.any_eq_true.mpr ⟨d', hm', SeqAt.eqv_refl d' c1⟩
        rw [ev]
        exact hZ vn
      have second : ∀ Z : VK, (Vk C (upd (upd H8 m (.lst [.str "none", y])) q (.lst [.non, .ref p1, .int 5])) y none → Z (.bl true) (upd (upd H8 m (.lst [.str "none", y])) q (.lst [.non, .ref p1, .int 5]))) → Z (.bl false) (upd (upd H8 m (.lst [.str "none", y])) q (.lst [.non, .ref p1, .int 5])) → Sn.rInA K C y (.ref q) (upd (upd H8 m (.lst [.str "none", y])) q (.lst [.non, .ref p1, .int 5])) Z := fun Z hT hF => by
        rcases oy10 with rfl | rfl | rfl | ⟨e', rfl, qs⟩
        · exact data .none (by simp [oddD]) .non .non Z hT
        · obtain ⟨rb, db, g1, g2, g3⟩ := id t10
          exact data (tolD T) (by simp [oddD]) (dp_tol t10) (.tup g1) Z hT
        · exact data (.int 5) (by simp [oddD]) (.int 5) (.int 5) Z hT
        · refine .inr ⟨e', q, _, _, rfl, rfl, qs, hq10, fun y' hy' => ?_, hF⟩
          obtain ⟨rb, db, g1, g2, g3⟩ := id t10
          simp only [List.mem_cons, List.not_mem_nil, or_false] at hy'
          rcases hy' with rfl | rfl | rfl
          · exact .non
          · exact .tup g1
          · exact .int 5
      refine second _ (fun vn => ⟨_, rfl, iteT ?_⟩) ⟨_, rfl, iteF (iteF ⟨_, _, _, _, rfl, s6.trans s610⟩)⟩
      refine ⟨_, rfl, _, rfl, d, y, .non, hd2, rfl, .inr ⟨none, none, y, vn, .non, .inl ⟨rfl, rfl⟩, fun H11 L11 s11 hL11 => ?_⟩⟩
      refine ⟨_, rfl, szl (by show 2 ≤ 100000; decide), fun m2 hm2 => ?_⟩
      have s12 := same_new (o := .lst [.str "none", y]) hm2
      exact ⟨L11, m2, _, rfl, rfl, s12 _ _ hL11, upd_same, okl, _, rfl, iteF ⟨_, _, _, _, rfl, s6.trans (s610.trans (s11.trans s12))⟩⟩
    · rintro σ H6 ⟨x12, x13, x14, x15, rfl, s6⟩
      exact ⟨_, _, _, _, _, rfl, s5.trans s6⟩
  · rintro σ H5 ⟨x12, x13, x14, x15, x16, rfl, s5⟩
    exact hD _ _ ⟨_, _, _, _, _, rfl, s04.trans s5⟩
end
end Wk
end
section
set_option Elab.async false
set_option linter.all false
set_option autoImplicit false
set_option maxRecDepth 100000
set_option maxHeartbeats 4000000
/-! The law: a turn. -/
namespace Wk
open PySem L2 K46 SlX GenW RZ
/-- [h for h in .. if _law_holds(told, h)], its walk: told in slot jv -/
theorem comp_fit {K : PySem.W.Frag} {H3 : Hp} {L3 : Addr} {as3 : List Addr} {l : List (List Nat)} {σ : L2.St} {p : Addr} {T : Tl} {jv : Nat} {Qd : Addr → Hp → Prop} (ha3 : H3 L3 = some (.lst (as3.map V.ref))) (pr3 : HsP K H3 as3 l) (ht : TolAt H3 p T) (hl : l.length ≤ 28561) (hn : ∀ h ∈ l, h ≠ [] ∧ h.length ≤ 1000)
    (w1 : ∀ x : V, wipe ((wipe σ [17]).set 17 (some x)) [17] = wipe σ [17]) (w2 : ∀ x : V, ((wipe σ [17]).set 17 (some x))[jv]? = some (some (.ref p))) (w3 : ∀ x : V, ((wipe σ [17]).set 17 (some x))[17]? = some (some x))
    (hd : ∀ D H', Same H3 H' → H3 D = none → HsAt K H' D (l.filter fun h => decide (Fits T h)) → Qd D H') :
    ∀ D, H3 D = none → ∃ W : Nat → Nat → Hp → Prop, (∃ m, W 0 m (upd H3 D (.lst []))) ∧ ∀ i m H, W i m H →
      ((Itl K L3).stop i H ∧ Qd D H) ∨ ((Itl K L3).go i H ∧ ∃ Nx : Hp → Prop, (∀ H', Nx H' → ∃ m', m' < m ∧ W (i + 1) m' H') ∧ ∀ x H', (Itl K L3).yld i H x H' → gName 17 x (wipe σ [17]) H' fun σ2 H2 => wipe σ2 [17] = wipe σ [17] ∧ tB (tCall (spHolds K) [] C8.E0 (tCons (tVar jv) (tCons (tVar 17) tNil))) σ2 H2 fun b H3 =>
        if b = true then tVar 17 σ2 H3 fun y H4 => ∃ acc, H4 D = some (.lst acc) ∧ acc.length < sizeLine ∧ Nx (upd H4 D (.lst (acc ++ [y]))) else Nx H3) := by
  intro D hD
  have hlen : (as3.map V.ref).length = l.length := by rw [List.length_map]; exact pr3.length
  refine lc_list (xs := as3.map V.ref) (CI H3 D (fun i ys H4 => ∃ bs : List Addr, ys = bs.map V.ref ∧ HsP K H4 bs ((l.take i).filter fun h => decide (Fits T h)))) (ci0 hD ⟨[], rfl, .nil⟩) (fun i H4 _ q => lstL (q.1 _ _ ha3)) ?_ ?_
  · rintro i x H4 hi ⟨s4, ys, hys, hyl, bs, rfl, prb⟩
    have hil : i < 100000 := by have := (List.getElem?_eq_some_iff.mp hi).1; omega
    obtain ⟨c, h, rfl, hq, hc⟩ := hsp_get (hsp_same s4 pr3) hi
    obtain ⟨n1, n2⟩ := hn h (List.mem_of_getElem? hq)
    refine ⟨w1 _, _, w2 _, _, w3 _, p, c, T, h, rfl, tol_same s4 ht, hc, n1, n2, fun H5 s5 => ⟨_, rfl, ?_⟩⟩
    have hys5 := s5 _ _ hys
    by_cases f : Fits T h
    · rw [decide_eq_true f]
      refine iteT ⟨_, w3 _, ci_yes hD hil s4 hys hyl s5 ⟨bs ++ [c], by rw [List.map_append]; rfl, ?_⟩⟩
      rw [take_snoc hq, List.filter_append]
      have e3 : [h].filter (fun h => decide (Fits T h)) = [h] := by simp [f]
      rw [e3]
      exact hsp_app (hsp_upd hys5 (hsp_same s5 prb)) (.cons (stT_upd hys5 (stT s5 hc)) .nil)
    · rw [decide_eq_false f]
      refine iteF (ci_no s4 hys hyl s5 ⟨bs, rfl, ?_⟩)
      rw [take_snoc hq, List.filter_append]
      have e3 : [h].filter (fun h => decide (Fits T h)) = [] := by simp [f]
      rw [e3, List.append_nil]
      exact hsp_same s5 prb
  · rintro H4 ⟨s4, ys, hys, hyl, bs, rfl, prb⟩
    rw [hlen, List.take_length] at prb
    exact hd D H4 s4 hD ⟨bs, hys, prb⟩
theorem tol_but {H H' : Hp} {s l p : Addr} {T : Tl} (e : But s H H') (st : StA H s l) (h : TolAt H p T) : TolAt H' p T := by
  obtain ⟨rb, db, h1, h2, h3⟩ := h
  exact ⟨rb, db, but_tup e st h1, but_tup e st h2, but_tup e st h3⟩
theorem but_same {s : Addr} {H H' H2 : Hp} (b : But s H H') (e : Same H' H2) : But s H H2 := b.trans (sbut e)
section
variable {P : Program} {w : World} {K : PySem.W.Frag} {mg : Str → Option Value} {base : Heap} {C : Addr}
theorem goes_size {f : Addr} {cdv : Value} {A : PySem.Around} {outer : List Env} {s : Shared} {Hz : Hp} {E : XK} (L : LawC P w K mg base C) (hr : Room 11 (xL P w K mg base f cdv A outer s Hz E).A) :
    ∃ t, PS (xL P w K mg base f cdv A outer s Hz E) (nth tBody 0) t ∧ ∀ (st ln : Addr) (x0 x1 x2 x3 x4 x5 x6 x7 x8 x9 x10 x11 x12 x13 x14 x15 x16 : Option V) (D : Ends) (σ : L2.St) (H : Hp), (σ = sl x0 x1 x2 (some (.ref st)) x4 x5 x6 x7 x8 x9 x10 x11 x12 x13 x14 x15 x16 ∧ StA H st ln) → (∀ σ' H', (∃ n : Nat, σ' = sl x0 x1 x2 (some (.ref st)) x4 (some (iV n)) x6 x7 x8 x9 x10 x11 x12 x13 x14 x15 x16 ∧ 1 ≤ n ∧ n ≤ 4 ∧ But st H H' ∧ StA H' st ln) → D.nx σ' H') → t D σ H := by
  refine ⟨_, ps_set (i := 5) scL.nd rfl (Or.inl rfl) (pe_op op_add pe_int (C8.pe_c L.draw hr (by decide) rfl (pa_cons (pv 3) (pa_cons pe_int pa_nil)))), ?_⟩
  rintro st ln x0 x1 x2 x3 x4 x5 x6 x7 x8 x9 x10 x11 x12 x13 x14 x15 x16 D σ H ⟨rfl, hst⟩ hD
  refine ⟨_, rfl, st, ln, 4, rfl, hst, by decide, fun H1 r hr4 b1 st1 => ⟨_, _, rfl, rfl, ?_⟩⟩
  refine hD _ _ ⟨1 + r, ?_, by omega, by omega, b1, st1⟩
  show sl x0 x1 x2 (some (.ref st)) x4 (some (.int (1 + (r : Int)))) x6 x7 x8 x9 x10 x11 x12 x13 x14 x15 x16 = _
  rw [show (1 : Int) + (r : Int) = ((1 + r : Nat) : Int) by omega]
theorem goes_most {f : Addr} {cdv : Value} {A : PySem.Around} {outer : List Env} {s : Shared} {Hz : Hp} {E : XK} (L : LawC P w K mg base C) (hr : Room 11 (xL P w K mg base f cdv A outer s Hz E).A) :
    ∃ t, PS (xL P w K mg base f cdv A outer s Hz E) (nth tBody 1) t ∧ ∀ (n : Nat) (x0 x1 x2 x3 x4 x5 x6 x7 x8 x9 x10 x11 x12 x13 x14 x15 x16 : Option V) (D : Ends) (σ : L2.St) (H : Hp), (σ = sl x0 x1 x2 x3 x4 (some (iV n)) x6 x7 x8 x9 x10 x11 x12 x13 x14 x15 x16) → (∀ σ' H', (σ' = sl x0 x1 x2 x3 x4 (some (iV n)) (some (iV (if n < 4 then 2 else 1))) x7 x8 x9 x10 x11 x12 x13 x14 x15 x16 ∧ H' = H) → D.nx σ' H') → t D σ H := by
  refine ⟨_, ps_set (i := 6) scL.nd rfl (Or.inl rfl) (pe_ifExp (pt_cmpR op_lt (pv 5) pe_int (nomark _)) pe_int pe_int), ?_⟩
  rintro n x0 x1 x2 x3 x4 x5 x6 x7 x8 x9 x10 x11 x12 x13 x14 x15 x16 D σ H rfl hD
  refine ⟨_, rfl, _, _, rfl, rfl, _, rfl, ite2 (fun hc => ?_) fun hc => ?_⟩
  · have h4 : n < 4 := by have := of_decide_eq_true hc; omega
    refine hD _ _ ⟨?_, rfl⟩
    rw [if_pos h4]
    rfl
  · have h4 : ¬ n < 4 := fun z => hc (decide_eq_true (by omega))
    refine hD _ _ ⟨?_, rfl⟩
    rw [if_neg h4]
    rfl
theorem goes_first {f : Addr} {cdv : Value} {A : PySem.Around} {outer : List Env} {s : Shared} {Hz : Hp} {E : XK} (L : LawC P w K mg base C) (hr : Room 11 (xL P w K mg base f cdv A outer s Hz E).A) :
    ∃ t, PS (xL P w K mg base f cdv A outer s Hz E) (nth tBody 2) t ∧ ∀ (st ln : Addr) (n m : Nat) (x0 x1 x2 x3 x4 x5 x6 x7 x8 x9 x10 x11 x12 x13 x14 x15 x16 : Option V) (D : Ends) (σ : L2.St) (H : Hp), (σ = sl x0 x1 x2 (some (.ref st)) x4 (some (iV n)) (some (iV m)) x7 x8 x9 x10 x11 x12 x13 x14 x15 x16 ∧ StA H st ln ∧ 1 ≤ n ∧ n ≤ 4) → (∀ σ' H', (∃ (p : Addr) (T : Tl) (h : List Nat), σ' = sl x0 x1 x2 (some (.ref st)) x4 (some (iV n)) (some (iV m)) (some (.ref p)) x8 x9 x10 x11 x12 x13 x14 x15 x16 ∧ But st H H' ∧ StA H' st ln ∧ TolAt H' p T ∧ Around T h ∧ h.length = n ∧ ∀ x ∈ h, x ≤ m) → D.nx σ' H') → t D σ H := by
  refine ⟨_, ps_set (i := 7) scL.nd rfl (Or.inr rfl) (C8.pe_c L.around hr (by decide) rfl (pa_cons (pv 3) (pa_cons (C8.pe_c L.heights hr (by decide) rfl (pa_cons (pv 3) (pa_cons (pv 5) (pa_cons (pv 6) pa_nil)))) pa_nil))), ?_⟩
  rintro st ln n m x0 x1 x2 x3 x4 x5 x6 x7 x8 x9 x10 x11 x12 x13 x14 x15 x16 D σ H ⟨rfl, hst, n1, n4⟩ hD
  refine ⟨_, rfl, _, rfl, _, rfl, _, rfl, st, ln, n, m, rfl, hst, by omega, fun H2 q h b2 st2 hq hlen hle => ?_⟩
  refine ⟨st, ln, q, h, rfl, st2, tupT hq, fun z => by rw [z] at hlen; simp at hlen; omega, by omega, fun H3 p1 T b3 st3 t3 ar => ?_⟩
  exact hD _ _ ⟨p1, T, h, rfl, b2.trans b3, st3, t3, ar, hlen, hle⟩
theorem goes_second {f : Addr} {cdv : Value} {A : PySem.Around} {outer : List Env} {s : Shared} {Hz : Hp} {E : XK} (L : LawC P w K mg base C) (hr : Room 11 (xL P w K mg base f cdv A outer s Hz E).A) :
    ∃ t, PS (xL P w K mg base f cdv A outer s Hz E) (nth tBody 3) t ∧ ∀ (st ln : Addr) (n m : Nat) (x0 x1 x2 x3 x4 x5 x6 x7 x8 x9 x10 x11 x12 x13 x14 x15 x16 : Option V) (D : Ends) (σ : L2.St) (H : Hp), (σ = sl x0 x1 x2 (some (.ref st)) x4 (some (iV n)) (some (iV m)) x7 x8 x9 x10 x11 x12 x13 x14 x15 x16 ∧ StA H st ln ∧ 1 ≤ n ∧ n ≤ 4) → (∀ σ' H', (∃ (p : Addr) (T : Tl) (h : List Nat), σ' = sl x0 x1 x2 (some (.ref st)) x4 (some (iV n)) (some (iV m)) x7 (some (.ref p)) x9 x10 x11 x12 x13 x14 x15 x16 ∧ But st H H' ∧ StA H' st ln ∧ TolAt H' p T ∧ Around T h ∧ h.length = n ∧ ∀ x ∈ h, x ≤ m) → D.nx σ' H') → t D σ H := by
  refine ⟨_, ps_set (i := 8) scL.nd rfl (Or.inr rfl) (C8.pe_c L.around hr (by decide) rfl (pa_cons (pv 3) (pa_cons (C8.pe_c L.heights hr (by decide) rfl (pa_cons (pv 3) (pa_cons (pv 5) (pa_cons (pv 6) pa_nil)))) pa_nil))), ?_⟩
  rintro st ln n m x0 x1 x2 x3 x4 x5 x6 x7 x8 x9 x10 x11 x12 x13 x14 x15 x16 D σ H ⟨rfl, hst, n1, n4⟩ hD
  refine ⟨_, rfl, _, rfl, _, rfl, _, rfl, st, ln, n, m, rfl, hst, by omega, fun H2 q h b2 st2 hq hlen hle => ?_⟩
  refine ⟨st, ln, q, h, rfl, st2, tupT hq, fun z => by rw [z] at hlen; simp at hlen; omega, by omega, fun H3 p1 T b3 st3 t3 ar => ?_⟩
  exact hD _ _ ⟨p1, T, h, rfl, b2.trans b3, st3, t3, ar, hlen, hle⟩
theorem goes_some {f : Addr} {cdv : Value} {A : PySem.Around} {outer : List Env} {s : Shared} {Hz : Hp} {E : XK} (L : LawC P w K mg base C) (hr : Room 11 (xL P w K mg base f cdv A outer s Hz E).A) :
    ∃ t, PS (xL P w K mg base f cdv A outer s Hz E) (nth tBody 4) t ∧ ∀ (p : Addr) (T : Tl) (x0 x1 x2 x3 x4 x5 x6 x7 x8 x9 x10 x11 x12 x13 x14 x15 x16 : Option V) (D : Ends) (σ : L2.St) (H : Hp), (σ = sl x0 x1 x2 x3 x4 (some (iV T.n)) x6 (some (.ref p)) x8 x9 x10 x11 x12 x13 x14 x15 x16 ∧ TolAt H p T ∧ T.r1 ≤ 12 ∧ 1 ≤ T.n ∧ T.n ≤ 4) → (∀ σ' H', (∃ Dl : Addr, σ' = sl x0 x1 x2 x3 x4 (some (iV T.n)) x6 (some (.ref p)) x8 (some (.ref Dl)) x10 x11 x12 x13 x14 x15 x16 ∧ Same H H' ∧ HsAt K H' Dl (fitL T)) → D.nx σ' H') → t D σ H := by
  refine ⟨_, ps_setLc (i := 9) (own := [("_law_heights_here", 17)]) (g := gName 17) (tt := tB (tCall (spHolds K) [] C8.E0 (tCons (tVar 7) (tCons (tVar 17) tNil)))) (te := tVar 17) (by rfl) scL.nd rfl rfl (sw_true rfl rfl rfl (by decide +kernel)) (pi_list (C8.pe_c L.splits hr (by decide) rfl (pa_cons (pe_ix ix_tup (pe_ix ix_tup (pv 7) pe_int (fun _ _ => rfl)) pe_int (fun _ _ => rfl)) (pa_cons (pv 5) pa_nil))))
      (blkOk_by (own := [("_law_heights_here", 17)]) (N := nmLaw) (sc := C8.fnScope sLaw) (by decide +kernel)) (fun _ _ _ _ _ => pg_name (i := 17) scL.nd rfl (Or.inl rfl)) (fun _ _ _ _ _ => pts_one (pt_val (C8.pe_c (j := 11) L.holds hr (by decide) rfl (pa_cons (pv 7) (pa_cons (pv 17) pa_nil))))) (fun _ _ _ _ _ => pv 17), ?_⟩
  rintro p T x0 x1 x2 x3 x4 x5 x6 x7 x8 x9 x10 x11 x12 x13 x14 x15 x16 D σ H ⟨rfl, t5, r12, n1, n4⟩ hD
  obtain ⟨rb, db, g1, g2, g3⟩ := id t5
  refine ⟨_, rfl, p, _, _, _, rfl, rfl, tupT g1, atI1, rb, _, _, _, rfl, rfl, tupT g2, atI1, _, rfl, T.r1, T.n, rfl, r12, n4, n4, fun H6 L6 s6 hL6 ⟨as6, ha6, pr6⟩ => ?_⟩
  have hl6 : (splits T.r1 T.n).length ≤ 28561 := splits_le r12 n4
  refine ⟨L6, rfl, ⟨_, lstL ha6⟩, comp_fit (p := p) (T := T) ha6 pr6 (tol_same s6 t5) hl6 (fun h0 m0 => ⟨fun z => by have := (mem_splits.mp m0).1; rw [z] at this; simp at this; omega, by have := (mem_splits.mp m0).1; omega⟩) (fun _ => rfl) (fun _ => rfl) (fun _ => rfl) fun Ds H7 s7 _ hs7 => ?_⟩
  exact hD _ _ ⟨Ds, rfl, s6.trans s7, hs7⟩
theorem goes_others {f : Addr} {cdv : Value} {A : PySem.Around} {outer : List Env} {s : Shared} {Hz : Hp} {E : XK} (L : LawC P w K mg base C) (hr : Room 11 (xL P w K mg base f cdv A outer s Hz E).A) :
    ∃ t, PS (xL P w K mg base f cdv A outer s Hz E) (nth tBody 5) t ∧ ∀ (p : Addr) (T : Tl) (x0 x1 x2 x3 x4 x5 x6 x7 x8 x9 x10 x11 x12 x13 x14 x15 x16 : Option V) (D : Ends) (σ : L2.St) (H : Hp), (σ = sl x0 x1 x2 x3 x4 (some (iV T.n)) x6 x7 (some (.ref p)) x9 x10 x11 x12 x13 x14 x15 x16 ∧ TolAt H p T ∧ T.r1 ≤ 12 ∧ 1 ≤ T.n ∧ T.n ≤ 4) → (∀ σ' H', (∃ Dl : Addr, σ' = sl x0 x1 x2 x3 x4 (some (iV T.n)) x6 x7 (some (.ref p)) x9 (some (.ref Dl)) x11 x12 x13 x14 x15 x16 ∧ Same H H' ∧ HsAt K H' Dl (fitL T)) → D.nx σ' H') → t D σ H := by
  refine ⟨_, ps_setLc (i := 10) (own := [("_law_heights_here", 17)]) (g := gName 17) (tt := tB (tCall (spHolds K) [] C8.E0 (tCons (tVar 8) (tCons (tVar 17) tNil)))) (te := tVar 17) (by rfl) scL.nd rfl rfl (sw_true rfl rfl rfl (by decide +kernel)) (pi_list (C8.pe_c L.splits hr (by decide) rfl (pa_cons (pe_ix ix_tup (pe_ix ix_tup (pv 8) pe_int (fun _ _ => rfl)) pe_int (fun _ _ => rfl)) (pa_cons (pv 5) pa_nil))))
      (blkOk_by (own := [("_law_heights_here", 17)]) (N := nmLaw) (sc := C8.fnScope sLaw) (by decide +kernel)) (fun _ _ _ _ _ => pg_name (i := 17) scL.nd rfl (Or.inl rfl)) (fun _ _ _ _ _ => pts_one (pt_val (C8.pe_c (j := 11) L.holds hr (by decide) rfl (pa_cons (pv 8) (pa_cons (pv 17) pa_nil))))) (fun _ _ _ _ _ => pv 17), ?_⟩
  rintro p T x0 x1 x2 x3 x4 x5 x6 x7 x8 x9 x10 x11 x12 x13 x14 x15 x16 D σ H ⟨rfl, t5, r12, n1, n4⟩ hD
  obtain ⟨rb, db, g1, g2, g3⟩ := id t5
  refine ⟨_, rfl, p, _, _, _, rfl, rfl, tupT g1, atI1, rb, _, _, _, rfl, rfl, tupT g2, atI1, _, rfl, T.r1, T.n, rfl, r12, n4, n4, fun H6 L6 s6 hL6 ⟨as6, ha6, pr6⟩ => ?_⟩
  have hl6 : (splits T.r1 T.n).length ≤ 28561 := splits_le r12 n4
  refine ⟨L6, rfl, ⟨_, lstL ha6⟩, comp_fit (p := p) (T := T) ha6 pr6 (tol_same s6 t5) hl6 (fun h0 m0 => ⟨fun z => by have := (mem_splits.mp m0).1; rw [z] at this; simp at this; omega, by have := (mem_splits.mp m0).1; omega⟩) (fun _ => rfl) (fun _ => rfl) (fun _ => rfl) fun Ds H7 s7 _ hs7 => ?_⟩
  exact hD _ _ ⟨Ds, rfl, s6.trans s7, hs7⟩
theorem goes_due {f : Addr} {cdv : Value} {A : PySem.Around} {outer : List Env} {s : Shared} {Hz : Hp} {E : XK} (L : LawC P w K mg base C) (hr : Room 11 (xL P w K mg base f cdv A outer s Hz E).A) :
    ∃ t, PS (xL P w K mg base f cdv A outer s Hz E) (nth tBody 6) t ∧ ∀ (T U : Tl) (a b : Addr) (x0 x1 x2 x3 x4 x5 x6 x7 x8 x9 x10 x11 x12 x13 x14 x15 x16 : Option V) (D : Ends) (σ : L2.St) (H : Hp), (σ = sl x0 x1 x2 x3 x4 x5 x6 x7 x8 (some (.ref a)) (some (.ref b)) x11 x12 x13 x14 x15 x16 ∧ HsAt K H a (fitL T) ∧ HsAt K H b (fitL U) ∧ T.n = U.n ∧ GoodT T ∧ GoodT U ∧ T.r1 ≤ 12) → (∀ σ' H', (∃ (dl : Addr) (hi lo : Nat), σ' = sl x0 x1 x2 x3 x4 x5 x6 x7 x8 (some (.ref a)) (some (.ref b)) (some (.ref dl)) x12 x13 x14 x15 x16 ∧ Same H H' ∧ H' dl = some (.lst [iV hi, iV lo]) ∧ IsHi (sortL T) (fitL U) hi ∧ IsLo (sortL T) (fitL U) lo) → D.nx σ' H') → t D σ H := by
  refine ⟨_, ps_set (i := 11) scL.nd rfl (Or.inl rfl) (C8.pe_c L.ends hr (by decide) rfl (pa_cons (C8.pe_c L.sorted hr (by decide) rfl (pa_cons (pv 9) pa_nil)) (pa_cons (pv 10) pa_nil))), ?_⟩
  rintro T U a b x0 x1 x2 x3 x4 x5 x6 x7 x8 x9 x10 x11 x12 x13 x14 x15 x16 D σ H ⟨rfl, ha, hb, hn, gt, gu, r12⟩ hD
  have lF : (fitL T).length ≤ 28561 := Nat.le_trans (List.length_filter_le _ _) (splits_le r12 gt.small.n4)
  obtain ⟨ne1, ne2⟩ := sortL_ne hn gt gu
  have tn4 := gt.small.n4
  refine ⟨_, rfl, a, fitL T, rfl, ha, lF, fun H10 L10 s10 _ hs10 => ?_⟩
  refine ⟨_, rfl, L10, b, sortL T, fitL U, T.n, rfl, hs10, hs_same s10 hb, ne1, ne2, by omega, fun h0 m0 => ?_, fun h0 m0 => ?_, fun H11 dl hi lo s11 hdl hhi hlo => ?_⟩
  · obtain ⟨f0, _⟩ := mem_sortL.mp m0
    exact ⟨f0.1, small_mem gt f0⟩
  · exact (mem_fitL.mp m0).1.trans hn.symm
  exact hD _ _ ⟨dl, hi, lo, rfl, s10.trans s11, hdl, hhi, hlo⟩
end
end Wk
end
section
set_option Elab.async false
set_option linter.all false
set_option autoImplicit false
set_option maxRecDepth 100000
set_option maxHeartbeats 4000000
/-! The law: a turn, all turns. -/
namespace Wk
open PySem L2 K46 SlX GenW RZ
section
variable {P : Program} {w : World} {K : PySem.W.Frag} {mg : Str → Option Value} {base : Heap} {C : Addr}
theorem goes_turn {f : Addr} {cdv : Value} {A : PySem.Around} {outer : List Env} {s : Shared} {Hz : Hp} {E : XK} (L : LawC P w K mg base C) (hr : Room 11 (xL P w K mg base f cdv A outer s Hz E).A) :
    ∃ t, PSs (xL P w K mg base f cdv A outer s Hz E) tBody t ∧ ∀ (st ln : Addr) (x0 x1 x2 x4 x5 x6 x7 x8 x9 x10 x11 x12 x13 x14 x15 x16 : Option V) (D : Ends) (σ : L2.St) (H : Hp), (σ = sl x0 x1 x2 (some (.ref st)) x4 x5 x6 x7 x8 x9 x10 x11 x12 x13 x14 x15 x16 ∧ StA H st ln) →
      (∀ σ' H', (∃ x4 x5 x6 x7 x8 x9 x10 x11 x12 x13 x14 x15 x16, σ' = sl x0 x1 x2 (some (.ref st)) x4 x5 x6 x7 x8 x9 x10 x11 x12 x13 x14 x15 x16 ∧ But st H H' ∧ StA H' st ln) → D.nx σ' H') → t D σ H := by
  obtain ⟨t0, p0, k0⟩ := goes_size L hr
  obtain ⟨t1, p1, k1⟩ := goes_most L hr
  obtain ⟨t2, p2, k2⟩ := goes_first L hr
  obtain ⟨t3, p3, k3⟩ := goes_second L hr
  obtain ⟨t4, p4, k4⟩ := goes_some L hr
  obtain ⟨t5, p5, k5⟩ := goes_others L hr
  obtain ⟨t6, p6, k6⟩ := goes_due L hr
  obtain ⟨td, pd, kd⟩ := goes_doors L hr
  obtain ⟨to, po, ko⟩ := goes_odds L hr
  refine ⟨_, pss_cons p0 (pss_cons p1 (pss_cons p2 (pss_cons p3 (pss_cons p4 (pss_cons p5 (pss_cons p6 (pss_cons pd (pss_one po)))))))), ?_⟩
  rintro st ln x0 x1 x2 x4 x5 x6 x7 x8 x9 x10 x11 x12 x13 x14 x15 x16 D σ H ⟨rfl, hst⟩ hD
  refine k0 st ln _ _ _ none _ _ _ _ _ _ _ _ _ _ _ _ _ _ _ H ⟨rfl, hst⟩ ?_
  rintro _ H1 ⟨n, rfl, n1, n4, b1, st1⟩
  refine k1 n _ _ _ _ _ none _ _ _ _ _ _ _ _ _ _ _ _ _ H1 rfl ?_
  rintro _ _ ⟨rfl, rfl⟩
  obtain ⟨m, em⟩ : ∃ m : Nat, m = if n < 4 then 2 else 1 := ⟨_, rfl⟩
  rw [← em]
  refine k2 st ln n m _ _ _ none _ none none _ _ _ _ _ _ _ _ _ _ _ _ _ ⟨rfl, st1, n1, n4⟩ ?_
  rintro _ H3 ⟨q1, T, h, rfl, b3, st3, t3, ar, hlen, hle⟩
  refine k3 st ln n m _ _ _ none _ none none _ _ _ _ _ _ _ _ _ _ _ _ H3 ⟨rfl, st3, n1, n4⟩ ?_
  rintro _ H5 ⟨q2, U, h', rfl, b5, st5, u5, ar', hlen', hle'⟩
  obtain ⟨gt, gt8⟩ := good_around ar (by omega) (by omega) (fun x hx => by rw [hlen, ← em]; exact hle x hx)
  obtain ⟨gu, gu8⟩ := good_around ar' (by omega) (by omega) (fun x hx => by rw [hlen', ← em]; exact hle' x hx)
  have tn : T.n = n := ar.n.trans hlen
  have un : U.n = n := ar'.n.trans hlen'
  have hn : T.n = U.n := tn.trans un.symm
  have t5' := tol_but b5 st3 t3
  rw [← tn]
  refine k4 q1 T _ _ _ _ _ none _ none _ _ _ _ _ _ _ _ _ _ _ H5 ⟨rfl, t5', by omega, by omega, by omega⟩ ?_
  rintro _ H7 ⟨Ds, rfl, s7, hs7⟩
  rw [hn]
  refine k5 q2 U _ _ _ _ _ none _ _ none _ _ _ _ _ _ _ _ _ _ H7 ⟨rfl, tol_same s7 u5, by omega, by omega, by omega⟩ ?_
  rintro _ H9 ⟨Do, rfl, s9, hs9⟩
  refine k6 T U Ds Do _ _ _ _ _ _ _ _ _ none none _ _ _ _ _ _ _ _ H9 ⟨rfl, hs_same s9 hs7, hs9, hn, gt, gu, by omega⟩ ?_
  rintro _ H11 ⟨dl, hi, lo, rfl, s11, hdl, hhi, hlo⟩
  have s511 : Same H5 H11 := (s7.trans s9).trans s11
  refine kd q1 q2 dl T U hi lo H11 hn gt gu hhi hlo (tol_same s511 t5') (tol_same s511 u5) hdl _ _ _ _ _ _ _ _ _ _ _ H11 ⟨_, _, _, _, _, rfl, rfl⟩ ?_
  rintro _ H12 ⟨y12, y13, y14, y15, y16, rfl, s12⟩
  rw [← hn]
  refine ko q1 T H12 gt (tol_same (s511.trans s12) t5') _ _ _ _ _ _ _ _ _ _ _ _ H12 ⟨_, _, _, _, _, rfl, rfl⟩ ?_
  rintro _ H13 ⟨z12, z13, z14, z15, z16, rfl, s13⟩
  exact hD _ _ ⟨_, _, _, _, _, _, _, _, _, _, _, _, _, rfl, but_same ((b1.trans b3).trans b5) ((s511.trans s12).trans s13), sta_same ((s511.trans s12).trans s13) st5⟩
end
end Wk
end
section
set_option Elab.async false
set_option linter.all false
set_option autoImplicit false
set_option maxRecDepth 100000
set_option maxHeartbeats 4000000
/-! The law. -/
namespace Wk
open PySem L2 K46 SlX GenW RZ
/-- a loop over enumerate of a list -/
theorem for_enum {K : PySem.W.Frag} {a : Addr} {xs : List V} {g : TG} {tb : TS} {D : Ends} {σ : L2.St} {H : Hp} (Pv : Nat → L2.St → Hp → Prop) (h0 : Pv 0 σ H) (hq : ∀ i σ H, Pv i σ H → SqL K H a xs)
    (hs : ∀ (i : Nat) (x : V) (T : Addr) (σ : L2.St) (H : Hp), xs[i]? = some x → Pv i σ H → H T = none → g (.ref T) σ (upd H T (.tup [iV i, x])) fun σ2 H2 => tb { D with nx := Pv (i + 1), ct := Pv (i + 1), bk := D.nx } σ2 H2) (hd : ∀ σ H, Pv xs.length σ H → D.nx σ H) :
    ∃ W : Nat → Nat → L2.St → Hp → Prop, (∃ m, W 0 m σ H) ∧ ∀ i m σ H, W i m σ H →
      ((Ite K a).stop i H ∧ D.nx σ H) ∨ ((Ite K a).go i H ∧ ∃ N : L2.St → Hp → Prop, (∀ σ' H', N σ' H' → ∃ m', m' < m ∧ W (i + 1) m' σ' H') ∧ ∀ v H', (Ite K a).yld i H v H' → g v σ H' fun σ2 H2 => tb { D with nx := N, ct := N, bk := D.nx } σ2 H2) := by
  refine ⟨fun i m σ H => m = xs.length - i ∧ i ≤ xs.length ∧ Pv i σ H, ⟨xs.length, rfl, Nat.zero_le _, h0⟩, ?_⟩
  rintro i m σ H ⟨rfl, hi, p⟩
  have qx := hq i σ H p
  by_cases hlt : i < xs.length
  · have hx : xs[i]? = some xs[i] := List.getElem?_eq_getElem hlt
    refine .inr ⟨⟨xs, _, qx, hx⟩, Pv (i + 1), fun σ' H' p' => ⟨xs.length - (i + 1), by omega, rfl, hlt, p'⟩, fun v H' y => ?_⟩
    obtain ⟨T, x', rfl, hT, rfl, f1⟩ := y
    exact hs i x' T σ H (f1 xs qx) p hT
  · have e : i = xs.length := by omega
    subst e
    exact .inl ⟨⟨xs, qx, Nat.le_refl _⟩, hd σ H p⟩
def spLaw (K : PySem.W.Frag) : Sp := fun vs H Q _ => ∃ (a : Addr) (ns : List Int), vs = [.ref a] ∧ SqL K H a (ns.map V.int) ∧ ns.length ≤ 63 ∧ ∀ H', Q (.bl true) H'
theorem sqL_same {K : PySem.W.Frag} {H H' : Hp} {a : Addr} {xs : List V} (e : Same H H') (h : SqL K H a xs) : SqL K H' a xs :=
  h.elim (fun h => .inl (h.elim (fun h => .inl (e _ _ h)) fun ⟨o, h⟩ => .inr ⟨o, e _ _ h⟩)) fun h => .inr h
theorem cut_ints (ns : List Int) (lo hi : Option Int) : ∃ ms : List Int, cutV (ns.map V.int) lo hi = ms.map V.int ∧ ms.length ≤ ns.length := by
  refine ⟨(ns.drop (HT.sIx (ns.map V.int).length 0 lo)).take (HT.sIx (ns.map V.int).length (ns.map V.int).length hi - HT.sIx (ns.map V.int).length 0 lo), ?_, ?_⟩
  · unfold cutV
    rw [List.map_take, List.map_drop]
  · rw [List.length_take, List.length_drop]
    omega
theorem rep_ints (k : Bool) : ∃ ms : List Int, (List.replicate (if k then (1 : Int) else 0).toNat [V.int 7]).flatten = ms.map V.int ∧ ms.length ≤ 1 := by
  cases k
  · exact ⟨[], rfl, by decide⟩
  · exact ⟨[7], rfl, by decide⟩
section
variable {P : Program} {w : World} {K : PySem.W.Frag} {mg : Str → Option Value} {base : Heap} {C : Addr}
/-- the loop's body, but its second statement -/
theorem goes_state {f : Addr} {cdv : Value} {A : PySem.Around} {outer : List Env} {s : Shared} {Hz : Hp} {E : XK} (L : LawC P w K mg base C) (hr : Room 11 (xL P w K mg base f cdv A outer s Hz E).A) :
    ∃ t, PS (xL P w K mg base f cdv A outer s Hz E) (nth (forB sOuter) 0) t ∧ ∀ (i : Nat) (c : Int) (x0 x3 x4 x5 x6 x7 x8 x9 x10 x11 x12 x13 x14 x15 x16 : Option V) (D : Ends) (σ : L2.St) (H : Hp), σ = sl x0 (some (iV i)) (some (.int c)) x3 x4 x5 x6 x7 x8 x9 x10 x11 x12 x13 x14 x15 x16 → i ≤ 64 →
      (∀ st ln H', Same H H' → H st = none → StA H' st ln → D.nx (sl x0 (some (iV i)) (some (.int c)) (some (.ref st)) x4 x5 x6 x7 x8 x9 x10 x11 x12 x13 x14 x15 x16) H') → t D σ H := by
  refine ⟨_, ps_set (i := 3) scL.nd rfl (Or.inl rfl) (C8.pe_c L.pool hr (by decide) rfl (pa_cons (pv 2) (pa_cons (pe_op op_add pe_int (pv 1)) (pa_cons pe_int pa_nil)))), ?_⟩
  rintro i c x0 x3 x4 x5 x6 x7 x8 x9 x10 x11 x12 x13 x14 x15 x16 D σ H rfl hi hD
  refine ⟨_, rfl, _, rfl, _, _, rfl, rfl, c, 4600 + i, 200, ?_, by omega, by decide, fun H1 st ln s1 hst st1 => hD st ln H1 s1 hst st1⟩
  show [V.int c, V.int (4600 + (i : Int)), iV 200] = _
  rw [show (4600 : Int) + (i : Int) = ((4600 + i : Nat) : Int) by omega]
theorem goes_cell {f : Addr} {cdv : Value} {A : PySem.Around} {outer : List Env} {s : Shared} {Hz : Hp} {E : XK} (L : LawC P w K mg base C) (hr : Room 11 (xL P w K mg base f cdv A outer s Hz E).A) :
    ∃ t, PSs (xL P w K mg base f cdv A outer s Hz E) (forB sOuter) t ∧ ∀ (i : Nat) (c : Int) (x0 x3 x4 x5 x6 x7 x8 x9 x10 x11 x12 x13 x14 x15 x16 : Option V) (D : Ends) (σ : L2.St) (H : Hp), σ = sl x0 (some (iV i)) (some (.int c)) x3 x4 x5 x6 x7 x8 x9 x10 x11 x12 x13 x14 x15 x16 → i ≤ 64 →
      (∀ σ' H', (∃ st x1 x2 x3 x4 x5 x6 x7 x8 x9 x10 x11 x12 x13 x14 x15 x16, σ' = sl x0 x1 x2 x3 x4 x5 x6 x7 x8 x9 x10 x11 x12 x13 x14 x15 x16 ∧ H st = none ∧ But st H H') → D.nx σ' H') → t D σ H := by
  obtain ⟨t0, p0, k0⟩ := goes_state L hr
  obtain ⟨t1, p1, k1⟩ := goes_turn L hr
  refine ⟨_, pss_cons p0 (pss_one (ps_for PassesOwn.never rfl (pi_range1 rfl L.N.rng (pa_cons pe_int pa_nil)) (pg_name (i := 4) scL.nd rfl (Or.inl rfl)) p1)), ?_⟩
  rintro i c x0 x3 x4 x5 x6 x7 x8 x9 x10 x11 x12 x13 x14 x15 x16 D σ H rfl hi hD
  refine k0 i c _ _ _ _ _ _ _ _ _ _ _ _ _ _ _ _ _ H rfl hi ?_
  intro st ln H1 s1 hst st1
  refine ⟨3, rfl, by decide, by decide, for_range (lo := 0) (n := 3) (fun j σ H2 => ∃ x4 x5 x6 x7 x8 x9 x10 x11 x12 x13 x14 x15 x16, σ = sl x0 (some (iV i)) (some (.int c)) (some (.ref st)) x4 x5 x6 x7 x8 x9 x10 x11 x12 x13 x14 x15 x16 ∧ But st H1 H2 ∧ StA H2 st ln) ⟨_, _, _, _, _, _, _, _, _, _, _, _, _, rfl, But.refl _ _, st1⟩ ?_ ?_⟩
  · rintro j σ H2 hj ⟨y4, y5, y6, y7, y8, y9, y10, y11, y12, y13, y14, y15, y16, rfl, b2, st2⟩
    refine k1 st ln x0 _ _ _ y5 y6 y7 y8 y9 y10 y11 y12 y13 y14 y15 y16 _ _ H2 ⟨rfl, st2⟩ ?_
    rintro _ H3 ⟨z4, z5, z6, z7, z8, z9, z10, z11, z12, z13, z14, z15, z16, rfl, b3, st3⟩
    exact ⟨_, _, _, _, _, _, _, _, _, _, _, _, _, rfl, b2.trans b3, st3⟩
  · rintro σ H2 ⟨y4, y5, y6, y7, y8, y9, y10, y11, y12, y13, y14, y15, y16, rfl, b2, st2⟩
    exact hD _ _ ⟨st, _, _, _, _, _, _, _, _, _, _, _, _, _, _, _, _, rfl, hst, fun b o hb hne => b2 b o (s1 b o hb) hne⟩
theorem goes_outer {f : Addr} {cdv : Value} {A : PySem.Around} {outer : List Env} {s : Shared} {Hz : Hp} {E : XK} (L : LawC P w K mg base C) (hr : Room 11 (xL P w K mg base f cdv A outer s Hz E).A) :
    ∃ t, PS (xL P w K mg base f cdv A outer s Hz E) sOuter t ∧ ∀ (a : Addr) (ns : List Int) (D : Ends) (H : Hp), SqL K H a (ns.map V.int) → ns.length ≤ 63 → (∀ σ' H', D.nx σ' H') → t D (sl (some (.ref a)) none none none none none none none none none none none none none none none none) H := by
  obtain ⟨t1, p1, k1⟩ := goes_cell L hr
  refine ⟨_, ps_for PassesOwn.never rfl (pi_enum (by rfl) L.N.enm (pa_cons (pe_op op_cat (pe_slice sl_list (pv 0) po_none (po_some pe_int)) (pe_op op_rep (pe_lst (pa_cons pe_int pa_nil)) (pe_callTy call_int1 (by rfl) L.N.int (by decide +kernel) (pa_cons (pe_cmpR (op_eqD hr.units) (pv 0) (pe_lst pa_nil) (nomark _)) pa_nil)))) pa_nil))
    (pg_tup (by rfl) (pgs_cons (pg_name (i := 1) scL.nd rfl (Or.inl rfl)) (pgs_cons (pg_name (i := 2) scL.nd rfl (Or.inl rfl)) pgs_nil))) p1, ?_⟩
  intro a ns D H ha hn hD
  obtain ⟨ms, ems, lms⟩ := cut_ints ns none (some 6)
  show tFor _ _ _ _ _ _
  refine ⟨_, rfl, 6, rfl, a, _, rfl, ha, fun p hp => ?_⟩
  rw [ems]
  have s1 : Same H (upd H p (.lst (ms.map V.int))) := same_new hp
  refine ⟨szl (by show 1 ≤ 100000; decide), fun q hq => ?_⟩
  have s2 := same_new (o := .lst [.int 7]) hq
  refine ⟨_, rfl, szl (by show 0 ≤ 100000; decide), fun r hr' => ?_⟩
  have s3 := same_new (o := .lst []) hr'
  refine ⟨.list (ns.map PyData.int), .list [], .lst (sqL_same (s1.trans (s2.trans s3)) ha) (dp_ints ns), .lst (lstL upd_same) .nil, shaped_ints ns, shaped_ints [], .inr ⟨_, rfl, ?_⟩⟩
  generalize PyData.eqv (.list (ns.map PyData.int)) (.list []) = k
  obtain ⟨ks, eks, lks⟩ := rep_ints k
  refine ⟨q, _, [.int 7], rfl, rfl, s3 _ _ upd_same, ?_, ?_, ?_, fun u hu => ?_⟩
  · cases k <;> decide
  · cases k <;> decide
  · cases k <;> decide +kernel
  rw [eks]
  have s4 := same_new (o := .lst (ks.map V.int)) hu
  refine ⟨p, u, _, _, rfl, rfl, s4 _ _ (s3 _ _ (s2 _ _ upd_same)), upd_same, szl (by rw [List.length_map, List.length_map]; omega), fun Z hZ => ?_⟩
  rw [← List.map_append]
  have lz : (ms ++ ks).length ≤ 64 := by rw [List.length_append]; omega
  refine ⟨Z, _, rfl, lstL upd_same, ?_⟩
  refine for_enum (xs := (ms ++ ks).map V.int) (fun i σ H2 => (∃ x1 x2 x3 x4 x5 x6 x7 x8 x9 x10 x11 x12 x13 x14 x15 x16, σ = sl (some (.ref a)) x1 x2 x3 x4 x5 x6 x7 x8 x9 x10 x11 x12 x13 x14 x15 x16) ∧ H2 Z = some (.lst ((ms ++ ks).map V.int))) ⟨⟨_, _, _, _, _, _, _, _, _, _, _, _, _, _, _, _, rfl⟩, upd_same⟩ (fun i σ H2 h => lstL h.2) ?_ ?_
  · rintro i x T σ H2 hx ⟨⟨x1, x2, x3, x4, x5, x6, x7, x8, x9, x10, x11, x12, x13, x14, x15, x16, rfl⟩, h2⟩ hT
    have hi : i ≤ 64 := by
      have := (List.getElem?_eq_some_iff.mp hx).1
      rw [List.length_map] at this
      omega
    rw [List.getElem?_map] at hx
    obtain ⟨c, hc, rfl⟩ := Option.map_eq_some_iff.mp hx
    refine ⟨T, _, rfl, tupT upd_same, rfl, _, _, rfl, _, _, rfl, rfl, ?_⟩
    refine k1 i c _ _ _ _ _ _ _ _ _ _ _ _ _ _ _ _ _ _ rfl hi ?_
    rintro _ H3 ⟨st, y1, y2, y3, y4, y5, y6, y7, y8, y9, y10, y11, y12, y13, y14, y15, y16, rfl, hst, b3⟩
    have h2' : (upd H2 T (.tup [iV i, .int c])) Z = some (.lst ((ms ++ ks).map V.int)) := same_new hT _ _ h2
    exact ⟨⟨_, _, _, _, _, _, _, _, _, _, _, _, _, _, _, _, rfl⟩, b3 _ _ h2' fun z => by rw [← z, h2'] at hst; cases hst⟩
  · rintro σ H2 _
    exact hD _ _
theorem ok_law {f : Addr} {fd : FuncData} (F : C8.Def K mg "law" sLaw f fd) (b : Binds K fd ["_law_script"] []) (L : LawC P w K mg base C) : Cl0 P w K mg base 12 "law" (spLaw K) [] := by
  refine C8.cal0 F b .nil scL (fun vs H Q E h => ?_) (fun cdv A outer s H vs Q E hr h => ?_)
  · obtain ⟨a, ns, rfl, _⟩ := h
    rfl
  · obtain ⟨a, ns, rfl, ha, hn, k⟩ := h
    obtain ⟨t, pt, kt⟩ := goes_outer (f := f) (cdv := cdv) (A := A) (outer := outer) (s := s) (Hz := H) (E := E) L hr
    refine ⟨_, pss_cons pt (pss_one (ps_ret pe_bl)), ?_⟩
    exact kt a ns _ H ha hn fun σ' H' => k H'
end
end Wk
end
section
set_option Elab.async false
set_option linter.all false
set_option autoImplicit false
set_option maxRecDepth 100000
set_option maxHeartbeats 4000000
/-! What the top has written. -/
namespace Wk
open PySem L2 K46 SlX GenW RZ
section
variable {K : PySem.W.Frag} {mg : Str → Option Value} {x qual : Str} {st : Stmt} {f T : Addr} {oc : Value} {od an : Option Addr} {osl : Array (Option Value)} {dV kV doc pm cdv ct : Value}
theorem fun_mk8 (l : K.lookup f = some ⟨oc, od, .func (PySem.W.fnOf x qual (C8.fnArgs st) (C8.fnBody st) (C8.fnScope st) dV kV doc pm an cdv ct), osl⟩) (c : PySem.W.codeIn K cdv qual = true) :
    C8.Fun K x qual st f (PySem.W.fnOf x qual (C8.fnArgs st) (C8.fnBody st) (C8.fnScope st) dV kV doc pm an cdv ct) := ⟨oc, od, dV, kV, doc, pm, an, cdv, ct, osl, rfl, l, c⟩
theorem def_mk (a : mg x = some (.ref f)) (l : K.lookup f = some ⟨oc, od, .func (PySem.W.fnOf x x (C8.fnArgs st) (C8.fnBody st) (C8.fnScope st) dV kV doc pm an cdv ct), osl⟩) (c : PySem.W.codeIn K cdv x = true) (k : PySem.W.keepIn K (.ref f) = true) :
    C8.Def K mg x st f (PySem.W.fnOf x x (C8.fnArgs st) (C8.fnBody st) (C8.fnScope st) dV kV doc pm an cdv ct) := ⟨fun_mk8 l c, a, k⟩
theorem kit_false {C : Addr} {t : String} (ic : PySem.W.isClsIn K C = true) (ty : PySem.W.typeIn K (.ref C) = some (.type "type")) (h : PySem.W.subIn K (.type t) (.ref C) = some false) : PySem.W.kitOne K (.type t) (.ref C) = some false := by
  have e2 : ((PySem.W.clsIn K C).isSome && PySem.W.typeIn K (.ref C) == some (.type "type")) = true := by
    have h2' : (PySem.W.clsIn K C).isSome = true := ic
    rw [h2', ty] <;> rfl
  unfold PySem.W.kitOne
  rw [if_neg (show ¬ (Value.type t == Value.ref C) = true from fun z => by cases eq_of_beq z)]
  show (if ((PySem.W.clsIn K C).isSome && PySem.W.typeIn K (.ref C) == some (.type "type")) = true then PySem.W.subIn K (.type t) (.ref C) else none) = some false
  rw [if_pos e2]
  exact h
theorem exm_own {S : Addr} (h1 : PySem.W.mroIn K S (.type "BaseException") = some true) (h2 : PySem.W.isClsIn K S = true) (h3 : PySem.W.typeIn K (.ref S) = some (.type "type")) (h4 : PySem.W.mroIn K S (.ref S) = some true) : PySem.W.exmOne K (.ref S) (.ref S) = some true := by
  have e1 : (PySem.W.mroIn K S (.type "BaseException") == some true) = true := by rw [h1] <;> rfl
  have e2 : ((PySem.W.clsIn K S).isSome && PySem.W.typeIn K (.ref S) == some (.type "type")) = true := by
    have h2' : (PySem.W.clsIn K S).isSome = true := h2
    rw [h2', h3] <;> rfl
  show (if (PySem.W.mroIn K S (.type "BaseException") == some true) = true then (if ((PySem.W.clsIn K S).isSome && PySem.W.typeIn K (.ref S) == some (.type "type")) = true then PySem.W.mroIn K S (.ref S) else none) else none) = some true
  rw [if_pos e1, if_pos e2]
  exact h4
theorem taker_none {C : Addr} {y : Str} (h : PySem.W.findIn K (.ref C) y = some none) : PySem.W.takerIn K C y = some none := by
  unfold PySem.W.takerIn
  rw [h]
  rfl
/-- a def whose last parameter has a default -/
theorem dflt1 {ps : List Str} {ot : Value} {odt : Option Addr} {ost : Array (Option Value)} {v : V} {u : Value} {m n j : Nat} (l : K.lookup f = some ⟨oc, od, .func (PySem.W.fnOf x qual (C8.fnArgs st) (C8.fnBody st) (C8.fnScope st) (.ref T) kV doc pm an cdv ct), osl⟩)
    (c : PySem.W.codeIn K cdv qual = true) (k : PySem.W.keepIn K (.ref f) = true) (lt : K.lookup T = some ⟨ot, odt, .seq #[u] m, ost⟩) (r : RelV v u) (hn : n + (1 - j) = ps.length)
    (h : ∀ (T : Addr) (kV doc pm : Value) (an : Option Addr) (cdv ct : Value) (us its : List Value), us.length = n → its.length = 1 →
      ∃ k, bindArgs (PySem.W.fnOf x qual (C8.fnArgs st) (C8.fnBody st) (C8.fnScope st) (.ref T) kV doc pm an cdv ct) ⟨us, []⟩ = seqItems? (.ref T) >>= k ∧ k (some its.toArray) = pure (ps.zip (us ++ its.drop j))) :
    ∃ ds, Vals ([v].drop j) ds ∧ Binds K (PySem.W.fnOf x qual (C8.fnArgs st) (C8.fnBody st) (C8.fnScope st) (.ref T) kV doc pm an cdv ct) ps ds :=
  FunD.binds1 (kws := []) ⟨⟨oc, od, .ref T, kV, doc, pm, an, cdv, ct, osl, rfl, l, c, .inr ⟨List.cons_ne_nil _ _, T, _, [u], m, rfl, lt, rfl, .cons r .nil⟩, .inl rfl⟩, k⟩ n j (List.cons_ne_nil _ _) hn h
end
section
variable {P : Program} {w : World} {K : PySem.W.Frag} {mg : Str → Option Value} {base : Heap} {C : Addr}
theorem law_fn {f : Addr} {fd : FuncData} (F : C8.Def K mg "law" sLaw f fd) (b : Binds K fd ["_law_script"] []) (L : LawC P w K mg base C) : FnOk P w K mg base CX0 12 f fd ["_law_script"] (spLaw K) := by
  refine C8.fn0 F.fn scL (fun vs H Q E h => ?_) (fun cdv A outer s H vs Q E hr h => ?_)
  · obtain ⟨a, ns, rfl, _⟩ := h
    rfl
  · obtain ⟨a, ns, rfl, ha, hn, k⟩ := h
    obtain ⟨t, pt, kt⟩ := goes_outer (f := f) (cdv := cdv) (A := A) (outer := outer) (s := s) (Hz := H) (E := E) L hr
    refine ⟨_, pss_cons pt (pss_one (ps_ret pe_bl)), ?_⟩
    exact kt a ns _ H ha hn fun σ' H' => k H'
end

theorem all_mk {P : Program} {w : World} {K : PySem.W.Frag} {h : Heap} {mg : Str → Option Value} {fa : Addr} (X : K.In h) (G : h.Ns mainGlobals mg) (hfa : mg "law" = some (.ref fa))
    {C D f_isi f_cnt t_cnt f_btw f_stp f_lim f_pps f_prd f_frc f_apt f_num f_drw f_pol f_spl f_tld f_hld f_arn f_hts f_mde f_srt f_tof f_nds f_law f_req f_grt f_lst p_d p_f p_m p_r p_s f_ini t_ini f_eqm f_prs f_ful f_stm f_siz q_siz f_mst q_mst fI cda cc : Addr}
    {oc_isi kV_isi dc_isi pm_isi cd_isi ct_isi oc_cnt kV_cnt dc_cnt pm_cnt cd_cnt ct_cnt otc oc_btw kV_btw dc_btw pm_btw cd_btw ct_btw oc_stp kV_stp dc_stp pm_stp cd_stp ct_stp oc_lim kV_lim dc_lim pm_lim cd_lim ct_lim oc_pps kV_pps dc_pps pm_pps cd_pps ct_pps oc_prd kV_prd dc_prd pm_prd cd_prd ct_prd oc_frc kV_frc dc_frc pm_frc cd_frc ct_frc oc_apt kV_apt dc_apt pm_apt cd_apt ct_apt oc_num kV_num dc_num pm_num cd_num ct_num oc_drw kV_drw dc_drw pm_drw cd_drw ct_drw oc_pol kV_pol dc_pol pm_pol cd_pol ct_pol oc_spl kV_spl dc_spl pm_spl cd_spl ct_spl oc_tld kV_tld dc_tld pm_tld cd_tld ct_tld oc_hld kV_hld dc_hld pm_hld cd_hld ct_hld oc_arn kV_arn dc_arn pm_arn cd_arn ct_arn oc_hts kV_hts dc_hts pm_hts cd_hts ct_hts oc_mde kV_mde dc_mde pm_mde cd_mde ct_mde oc_srt kV_srt dc_srt pm_srt cd_srt ct_srt oc_tof kV_tof dc_tof pm_tof cd_tof ct_tof oc_nds kV_nds dc_nds pm_nds cd_nds ct_nds oc_law kV_law dc_law pm_law cd_law ct_law oc_req kV_req dc_req pm_req cd_req ct_req oc_grt kV_grt dc_grt pm_grt cd_grt ct_grt oc_lst kV_lst dc_lst pm_lst cd_lst ct_lst oc_ini kV_ini dc_ini pm_ini cd_ini ct_ini oti oc_eqm kV_eqm dc_eqm pm_eqm cd_eqm ct_eqm oc_prs kV_prs dc_prs pm_prs cd_prs ct_prs oc_ful kV_ful dc_ful pm_ful cd_ful ct_ful oc_stm kV_stm dc_stm pm_stm cd_stm ct_stm oc_siz kV_siz dc_siz pm_siz cd_siz ct_siz oc_mst kV_mst dc_mst pm_mst cd_mst ct_mst oc_x dc_x pm_x ct_x ccl cl : Value}
    {od_isi an_isi od_cnt an_cnt odc od_btw an_btw od_stp an_stp od_lim an_lim od_pps an_pps od_prd an_prd od_frc an_frc od_apt an_apt od_num an_num od_drw an_drw od_pol an_pol od_spl an_spl od_tld an_tld od_hld an_hld od_arn an_arn od_hts an_hts od_mde an_mde od_srt an_srt od_tof an_tof od_nds an_nds od_law an_law od_req an_req od_grt an_grt od_lst an_lst od_ini an_ini odi od_eqm an_eqm od_prs an_prs od_ful an_ful od_stm an_stm od_siz an_siz od_mst an_mst od_x an_x cdd cld : Option Addr}
    {sl_isi sl_cnt osc sl_btw sl_stp sl_lim sl_pps sl_prd sl_frc sl_apt sl_num sl_drw sl_pol sl_spl sl_tld sl_hld sl_arn sl_hts sl_mde sl_srt sl_tof sl_nds sl_law sl_req sl_grt sl_lst sl_ini osi sl_eqm sl_prs sl_ful sl_stm sl_siz sl_mst sl_x ccs csl : Array (Option Value)}
    {vsx : Array Value} {filx : Str} {tk_cnt tkM tfx : Tok} {n_cnt n_ini : Nat} {r_siz r_mst : List Value}
    (a_isi : PySem.W.nsIn K mainGlobals "is_integer" = some (some (.ref f_isi)))
    (l_isi : K.lookup f_isi = some ⟨oc_isi, od_isi, .func (PySem.W.fnOf "is_integer" "is_integer" (C8.fnArgs sIsInt) (C8.fnBody sIsInt) (C8.fnScope sIsInt) .none kV_isi dc_isi pm_isi an_isi cd_isi ct_isi), sl_isi⟩)
    (c_isi : PySem.W.codeIn K cd_isi "is_integer" = true)
    (k_isi : PySem.W.keepIn K (.ref f_isi) = true)
    (a_cnt : PySem.W.nsIn K mainGlobals "is_count" = some (some (.ref f_cnt)))
    (l_cnt : K.lookup f_cnt = some ⟨oc_cnt, od_cnt, .func (PySem.W.fnOf "is_count" "is_count" (C8.fnArgs sIsCount) (C8.fnBody sIsCount) (C8.fnScope sIsCount) (.ref t_cnt) kV_cnt dc_cnt pm_cnt an_cnt cd_cnt ct_cnt), sl_cnt⟩)
    (c_cnt : PySem.W.codeIn K cd_cnt "is_count" = true)
    (lt_cnt : K.lookup t_cnt = some ⟨otc, odc, .seq #[.int 0 tk_cnt] n_cnt, osc⟩)
    (k_cnt : PySem.W.keepIn K (.ref f_cnt) = true)
    (a_btw : PySem.W.nsIn K mainGlobals "is_between" = some (some (.ref f_btw)))
    (l_btw : K.lookup f_btw = some ⟨oc_btw, od_btw, .func (PySem.W.fnOf "is_between" "is_between" (C8.fnArgs sBetween) (C8.fnBody sBetween) (C8.fnScope sBetween) .none kV_btw dc_btw pm_btw an_btw cd_btw ct_btw), sl_btw⟩)
    (c_btw : PySem.W.codeIn K cd_btw "is_between" = true)
    (k_btw : PySem.W.keepIn K (.ref f_btw) = true)
    (a_stp : PySem.W.nsIn K mainGlobals "steep_in" = some (some (.ref f_stp)))
    (l_stp : K.lookup f_stp = some ⟨oc_stp, od_stp, .func (PySem.W.fnOf "steep_in" "steep_in" (C8.fnArgs sSteep) (C8.fnBody sSteep) (C8.fnScope sSteep) .none kV_stp dc_stp pm_stp an_stp cd_stp ct_stp), sl_stp⟩)
    (c_stp : PySem.W.codeIn K cd_stp "steep_in" = true)
    (k_stp : PySem.W.keepIn K (.ref f_stp) = true)
    (a_lim : PySem.W.nsIn K mainGlobals "are_limits" = some (some (.ref f_lim)))
    (l_lim : K.lookup f_lim = some ⟨oc_lim, od_lim, .func (PySem.W.fnOf "are_limits" "are_limits" (C8.fnArgs sLimits) (C8.fnBody sLimits) (C8.fnScope sLimits) .none kV_lim dc_lim pm_lim an_lim cd_lim ct_lim), sl_lim⟩)
    (c_lim : PySem.W.codeIn K cd_lim "are_limits" = true)
    (k_lim : PySem.W.keepIn K (.ref f_lim) = true)
    (a_pps : PySem.W.nsIn K mainGlobals "possible_pairs" = some (some (.ref f_pps)))
    (l_pps : K.lookup f_pps = some ⟨oc_pps, od_pps, .func (PySem.W.fnOf "possible_pairs" "possible_pairs" (C8.fnArgs sPairs) (C8.fnBody sPairs) (C8.fnScope sPairs) .none kV_pps dc_pps pm_pps an_pps cd_pps ct_pps), sl_pps⟩)
    (c_pps : PySem.W.codeIn K cd_pps "possible_pairs" = true)
    (k_pps : PySem.W.keepIn K (.ref f_pps) = true)
    (a_prd : PySem.W.nsIn K mainGlobals "products" = some (some (.ref f_prd)))
    (l_prd : K.lookup f_prd = some ⟨oc_prd, od_prd, .func (PySem.W.fnOf "products" "products" (C8.fnArgs sProd) (C8.fnBody sProd) (C8.fnScope sProd) .none kV_prd dc_prd pm_prd an_prd cd_prd ct_prd), sl_prd⟩)
    (c_prd : PySem.W.codeIn K cd_prd "products" = true)
    (k_prd : PySem.W.keepIn K (.ref f_prd) = true)
    (a_frc : PySem.W.nsIn K mainGlobals "forced" = some (some (.ref f_frc)))
    (l_frc : K.lookup f_frc = some ⟨oc_frc, od_frc, .func (PySem.W.fnOf "forced" "forced" (C8.fnArgs sForced) (C8.fnBody sForced) (C8.fnScope sForced) .none kV_frc dc_frc pm_frc an_frc cd_frc ct_frc), sl_frc⟩)
    (c_frc : PySem.W.codeIn K cd_frc "forced" = true)
    (k_frc : PySem.W.keepIn K (.ref f_frc) = true)
    (a_apt : PySem.W.nsIn K mainGlobals "apart" = some (some (.ref f_apt)))
    (l_apt : K.lookup f_apt = some ⟨oc_apt, od_apt, .func (PySem.W.fnOf "apart" "apart" (C8.fnArgs sApart) (C8.fnBody sApart) (C8.fnScope sApart) .none kV_apt dc_apt pm_apt an_apt cd_apt ct_apt), sl_apt⟩)
    (c_apt : PySem.W.codeIn K cd_apt "apart" = true)
    (k_apt : PySem.W.keepIn K (.ref f_apt) = true)
    (a_num : PySem.W.nsIn K mainGlobals "_law_numbers" = some (some (.ref f_num)))
    (l_num : K.lookup f_num = some ⟨oc_num, od_num, .func (PySem.W.fnOf "_law_numbers" "_law_numbers" (C8.fnArgs sNumbers) (C8.fnBody sNumbers) (C8.fnScope sNumbers) .none kV_num dc_num pm_num an_num cd_num ct_num), sl_num⟩)
    (c_num : PySem.W.codeIn K cd_num "_law_numbers" = true)
    (k_num : PySem.W.keepIn K (.ref f_num) = true)
    (a_drw : PySem.W.nsIn K mainGlobals "_law_draw" = some (some (.ref f_drw)))
    (l_drw : K.lookup f_drw = some ⟨oc_drw, od_drw, .func (PySem.W.fnOf "_law_draw" "_law_draw" (C8.fnArgs sDraw) (C8.fnBody sDraw) (C8.fnScope sDraw) .none kV_drw dc_drw pm_drw an_drw cd_drw ct_drw), sl_drw⟩)
    (c_drw : PySem.W.codeIn K cd_drw "_law_draw" = true)
    (k_drw : PySem.W.keepIn K (.ref f_drw) = true)
    (a_pol : PySem.W.nsIn K mainGlobals "_law_pool" = some (some (.ref f_pol)))
    (l_pol : K.lookup f_pol = some ⟨oc_pol, od_pol, .func (PySem.W.fnOf "_law_pool" "_law_pool" (C8.fnArgs sPool) (C8.fnBody sPool) (C8.fnScope sPool) .none kV_pol dc_pol pm_pol an_pol cd_pol ct_pol), sl_pol⟩)
    (c_pol : PySem.W.codeIn K cd_pol "_law_pool" = true)
    (k_pol : PySem.W.keepIn K (.ref f_pol) = true)
    (a_spl : PySem.W.nsIn K mainGlobals "_law_splits" = some (some (.ref f_spl)))
    (l_spl : K.lookup f_spl = some ⟨oc_spl, od_spl, .func (PySem.W.fnOf "_law_splits" "_law_splits" (C8.fnArgs sSplits) (C8.fnBody sSplits) (C8.fnScope sSplits) .none kV_spl dc_spl pm_spl an_spl cd_spl ct_spl), sl_spl⟩)
    (c_spl : PySem.W.codeIn K cd_spl "_law_splits" = true)
    (k_spl : PySem.W.keepIn K (.ref f_spl) = true)
    (a_tld : PySem.W.nsIn K mainGlobals "_law_told" = some (some (.ref f_tld)))
    (l_tld : K.lookup f_tld = some ⟨oc_tld, od_tld, .func (PySem.W.fnOf "_law_told" "_law_told" (C8.fnArgs sTold) (C8.fnBody sTold) (C8.fnScope sTold) .none kV_tld dc_tld pm_tld an_tld cd_tld ct_tld), sl_tld⟩)
    (c_tld : PySem.W.codeIn K cd_tld "_law_told" = true)
    (k_tld : PySem.W.keepIn K (.ref f_tld) = true)
    (a_hld : PySem.W.nsIn K mainGlobals "_law_holds" = some (some (.ref f_hld)))
    (l_hld : K.lookup f_hld = some ⟨oc_hld, od_hld, .func (PySem.W.fnOf "_law_holds" "_law_holds" (C8.fnArgs sHolds) (C8.fnBody sHolds) (C8.fnScope sHolds) .none kV_hld dc_hld pm_hld an_hld cd_hld ct_hld), sl_hld⟩)
    (c_hld : PySem.W.codeIn K cd_hld "_law_holds" = true)
    (k_hld : PySem.W.keepIn K (.ref f_hld) = true)
    (a_arn : PySem.W.nsIn K mainGlobals "_law_around" = some (some (.ref f_arn)))
    (l_arn : K.lookup f_arn = some ⟨oc_arn, od_arn, .func (PySem.W.fnOf "_law_around" "_law_around" (C8.fnArgs sAround) (C8.fnBody sAround) (C8.fnScope sAround) .none kV_arn dc_arn pm_arn an_arn cd_arn ct_arn), sl_arn⟩)
    (c_arn : PySem.W.codeIn K cd_arn "_law_around" = true)
    (k_arn : PySem.W.keepIn K (.ref f_arn) = true)
    (a_hts : PySem.W.nsIn K mainGlobals "_law_heights" = some (some (.ref f_hts)))
    (l_hts : K.lookup f_hts = some ⟨oc_hts, od_hts, .func (PySem.W.fnOf "_law_heights" "_law_heights" (C8.fnArgs sHeights) (C8.fnBody sHeights) (C8.fnScope sHeights) .none kV_hts dc_hts pm_hts an_hts cd_hts ct_hts), sl_hts⟩)
    (c_hts : PySem.W.codeIn K cd_hts "_law_heights" = true)
    (k_hts : PySem.W.keepIn K (.ref f_hts) = true)
    (a_mde : PySem.W.nsIn K mainGlobals "_law_made" = some (some (.ref f_mde)))
    (l_mde : K.lookup f_mde = some ⟨oc_mde, od_mde, .func (PySem.W.fnOf "_law_made" "_law_made" (C8.fnArgs sMade) (C8.fnBody sMade) (C8.fnScope sMade) .none kV_mde dc_mde pm_mde an_mde cd_mde ct_mde), sl_mde⟩)
    (c_mde : PySem.W.codeIn K cd_mde "_law_made" = true)
    (k_mde : PySem.W.keepIn K (.ref f_mde) = true)
    (a_srt : PySem.W.nsIn K mainGlobals "_law_sorted_only" = some (some (.ref f_srt)))
    (l_srt : K.lookup f_srt = some ⟨oc_srt, od_srt, .func (PySem.W.fnOf "_law_sorted_only" "_law_sorted_only" (C8.fnArgs sSorted) (C8.fnBody sSorted) (C8.fnScope sSorted) .none kV_srt dc_srt pm_srt an_srt cd_srt ct_srt), sl_srt⟩)
    (c_srt : PySem.W.codeIn K cd_srt "_law_sorted_only" = true)
    (k_srt : PySem.W.keepIn K (.ref f_srt) = true)
    (a_tof : PySem.W.nsIn K mainGlobals "_law_told_of" = some (some (.ref f_tof)))
    (l_tof : K.lookup f_tof = some ⟨oc_tof, od_tof, .func (PySem.W.fnOf "_law_told_of" "_law_told_of" (C8.fnArgs sToldOf) (C8.fnBody sToldOf) (C8.fnScope sToldOf) .none kV_tof dc_tof pm_tof an_tof cd_tof ct_tof), sl_tof⟩)
    (c_tof : PySem.W.codeIn K cd_tof "_law_told_of" = true)
    (k_tof : PySem.W.keepIn K (.ref f_tof) = true)
    (a_nds : PySem.W.nsIn K mainGlobals "_law_ends" = some (some (.ref f_nds)))
    (l_nds : K.lookup f_nds = some ⟨oc_nds, od_nds, .func (PySem.W.fnOf "_law_ends" "_law_ends" (C8.fnArgs sEnds) (C8.fnBody sEnds) (C8.fnScope sEnds) .none kV_nds dc_nds pm_nds an_nds cd_nds ct_nds), sl_nds⟩)
    (c_nds : PySem.W.codeIn K cd_nds "_law_ends" = true)
    (k_nds : PySem.W.keepIn K (.ref f_nds) = true)
    (a_law : PySem.W.nsIn K mainGlobals "law" = some (some (.ref f_law)))
    (l_law : K.lookup f_law = some ⟨oc_law, od_law, .func (PySem.W.fnOf "law" "law" (C8.fnArgs sLaw) (C8.fnBody sLaw) (C8.fnScope sLaw) .none kV_law dc_law pm_law an_law cd_law ct_law), sl_law⟩)
    (c_law : PySem.W.codeIn K cd_law "law" = true)
    (k_law : PySem.W.keepIn K (.ref f_law) = true)
    (a_req : PySem.W.nsIn K mainGlobals "require_like" = some (some (.ref f_req)))
    (l_req : K.lookup f_req = some ⟨oc_req, od_req, .func (PySem.W.fnOf "require_like" "require_like" (L2.defArgs sReq) (L2.defBody sReq) (L2.defScope sReq) .none kV_req dc_req pm_req an_req cd_req ct_req), sl_req⟩)
    (c_req : PySem.W.codeIn K cd_req "require_like" = true)
    (k_req : PySem.W.keepIn K (.ref f_req) = true)
    (a_grt : PySem.W.nsIn K mainGlobals "greatest_join" = some (some (.ref f_grt)))
    (l_grt : K.lookup f_grt = some ⟨oc_grt, od_grt, .func (PySem.W.fnOf "greatest_join" "greatest_join" (L2.defArgs sGreat) (L2.defBody sGreat) (L2.defScope sGreat) .none kV_grt dc_grt pm_grt an_grt cd_grt ct_grt), sl_grt⟩)
    (c_grt : PySem.W.codeIn K cd_grt "greatest_join" = true)
    (k_grt : PySem.W.keepIn K (.ref f_grt) = true)
    (a_lst : PySem.W.nsIn K mainGlobals "least_join" = some (some (.ref f_lst)))
    (l_lst : K.lookup f_lst = some ⟨oc_lst, od_lst, .func (PySem.W.fnOf "least_join" "least_join" (L2.defArgs sLeast) (L2.defBody sLeast) (L2.defScope sLeast) .none kV_lst dc_lst pm_lst an_lst cd_lst ct_lst), sl_lst⟩)
    (c_lst : PySem.W.codeIn K cd_lst "least_join" = true)
    (k_lst : PySem.W.keepIn K (.ref f_lst) = true)
    (aC : PySem.W.nsIn K mainGlobals "Spread" = some (some (.ref C)))
    (pg : PySem.W.plainGet K C Str.empty = true)
    (ic : PySem.W.isClsIn K C = true)
    (po : PySem.W.plainOver K C = true)
    (sa : PySem.W.findIn K (.ref C) "__setattr__" = some (some (.builtin "object.__setattr__")))
    (ca : PySem.W.findIn K (.ref C) "__class__" = some (some (.builtin "object.__class__")))
    (cn : PySem.W.specialIn K (.builtin "object.__class__") "__get__" = some (some (.builtin "getset_descriptor.__get__")))
    (ct : PySem.W.takesIn K (.builtin "object.__class__") = some true)
    (cm : PySem.W.mroIn K C (.type "object") = some true)
    (kN : PySem.W.mroIn K C (.type "NoneType") = some false)
    (kI : PySem.W.mroIn K C (.type "int") = some false)
    (kT : PySem.W.mroIn K C (.type "tuple") = some false)
    (tyS : PySem.W.typeIn K (.ref C) = some (.type "type"))
    (mk : PySem.W.makesIn K C = true)
    (kc : PySem.W.keepIn K (.ref C) = true)
    (am : PySem.W.nsIn K mainGlobals "MOST_SIZE" = some (some (.int 64 tkM)))
    (sf_d : PySem.W.findIn K (.ref C) "own_different" = some (some (.ref p_d)))
    (sg_d : PySem.W.specialIn K (.ref p_d) "__get__" = some (some (.builtin "member_descriptor.__get__")))
    (st_d : PySem.W.takesIn K (.ref p_d) = some true)
    (sy_d : PySem.W.typeIn K (.ref p_d) = some (.type "member_descriptor"))
    (sx_d : PySem.W.slotIn K p_d C = some 0)
    (sf_f : PySem.W.findIn K (.ref C) "own_form" = some (some (.ref p_f)))
    (sg_f : PySem.W.specialIn K (.ref p_f) "__get__" = some (some (.builtin "member_descriptor.__get__")))
    (st_f : PySem.W.takesIn K (.ref p_f) = some true)
    (sy_f : PySem.W.typeIn K (.ref p_f) = some (.type "member_descriptor"))
    (sx_f : PySem.W.slotIn K p_f C = some 1)
    (sf_m : PySem.W.findIn K (.ref C) "own_most" = some (some (.ref p_m)))
    (sg_m : PySem.W.specialIn K (.ref p_m) "__get__" = some (some (.builtin "member_descriptor.__get__")))
    (st_m : PySem.W.takesIn K (.ref p_m) = some true)
    (sy_m : PySem.W.typeIn K (.ref p_m) = some (.type "member_descriptor"))
    (sx_m : PySem.W.slotIn K p_m C = some 2)
    (sf_r : PySem.W.findIn K (.ref C) "own_rows" = some (some (.ref p_r)))
    (sg_r : PySem.W.specialIn K (.ref p_r) "__get__" = some (some (.builtin "member_descriptor.__get__")))
    (st_r : PySem.W.takesIn K (.ref p_r) = some true)
    (sy_r : PySem.W.typeIn K (.ref p_r) = some (.type "member_descriptor"))
    (sx_r : PySem.W.slotIn K p_r C = some 3)
    (sf_s : PySem.W.findIn K (.ref C) "own_size" = some (some (.ref p_s)))
    (sg_s : PySem.W.specialIn K (.ref p_s) "__get__" = some (some (.builtin "member_descriptor.__get__")))
    (st_s : PySem.W.takesIn K (.ref p_s) = some true)
    (sy_s : PySem.W.typeIn K (.ref p_s) = some (.type "member_descriptor"))
    (sx_s : PySem.W.slotIn K p_s C = some 4)
    (a_ini : PySem.W.findIn K (.ref C) "__init__" = some (some (.ref f_ini)))
    (i_ini : PySem.W.isFn K (.ref f_ini) = true)
    (l_ini : K.lookup f_ini = some ⟨oc_ini, od_ini, .func (PySem.W.fnOf "__init__" "Spread.__init__" (C8.fnArgs sInit) (C8.fnBody sInit) (C8.fnScope sInit) (.ref t_ini) kV_ini dc_ini pm_ini an_ini cd_ini ct_ini), sl_ini⟩)
    (c_ini : PySem.W.codeIn K cd_ini "Spread.__init__" = true)
    (lt_ini : K.lookup t_ini = some ⟨oti, odi, .seq #[.none] n_ini, osi⟩)
    (k_ini : PySem.W.keepIn K (.ref f_ini) = true)
    (a_eqm : PySem.W.findIn K (.ref C) "__eq__" = some (some (.ref f_eqm)))
    (i_eqm : PySem.W.isFn K (.ref f_eqm) = true)
    (l_eqm : K.lookup f_eqm = some ⟨oc_eqm, od_eqm, .func (PySem.W.fnOf "__eq__" "Spread.__eq__" (C8.fnArgs sEqM) (C8.fnBody sEqM) (C8.fnScope sEqM) .none kV_eqm dc_eqm pm_eqm an_eqm cd_eqm ct_eqm), sl_eqm⟩)
    (c_eqm : PySem.W.codeIn K cd_eqm "Spread.__eq__" = true)
    (k_eqm : PySem.W.keepIn K (.ref f_eqm) = true)
    (a_prs : PySem.W.findIn K (.ref C) "pairs" = some (some (.ref f_prs)))
    (i_prs : PySem.W.isFn K (.ref f_prs) = true)
    (l_prs : K.lookup f_prs = some ⟨oc_prs, od_prs, .func (PySem.W.fnOf "pairs" "Spread.pairs" (C8.fnArgs sPairsM) (C8.fnBody sPairsM) (C8.fnScope sPairsM) .none kV_prs dc_prs pm_prs an_prs cd_prs ct_prs), sl_prs⟩)
    (c_prs : PySem.W.codeIn K cd_prs "Spread.pairs" = true)
    (k_prs : PySem.W.keepIn K (.ref f_prs) = true)
    (a_ful : PySem.W.findIn K (.ref C) "fullest" = some (some (.ref f_ful)))
    (i_ful : PySem.W.isFn K (.ref f_ful) = true)
    (l_ful : K.lookup f_ful = some ⟨oc_ful, od_ful, .func (PySem.W.fnOf "fullest" "Spread.fullest" (C8.fnArgs sFull) (C8.fnBody sFull) (C8.fnScope sFull) .none kV_ful dc_ful pm_ful an_ful cd_ful ct_ful), sl_ful⟩)
    (c_ful : PySem.W.codeIn K cd_ful "Spread.fullest" = true)
    (k_ful : PySem.W.keepIn K (.ref f_ful) = true)
    (a_stm : PySem.W.findIn K (.ref C) "steepest" = some (some (.ref f_stm)))
    (i_stm : PySem.W.isFn K (.ref f_stm) = true)
    (l_stm : K.lookup f_stm = some ⟨oc_stm, od_stm, .func (PySem.W.fnOf "steepest" "Spread.steepest" (C8.fnArgs sSteepM) (C8.fnBody sSteepM) (C8.fnScope sSteepM) .none kV_stm dc_stm pm_stm an_stm cd_stm ct_stm), sl_stm⟩)
    (c_stm : PySem.W.codeIn K cd_stm "Spread.steepest" = true)
    (k_stm : PySem.W.keepIn K (.ref f_stm) = true)
    (a_siz : PySem.W.findIn K (.ref C) "size" = some (some (.ref q_siz)))
    (g_siz : PySem.W.specialIn K (.ref q_siz) "__get__" = some (some (.builtin "property.__get__")))
    (u_siz : PySem.W.takesIn K (.ref q_siz) = some true)
    (e_siz : PySem.W.recIn K q_siz "property" = some (.ref f_siz :: r_siz))
    (l_siz : K.lookup f_siz = some ⟨oc_siz, od_siz, .func (PySem.W.fnOf "size" "Spread.size" (C8.fnArgs sSize) (C8.fnBody sSize) (C8.fnScope sSize) .none kV_siz dc_siz pm_siz an_siz cd_siz ct_siz), sl_siz⟩)
    (c_siz : PySem.W.codeIn K cd_siz "Spread.size" = true)
    (a_mst : PySem.W.findIn K (.ref C) "most" = some (some (.ref q_mst)))
    (g_mst : PySem.W.specialIn K (.ref q_mst) "__get__" = some (some (.builtin "property.__get__")))
    (u_mst : PySem.W.takesIn K (.ref q_mst) = some true)
    (e_mst : PySem.W.recIn K q_mst "property" = some (.ref f_mst :: r_mst))
    (l_mst : K.lookup f_mst = some ⟨oc_mst, od_mst, .func (PySem.W.fnOf "most" "Spread.most" (C8.fnArgs sMost) (C8.fnBody sMost) (C8.fnScope sMost) .none kV_mst dc_mst pm_mst an_mst cd_mst ct_mst), sl_mst⟩)
    (c_mst : PySem.W.codeIn K cd_mst "Spread.most" = true)
    (z_isinstance : PySem.W.nsIn K mainGlobals "isinstance" = some none)
    (z_int : PySem.W.nsIn K mainGlobals "int" = some none)
    (z_bool : PySem.W.nsIn K mainGlobals "bool" = some none)
    (z_tuple : PySem.W.nsIn K mainGlobals "tuple" = some none)
    (z_list : PySem.W.nsIn K mainGlobals "list" = some none)
    (z_len : PySem.W.nsIn K mainGlobals "len" = some none)
    (z_range : PySem.W.nsIn K mainGlobals "range" = some none)
    (z_min : PySem.W.nsIn K mainGlobals "min" = some none)
    (z_max : PySem.W.nsIn K mainGlobals "max" = some none)
    (z_sum : PySem.W.nsIn K mainGlobals "sum" = some none)
    (z_sorted : PySem.W.nsIn K mainGlobals "sorted" = some none)
    (z_zip : PySem.W.nsIn K mainGlobals "zip" = some none)
    (z_enumerate : PySem.W.nsIn K mainGlobals "enumerate" = some none)
    (z_super : PySem.W.nsIn K mainGlobals "super" = some none)
    (xg : PySem.W.nsIn K mainGlobals "InvalidSpread" = some (some (.ref D)))
    (xin : PySem.W.excInitIn K D ESX.exTail "Exception.__new__" = true)
    (xov : PySem.W.excOver K D ESX.exTail = true)
    (xv : PySem.W.findIn K (.ref D) "value" = some none)
    (xsa : PySem.W.findIn K (.ref D) "__setattr__" = some (some (.builtin "object.__setattr__")))
    (xga : PySem.W.findIn K (.ref D) "__getattribute__" = some (some (.builtin "BaseException.__getattribute__")))
    (xgg : PySem.W.findIn K (.ref D) "__getattr__" = some none)
    (xi : PySem.W.findIn K (.ref D) "__init__" = some (some (.ref fI)))
    (xt : PySem.W.typeIn K (.ref fI) = some (.type "function"))
    (xk : PySem.W.keepIn K (.ref D) = true)
    (xeB : PySem.W.mroIn K D (.type "BaseException") = some true)
    (xsE : PySem.W.mroIn K D (.type "Exception") = some true)
    (xsC : PySem.W.mroIn K D (.ref D) = some true)
    (xty : PySem.W.typeIn K (.ref D) = some (.type "type"))
    (xhd : PySem.W.hasDictIn K D = true)
    (xic : PySem.W.isClsIn K D = true)
    (xsup : PySem.W.ks_superIn K D D "__init__" = some (some (.builtin "Exception.__init__")))
    (xop : PySem.W.nsIn K cStatics "thirdparty.any" = some none)
    (xl : K.lookup fI = some ⟨oc_x, od_x, .func (PySem.W.ksFn "__init__" "InvalidSpread.__init__" (L2.defArgs Iv.iS) (L2.defBody Iv.iS) (L2.defScope Iv.iS) .none .none dc_x pm_x an_x (.ref cda) ct_x cc), sl_x⟩)
    (xc : PySem.W.codeIn K (.ref cda) "InvalidSpread.__init__" = true)
    (xcl : K.lookup cda = some ⟨ccl, cdd, .fields vsx, ccs⟩)
    (xcc : K.lookup cc = some ⟨cl, cld, .cell (some (.ref D)), csl⟩)
    (xvs : vsx[2]? = some (.str filx tfx))
    (xfi : ((P.main.file : Str) == filx) = true)
    (xtop : (P.main.scope.names.lookup ("super" : Str)).isSome = false) :
    ∃ fd : FuncData, (∀ (s : Shared) (v : Value), BindsTo s fd ⟨[v], []⟩ [("_law_script", v)]) ∧ ∀ base : Heap, K.In base → base.Ns mainGlobals mg → FnOk P w K mg base CX0 12 fa fd ["_law_script"] (spLaw K) := by
  obtain rfl : f_law = fa := (Value.ref.inj (Option.some.inj (hfa.symm.trans (PySem.W.mg_of X G a_law)))).symm
  have F_isi : C8.Def K mg "is_integer" sIsInt f_isi _ := def_mk (PySem.W.mg_of X G a_isi) l_isi c_isi k_isi
  have b_isi := F_isi.fn.binds rfl (ps := ["value"]) fun _ _ _ _ _ _ us hl => match us, hl with | [_], _ => rfl
  have F_cnt : C8.Def K mg "is_count" sIsCount f_cnt _ := def_mk (PySem.W.mg_of X G a_cnt) l_cnt c_cnt k_cnt
  have F_btw : C8.Def K mg "is_between" sBetween f_btw _ := def_mk (PySem.W.mg_of X G a_btw) l_btw c_btw k_btw
  have b_btw := F_btw.fn.binds rfl (ps := ["value", "low", "high"]) fun _ _ _ _ _ _ us hl => match us, hl with | [_, _, _], _ => rfl
  have F_stp : C8.Def K mg "steep_in" sSteep f_stp _ := def_mk (PySem.W.mg_of X G a_stp) l_stp c_stp k_stp
  have b_stp := F_stp.fn.binds rfl (ps := ["rows", "different", "most"]) fun _ _ _ _ _ _ us hl => match us, hl with | [_, _, _], _ => rfl
  have F_lim : C8.Def K mg "are_limits" sLimits f_lim _ := def_mk (PySem.W.mg_of X G a_lim) l_lim c_lim k_lim
  have b_lim := F_lim.fn.binds rfl (ps := ["value"]) fun _ _ _ _ _ _ us hl => match us, hl with | [_], _ => rfl
  have F_pps : C8.Def K mg "possible_pairs" sPairs f_pps _ := def_mk (PySem.W.mg_of X G a_pps) l_pps c_pps k_pps
  have b_pps := F_pps.fn.binds rfl (ps := ["size", "rows", "different", "most"]) fun _ _ _ _ _ _ us hl => match us, hl with | [_, _, _, _], _ => rfl
  have F_prd : C8.Def K mg "products" sProd f_prd _ := def_mk (PySem.W.mg_of X G a_prd) l_prd c_prd k_prd
  have F_frc : C8.Def K mg "forced" sForced f_frc _ := def_mk (PySem.W.mg_of X G a_frc) l_frc c_frc k_frc
  have b_frc := F_frc.fn.binds rfl (ps := ["rows", "free", "most", "common"]) fun _ _ _ _ _ _ us hl => match us, hl with | [_, _, _, _], _ => rfl
  have F_apt : C8.Def K mg "apart" sApart f_apt _ := def_mk (PySem.W.mg_of X G a_apt) l_apt c_apt k_apt
  have b_apt := F_apt.fn.binds rfl (ps := ["size", "one", "other", "mosts"]) fun _ _ _ _ _ _ us hl => match us, hl with | [_, _, _, _], _ => rfl
  have F_num : C8.Def K mg "_law_numbers" sNumbers f_num _ := def_mk (PySem.W.mg_of X G a_num) l_num c_num k_num
  have b_num := F_num.fn.binds rfl (ps := ["_law_cell", "_law_salt", "_law_sizes"]) fun _ _ _ _ _ _ us hl => match us, hl with | [_, _, _], _ => rfl
  have F_drw : C8.Def K mg "_law_draw" sDraw f_drw _ := def_mk (PySem.W.mg_of X G a_drw) l_drw c_drw k_drw
  have b_drw := F_drw.fn.binds rfl (ps := ["_law_state", "_law_many"]) fun _ _ _ _ _ _ us hl => match us, hl with | [_, _], _ => rfl
  have F_pol : C8.Def K mg "_law_pool" sPool f_pol _ := def_mk (PySem.W.mg_of X G a_pol) l_pol c_pol k_pol
  have b_pol := F_pol.fn.binds rfl (ps := ["_law_cell", "_law_salt", "_law_many"]) fun _ _ _ _ _ _ us hl => match us, hl with | [_, _, _], _ => rfl
  have F_spl : C8.Def K mg "_law_splits" sSplits f_spl _ := def_mk (PySem.W.mg_of X G a_spl) l_spl c_spl k_spl
  have b_spl := F_spl.fn.binds rfl (ps := ["_law_total", "_law_many"]) fun _ _ _ _ _ _ us hl => match us, hl with | [_, _], _ => rfl
  have F_tld : C8.Def K mg "_law_told" sTold f_tld _ := def_mk (PySem.W.mg_of X G a_tld) l_tld c_tld k_tld
  have b_tld := F_tld.fn.binds rfl (ps := ["_law_heights_here"]) fun _ _ _ _ _ _ us hl => match us, hl with | [_], _ => rfl
  have F_hld : C8.Def K mg "_law_holds" sHolds f_hld _ := def_mk (PySem.W.mg_of X G a_hld) l_hld c_hld k_hld
  have b_hld := F_hld.fn.binds rfl (ps := ["_law_told_here", "_law_heights_here"]) fun _ _ _ _ _ _ us hl => match us, hl with | [_, _], _ => rfl
  have F_arn : C8.Def K mg "_law_around" sAround f_arn _ := def_mk (PySem.W.mg_of X G a_arn) l_arn c_arn k_arn
  have b_arn := F_arn.fn.binds rfl (ps := ["_law_state", "_law_heights_here"]) fun _ _ _ _ _ _ us hl => match us, hl with | [_, _], _ => rfl
  have F_hts : C8.Def K mg "_law_heights" sHeights f_hts _ := def_mk (PySem.W.mg_of X G a_hts) l_hts c_hts k_hts
  have b_hts := F_hts.fn.binds rfl (ps := ["_law_state", "_law_size", "_law_most"]) fun _ _ _ _ _ _ us hl => match us, hl with | [_, _, _], _ => rfl
  have F_mde : C8.Def K mg "_law_made" sMade f_mde _ := def_mk (PySem.W.mg_of X G a_mde) l_mde c_mde k_mde
  have b_mde := F_mde.fn.binds rfl (ps := ["_law_told_here"]) fun _ _ _ _ _ _ us hl => match us, hl with | [_], _ => rfl
  have F_srt : C8.Def K mg "_law_sorted_only" sSorted f_srt _ := def_mk (PySem.W.mg_of X G a_srt) l_srt c_srt k_srt
  have b_srt := F_srt.fn.binds rfl (ps := ["_law_some"]) fun _ _ _ _ _ _ us hl => match us, hl with | [_], _ => rfl
  have F_tof : C8.Def K mg "_law_told_of" sToldOf f_tof _ := def_mk (PySem.W.mg_of X G a_tof) l_tof c_tof k_tof
  have b_tof := F_tof.fn.binds rfl (ps := ["_law_door", "_law_one", "_law_other"]) fun _ _ _ _ _ _ us hl => match us, hl with | [_, _, _], _ => rfl
  have F_nds : C8.Def K mg "_law_ends" sEnds f_nds _ := def_mk (PySem.W.mg_of X G a_nds) l_nds c_nds k_nds
  have b_nds := F_nds.fn.binds rfl (ps := ["_law_some", "_law_others"]) fun _ _ _ _ _ _ us hl => match us, hl with | [_, _], _ => rfl
  have F_law : C8.Def K mg "law" sLaw f_law _ := def_mk (PySem.W.mg_of X G a_law) l_law c_law k_law
  have b_law := F_law.fn.binds rfl (ps := ["_law_script"]) fun _ _ _ _ _ _ us hl => match us, hl with | [_], _ => rfl
  have F_req : L2.Fun K "require_like" "require_like" sReq f_req _ := fun_mk (st := sReq) l_req c_req k_req
  have b_req := F_req.binds (ps := ["one", "other"]) fun _ _ _ _ _ _ us hl => match us, hl with | [_, _], _ => rfl
  have F_grt : L2.Fun K "greatest_join" "greatest_join" sGreat f_grt _ := fun_mk (st := sGreat) l_grt c_grt k_grt
  have b_grt := F_grt.binds (ps := ["one", "other"]) fun _ _ _ _ _ _ us hl => match us, hl with | [_, _], _ => rfl
  have F_lst : L2.Fun K "least_join" "least_join" sLeast f_lst _ := fun_mk (st := sLeast) l_lst c_lst k_lst
  have b_lst := F_lst.binds (ps := ["one", "other"]) fun _ _ _ _ _ _ us hl => match us, hl with | [_, _], _ => rfl
  have F_ini : C8.Fun K "__init__" "Spread.__init__" sInit f_ini _ := fun_mk8 l_ini c_ini
  have F_eqm : C8.Fun K "__eq__" "Spread.__eq__" sEqM f_eqm _ := fun_mk8 l_eqm c_eqm
  have b_eqm := F_eqm.binds rfl (ps := ["self", "other"]) fun _ _ _ _ _ _ us hl => match us, hl with | [_, _], _ => rfl
  have F_prs : C8.Fun K "pairs" "Spread.pairs" sPairsM f_prs _ := fun_mk8 l_prs c_prs
  have b_prs := F_prs.binds rfl (ps := ["self"]) fun _ _ _ _ _ _ us hl => match us, hl with | [_], _ => rfl
  have F_ful : C8.Fun K "fullest" "Spread.fullest" sFull f_ful _ := fun_mk8 l_ful c_ful
  have b_ful := F_ful.binds rfl (ps := ["self"]) fun _ _ _ _ _ _ us hl => match us, hl with | [_], _ => rfl
  have F_stm : C8.Fun K "steepest" "Spread.steepest" sSteepM f_stm _ := fun_mk8 l_stm c_stm
  have b_stm := F_stm.binds rfl (ps := ["self"]) fun _ _ _ _ _ _ us hl => match us, hl with | [_], _ => rfl
  have F_siz : C8.Fun K "size" "Spread.size" sSize f_siz _ := fun_mk8 l_siz c_siz
  have b_siz := F_siz.binds rfl (ps := ["self"]) fun _ _ _ _ _ _ us hl => match us, hl with | [_], _ => rfl
  have F_mst : C8.Fun K "most" "Spread.most" sMost f_mst _ := fun_mk8 l_mst c_mst
  have b_mst := F_mst.binds rfl (ps := ["self"]) fun _ _ _ _ _ _ us hl => match us, hl with | [_], _ => rfl
  have N : Nm mg := ⟨PySem.W.mg_none_of X G z_isinstance, PySem.W.mg_none_of X G z_int, PySem.W.mg_none_of X G z_bool, PySem.W.mg_none_of X G z_tuple, PySem.W.mg_none_of X G z_list, PySem.W.mg_none_of X G z_len, PySem.W.mg_none_of X G z_range, PySem.W.mg_none_of X G z_min, PySem.W.mg_none_of X G z_max, PySem.W.mg_none_of X G z_sum, PySem.W.mg_none_of X G z_sorted, PySem.W.mg_none_of X G z_zip, PySem.W.mg_none_of X G z_enumerate⟩
  have T : SpC K mg C := ⟨⟨pg, ic, po, sa⟩, ⟨ca, cn, ct, cm⟩, ⟨p_d, sf_d, sg_d, st_d, sy_d, sx_d, by decide⟩, ⟨p_f, sf_f, sg_f, st_f, sy_f, sx_f, by decide⟩, ⟨p_m, sf_m, sg_m, st_m, sy_m, sx_m, by decide⟩, ⟨p_r, sf_r, sg_r, st_r, sy_r, sx_r, by decide⟩, ⟨p_s, sf_s, sg_s, st_s, sy_s, sx_s, by decide⟩, PySem.W.mg_of X G aC⟩
  have TK : SpK K C := ⟨kit_false ic tyS rfl, kit_false ic tyS rfl, kit_false ic tyS rfl⟩
  have Ti : Iv.IvTxt P K mg D fI := ⟨PySem.W.mg_of X G xg, PySem.W.mg_none_of X G z_super, xin, xov, taker_none xv, xsa, xga, xgg, xv, xi, xt, xk, xeB, xsE, xsC, xty, xhd, exm_own xeB xic xty xsC, xsup, xop, xtop,
    ⟨oc_x, od_x, dc_x, pm_x, an_x, cda, cc, ct_x, sl_x, ccl, cl, cdd, cld, ccs, csl, vsx, filx, tfx, xl, xc, xcl, xvs, xfi, xcc⟩⟩
  obtain ⟨ds, vd, bd⟩ := dflt1 (n := 1) (j := 0) (x := "is_count") (qual := "is_count") (st := sIsCount) (ps := ["value", "least"]) (v := V.int 0) l_cnt c_cnt k_cnt lt_cnt ⟨_, rfl⟩ rfl fun T kV doc pm an cdv ct us its hu hi => match us, its, hu, hi with | [_], [_], _, _ => ⟨_, rfl, rfl⟩
  obtain ⟨d0, v0, b0⟩ := dflt1 (n := 5) (j := 1) (x := "__init__") (qual := "Spread.__init__") (st := sInit) (ps := ["self", "size", "rows", "different", "most"]) (v := V.non) l_ini c_ini k_ini lt_ini rfl rfl fun T kV doc pm an cdv ct us its hu hi => match us, its, hu, hi with | [_, _, _, _, _], [_], _, _ => ⟨_, rfl, rfl⟩
  obtain ⟨d1, v1, b1⟩ := dflt1 (n := 4) (j := 0) (x := "__init__") (qual := "Spread.__init__") (st := sInit) (ps := ["self", "size", "rows", "different", "most"]) (v := V.non) l_ini c_ini k_ini lt_ini rfl rfl fun T kV doc pm an cdv ct us its hu hi => match us, its, hu, hi with | [_, _, _, _], [_], _, _ => ⟨_, rfl, rfl⟩
  have e0 : d0 = [] := by cases v0; rfl
  have e1 : d1 = [Value.none] := by
    cases v1 with
    | cons r rr =>
      cases rr
      cases r
      rfl
  subst e0
  subst e1
  refine ⟨PySem.W.fnOf "law" "law" (C8.fnArgs sLaw) (C8.fnBody sLaw) (C8.fnScope sLaw) .none kV_law dc_law pm_law an_law cd_law ct_law, fun s v => .of_eq rfl, fun base _ _ => ?_⟩
  have Cisi := ok_isInt (P := P) (w := w) (base := base) F_isi b_isi N
  have Ccnt := ok_isCount F_cnt bd vd Cisi
  have Cbtw := ok_between F_btw b_btw Cisi
  have Cstp := ok_steep (P := P) (w := w) (base := base) F_stp b_stp N
  have Clim := ok_limits F_lim b_lim N Ccnt
  have Cpps := ok_pairs (P := P) (w := w) (base := base) F_pps b_pps N
  have Fini := ok_init F_ini T (PySem.W.mg_of X G am) Ccnt Cbtw Clim Cpps
  have Ksz : PropC P w K mg base C "size" (spSize C) := ⟨q_siz, f_siz, a_siz, g_siz, u_siz, ⟨_, e_siz⟩, fnr_of (ok_size F_siz T) b_siz⟩
  have Kms : PropC P w K mg base C "most" (spMost C) := ⟨q_mst, f_mst, a_mst, g_mst, u_mst, ⟨_, e_mst⟩, fnr_of (ok_most F_mst T) b_mst⟩
  have Yprs := ok_pairsY F_prs T Cpps
  have Gprs := ok_pairsG F_prs T Cpps
  have Mprs : Meth K C "pairs" f_prs := ⟨a_prs, i_prs, k_prs⟩
  have Gful := ok_fullest F_ful T N Gprs Mprs b_prs
  have Gstm := ok_steepest F_stm T Gful ⟨a_ful, i_ful, k_ful⟩ b_ful Cstp
  have Cfrc := ok_forced (P := P) (w := w) (base := base) F_frc b_frc N
  have Capt := ok_apart F_apt b_apt N Cstp Cfrc
  have Cprd : PrC P w K mg base := ⟨f_prd, ok_prod F_prd.fn rfl N, PySem.W.mg_of X G a_prd, k_prd⟩
  have Creq : Clx P w K mg base 3 "require_like" (spRequire C D) := ⟨f_req, _, _, ok_require F_req T TK N Ti Ksz, PySem.W.mg_of X G a_req, k_req, b_req⟩
  have Fgrt := ok_great F_grt T Creq Gstm ⟨a_stm, i_stm, k_stm⟩ b_stm Cprd
  have Flst := ok_least F_lst T N Creq Yprs Gprs Mprs b_prs Cprd Capt Ksz Kms
  have Ctof := ok_toldOf F_tof b_tof Ti Fgrt (PySem.W.mg_of X G a_grt) k_grt b_grt Flst (PySem.W.mg_of X G a_lst) k_lst b_lst
  have Mk0 : MkC P w K mg base C := ⟨f_ini, _, .none, ⟨mk, a_ini, i_ini, kc⟩, Fini, b0, b1⟩
  have Ceq : Sn.EqC P w K mg base C := ⟨kN, kI, kT, f_eqm, a_eqm, i_eqm, fnr_of (ok_eq F_eqm T TK N) b_eqm⟩
  have Cnum := ok_numbers (P := P) (w := w) (base := base) F_num b_num N
  have Cdrw := ok_draw (P := P) (w := w) (base := base) F_drw b_drw N
  have Ctld := ok_told (P := P) (w := w) (base := base) F_tld b_tld N
  have L : LawC P w K mg base C := ⟨N, T, ok_pool F_pol b_pol Cnum, Cdrw, ok_around F_arn b_arn N Ctld Cdrw, ok_heights F_hts b_hts N Cdrw, ok_splits F_spl b_spl N 4, ok_holds F_hld b_hld N Ctld,
    ok_sorted F_srt b_srt N, ok_ends F_nds b_nds N, Ctof, ok_made F_mde b_mde T Mk0, Ceq, Mk0⟩
  exact law_fn F_law b_law L
end Wk
end
open PySem PySem.W PyProof.Rows
set_option Elab.async false
set_option maxRecDepth 100000 in
set_option maxHeartbeats 0 in
open_top head for PySem.Challenge.rw_surecounts_k46_whole_greatest_joins
set_option Elab.async false
set_option maxRecDepth 100000
open PySem PySem.W PyProof.Rows
set_option maxHeartbeats 0 in
theorem PySem.Challenge.cw_surecounts_k46_whole_greatest_joins_holds : PySem.Challenge.rw_surecounts_k46_whole_greatest_joins.Holds := by
  refine head ?_
  k_fill
  refine L2.walk_ofK (l := PySem.Challenge.rw_surecounts_k46_whole_greatest_joins) (n := 63) (k := 12) (x := "_law_script") (CX := L2.CX0) (sp := Wk.spLaw) rfl (by decide) rfl ⟨rfl, by decide, by decide⟩ (fun w h Y => PySem.W.kIn_of Y) ?F ?A (fun _ _ _ _ h => h)
  case A => exact fun K H a ns hl _ hS => ⟨a, ns, rfl, hS, hl, fun _ => rfl⟩
  case F =>
    intro w mg fa h KX G hmg
    refine' Wk.all_mk KX G hmg ?a_isi ?l_isi ?c_isi ?k_isi ?a_cnt ?l_cnt ?c_cnt ?lt_cnt ?k_cnt ?a_btw ?l_btw ?c_btw ?k_btw ?a_stp ?l_stp ?c_stp ?k_stp ?a_lim ?l_lim ?c_lim ?k_lim ?a_pps ?l_pps ?c_pps ?k_pps ?a_prd ?l_prd ?c_prd ?k_prd ?a_frc ?l_frc ?c_frc ?k_frc ?a_apt ?l_apt ?c_apt ?k_apt ?a_num ?l_num ?c_num ?k_num ?a_drw ?l_drw ?c_drw ?k_drw ?a_pol ?l_pol ?c_pol ?k_pol ?a_spl ?l_spl ?c_spl ?k_spl ?a_tld ?l_tld ?c_tld ?k_tld ?a_hld ?l_hld ?c_hld ?k_hld ?a_arn ?l_arn ?c_arn ?k_arn ?a_hts ?l_hts ?c_hts ?k_hts ?a_mde ?l_mde ?c_mde ?k_mde ?a_srt ?l_srt ?c_srt ?k_srt ?a_tof ?l_tof ?c_tof ?k_tof ?a_nds ?l_nds ?c_nds ?k_nds ?a_law ?l_law ?c_law ?k_law ?a_req ?l_req ?c_req ?k_req ?a_grt ?l_grt ?c_grt ?k_grt ?a_lst ?l_lst ?c_lst ?k_lst ?aC ?pg ?ic ?po ?sa ?ca ?cn ?ct ?cm ?kN ?kI ?kT ?tyS ?mk ?kc ?am ?sf_d ?sg_d ?st_d ?sy_d ?sx_d ?sf_f ?sg_f ?st_f ?sy_f ?sx_f ?sf_m ?sg_m ?st_m ?sy_m ?sx_m ?sf_r ?sg_r ?st_r ?sy_r ?sx_r ?sf_s ?sg_s ?st_s ?sy_s ?sx_s ?a_ini ?i_ini ?l_ini ?c_ini ?lt_ini ?k_ini ?a_eqm ?i_eqm ?l_eqm ?c_eqm ?k_eqm ?a_prs ?i_prs ?l_prs ?c_prs ?k_prs ?a_ful ?i_ful ?l_ful ?c_ful ?k_ful ?a_stm ?i_stm ?l_stm ?c_stm ?k_stm ?a_siz ?g_siz ?u_siz ?e_siz ?l_siz ?c_siz ?a_mst ?g_mst ?u_mst ?e_mst ?l_mst ?c_mst ?z_isinstance ?z_int ?z_bool ?z_tuple ?z_list ?z_len ?z_range ?z_min ?z_max ?z_sum ?z_sorted ?z_zip ?z_enumerate ?z_super ?xg ?xin ?xov ?xv ?xsa ?xga ?xgg ?xi ?xt ?xk ?xeB ?xsE ?xsC ?xty ?xhd ?xic ?xsup ?xop ?xl ?xc ?xcl ?xcc ?xvs ?xfi ?xtop
    (case a_isi => k_is)
    (case l_isi => k_is)
    (case c_isi => k_is)
    (case k_isi => k_is)
    (case a_cnt => k_is)
    (case l_cnt => k_is)
    (case c_cnt => k_is)
    (case lt_cnt => k_is)
    (case k_cnt => k_is)
    (case a_btw => k_is)
    (case l_btw => k_is)
    (case c_btw => k_is)
    (case k_btw => k_is)
    (case a_stp => k_is)
    (case l_stp => k_is)
    (case c_stp => k_is)
    (case k_stp => k_is)
    (case a_lim => k_is)
    (case l_lim => k_is)
    (case c_lim => k_is)
    (case k_lim => k_is)
    (case a_pps => k_is)
    (case l_pps => k_is)
    (case c_pps => k_is)
    (case k_pps => k_is)
    (case a_prd => k_is)
    (case l_prd => k_is)
    (case c_prd => k_is)
    (case k_prd => k_is)
    (case a_frc => k_is)
    (case l_frc => k_is)
    (case c_frc => k_is)
    (case k_frc => k_is)
    (case a_apt => k_is)
    (case l_apt => k_is)
    (case c_apt => k_is)
    (case k_apt => k_is)
    (case a_num => k_is)
    (case l_num => k_is)
    (case c_num => k_is)
    (case k_num => k_is)
    (case a_drw => k_is)
    (case l_drw => k_is)
    (case c_drw => k_is)
    (case k_drw => k_is)
    (case a_pol => k_is)
    (case l_pol => k_is)
    (case c_pol => k_is)
    (case k_pol => k_is)
    (case a_spl => k_is)
    (case l_spl => k_is)
    (case c_spl => k_is)
    (case k_spl => k_is)
    (case a_tld => k_is)
    (case l_tld => k_is)
    (case c_tld => k_is)
    (case k_tld => k_is)
    (case a_hld => k_is)
    (case l_hld => k_is)
    (case c_hld => k_is)
    (case k_hld => k_is)
    (case a_arn => k_is)
    (case l_arn => k_is)
    (case c_arn => k_is)
    (case k_arn => k_is)
    (case a_hts => k_is)
    (case l_hts => k_is)
    (case c_hts => k_is)
    (case k_hts => k_is)
    (case a_mde => k_is)
    (case l_mde => k_is)
    (case c_mde => k_is)
    (case k_mde => k_is)
    (case a_srt => k_is)
    (case l_srt => k_is)
    (case c_srt => k_is)
    (case k_srt => k_is)
    (case a_tof => k_is)
    (case l_tof => k_is)
    (case c_tof => k_is)
    (case k_tof => k_is)
    (case a_nds => k_is)
    (case l_nds => k_is)
    (case c_nds => k_is)
    (case k_nds => k_is)
    (case a_law => k_is)
    (case l_law => k_is)
    (case c_law => k_is)
    (case k_law => k_is)
    (case a_req => k_is)
    (case l_req => k_is)
    (case c_req => k_is)
    (case k_req => k_is)
    (case a_grt => k_is)
    (case l_grt => k_is)
    (case c_grt => k_is)
    (case k_grt => k_is)
    (case a_lst => k_is)
    (case l_lst => k_is)
    (case c_lst => k_is)
    (case k_lst => k_is)
    (case aC => k_is)
    (case pg => k_is)
    (case ic => k_is)
    (case po => k_is)
    (case sa => k_is)
    (case ca => k_is)
    (case cn => k_is)
    (case ct => k_is)
    (case cm => k_is)
    (case kN => k_is)
    (case kI => k_is)
    (case kT => k_is)
    (case tyS => k_is)
    (case mk => k_is)
    (case kc => k_is)
    (case am => k_is)
    (case sf_d => k_is)
    (case sg_d => k_is)
    (case st_d => k_is)
    (case sy_d => k_is)
    (case sx_d => k_is)
    (case sf_f => k_is)
    (case sg_f => k_is)
    (case st_f => k_is)
    (case sy_f => k_is)
    (case sx_f => k_is)
    (case sf_m => k_is)
    (case sg_m => k_is)
    (case st_m => k_is)
    (case sy_m => k_is)
    (case sx_m => k_is)
    (case sf_r => k_is)
    (case sg_r => k_is)
    (case st_r => k_is)
    (case sy_r => k_is)
    (case sx_r => k_is)
    (case sf_s => k_is)
    (case sg_s => k_is)
    (case st_s => k_is)
    (case sy_s => k_is)
    (case sx_s => k_is)
    (case a_ini => k_is)
    (case i_ini => k_is)
    (case l_ini => k_is)
    (case c_ini => k_is)
    (case lt_ini => k_is)
    (case k_ini => k_is)
    (case a_eqm => k_is)
    (case i_eqm => k_is)
    (case l_eqm => k_is)
    (case c_eqm => k_is)
    (case k_eqm => k_is)
    (case a_prs => k_is)
    (case i_prs => k_is)
    (case l_prs => k_is)
    (case c_prs => k_is)
    (case k_prs => k_is)
    (case a_ful => k_is)
    (case i_ful => k_is)
    (case l_ful => k_is)
    (case c_ful => k_is)
    (case k_ful => k_is)
    (case a_stm => k_is)
    (case i_stm => k_is)
    (case l_stm => k_is)
    (case c_stm => k_is)
    (case k_stm => k_is)
    (case a_siz => k_is)
    (case g_siz => k_is)
    (case u_siz => k_is)
    (case e_siz => k_is)
    (case l_siz => k_is)
    (case c_siz => k_is)
    (case a_mst => k_is)
    (case g_mst => k_is)
    (case u_mst => k_is)
    (case e_mst => k_is)
    (case l_mst => k_is)
    (case c_mst => k_is)
    (case z_isinstance => k_is)
    (case z_int => k_is)
    (case z_bool => k_is)
    (case z_tuple => k_is)
    (case z_list => k_is)
    (case z_len => k_is)
    (case z_range => k_is)
    (case z_min => k_is)
    (case z_max => k_is)
    (case z_sum => k_is)
    (case z_sorted => k_is)
    (case z_zip => k_is)
    (case z_enumerate => k_is)
    (case z_super => k_is)
    (case xg => k_is)
    (case xin => kx_is)
    (case xov => kx_is)
    (case xv => k_is)
    (case xsa => k_is)
    (case xga => k_is)
    (case xgg => k_is)
    (case xi => k_is)
    (case xt => k_is)
    (case xk => k_is)
    (case xeB => k_is)
    (case xsE => k_is)
    (case xsC => first | rfl | k_is)
    (case xty => k_is)
    (case xhd => k_is)
    (case xic => k_is)
    (case xsup => ks_is)
    (case xop => k_is)
    (case xl => k_is)
    (case xc => k_is)
    (case xcl => k_is)
    (case xcc => k_is)
    (case xvs => rfl)
    (case xfi => first | rfl | decide +kernel)
    (case xtop => first | rfl | decide +kernel)
