import PyProof.Rows.All
import Wide.All
import OpenK.AllK
import Wide.FinOn
import KE.KStateDown
import Lean
import HandS.ForMost
import HandS.More
import HandS.WordsExc
import HandS.Defaults
import HandS.Codes
import HandS.Head0
import HandS.Head1
import HandS.Head2
import HandS.HeadEnd
import HandS.HeadHook1
import HandS.HeadHook2
import PySem.Challenge.RW_slopeworld_k48_whole_nearest_points_besi
import HandS.Style
import HandS.Deep
import HandS.TupAny
import HandS.TupMul
import HandS.Star
import HandS.Strs
import HandS.SetFor
import HandS.Conv
import HandS.IsInst
import HandS.Wide
import HandS.WideBits
import KE.GoesMore
import KE.GoesEnum
set_option maxRecDepth 100000
set_option maxHeartbeats 4000000
set_option linter.all false
/-! The plain law: convergents, their sizes, the best points on both sides. No program here. -/
namespace K48

/-- tops and bottoms: index i stands for the neighbour of the place i - 1; i = 0 is (1, 0) -/
def T (a : Nat → Int) : Nat → Int
  | 0 => 1
  | 1 => 0
  | i + 2 => a (i + 1) * T a (i + 1) + T a i
def B (a : Nat → Int) : Nat → Int
  | 0 => 0
  | 1 => 1
  | i + 2 => a (i + 1) * B a (i + 1) + B a i
/-- all parts are from 1 to 20 -/
def Ok (a : Nat → Int) : Prop := ∀ k, 1 ≤ k → 1 ≤ a k ∧ a k ≤ 20

theorem T_two (a : Nat → Int) (i : Nat) : T a (i + 2) = a (i + 1) * T a (i + 1) + T a i := rfl
theorem B_two (a : Nat → Int) (i : Nat) : B a (i + 2) = a (i + 1) * B a (i + 1) + B a i := rfl

section
variable {a : Nat → Int} (ok : Ok a)
include ok

theorem B_both : ∀ i, 0 ≤ B a i ∧ 1 ≤ B a (i + 1)
  | 0 => ⟨Int.le_refl 0, Int.le_refl 1⟩
  | i + 1 => by
    have ih := B_both i
    have h := ok (i + 1) (by omega)
    refine ⟨by omega, ?_⟩
    rw [B_two]
    have := Int.mul_le_mul h.1 ih.2 (by omega) (by omega)
    omega
theorem B_nn (i : Nat) : 0 ≤ B a i := (B_both ok i).1
theorem B_pos {i : Nat} (h : 1 ≤ i) : 1 ≤ B a i := by
  obtain ⟨j, rfl⟩ : ∃ j, i = j + 1 := ⟨i - 1, by omega⟩
  exact (B_both ok j).2
/-- one part times a bottom -/
theorem part_mul {k i : Nat} (hk : 1 ≤ k) : B a i ≤ a k * B a i ∧ a k * B a i ≤ 20 * B a i := by
  have h := ok k hk
  have n := B_nn ok i
  have h1 := Int.mul_le_mul_of_nonneg_right h.1 n
  have h2 := Int.mul_le_mul_of_nonneg_right h.2 n
  omega
theorem B_step {i : Nat} (h : 1 ≤ i) : B a i ≤ B a (i + 1) := by
  obtain ⟨j, rfl⟩ : ∃ j, i = j + 1 := ⟨i - 1, by omega⟩
  have p := (part_mul ok (k := j + 1) (i := j + 1) (by omega)).1
  have n := B_nn ok j
  rw [B_two]
  omega
theorem B_mono {i j : Nat} (h : 1 ≤ i) (hij : i ≤ j) : B a i ≤ B a j := by
  obtain ⟨d, rfl⟩ : ∃ d, j = i + d := ⟨j - i, by omega⟩
  induction d with
  | zero => exact Int.le_refl _
  | succ d ih =>
    have s := B_step ok (i := i + d) (by omega)
    have q := ih (by omega)
    show B a i ≤ B a (i + d + 1)
    omega
theorem B_mono0 {i j : Nat} (hij : i ≤ j) : B a i ≤ B a j := by
  by_cases h : 1 ≤ i
  · exact B_mono ok h hij
  · have e : i = 0 := by omega
    subst e
    exact B_nn ok j
theorem B_lt_two (i : Nat) : B a i < B a (i + 2) := by
  have p := (part_mul ok (k := i + 1) (i := i + 1) (by omega)).1
  have q := B_pos ok (i := i + 1) (by omega)
  rw [B_two]
  omega
theorem B_up {i : Nat} (h : 1 ≤ i) : B a (i + 1) ≤ 21 * B a i := by
  obtain ⟨j, rfl⟩ : ∃ j, i = j + 1 := ⟨i - 1, by omega⟩
  have p := (part_mul ok (k := j + 1) (i := j + 1) (by omega)).2
  have m := B_mono0 ok (i := j) (j := j + 1) (by omega)
  rw [B_two]
  omega
theorem T_both : ∀ i, (0 ≤ T a (i + 1) ∧ T a (i + 1) ≤ B a (i + 1)) ∧ (0 ≤ T a (i + 2) ∧ T a (i + 2) ≤ B a (i + 2))
  | 0 => by
    have h := ok 1 (by omega)
    have e1 : T a 2 = 1 := by
      show a 1 * 0 + 1 = 1
      omega
    have e2 : B a 2 = a 1 := by
      show a 1 * 1 + 0 = a 1
      omega
    refine ⟨⟨Int.le_refl 0, (by decide : (0 : Int) ≤ 1)⟩, ?_⟩
    rw [e1, e2]
    omega
  | i + 1 => by
    have ih := T_both i
    refine ⟨ih.2, ?_⟩
    have h := ok (i + 2) (by omega)
    have m1 := Int.mul_le_mul_of_nonneg_left ih.2.2 (show 0 ≤ a (i + 2) by omega)
    have m2 := Int.mul_nonneg (show 0 ≤ a (i + 2) by omega) ih.2.1
    show 0 ≤ a (i + 2) * T a (i + 2) + T a (i + 1) ∧ a (i + 2) * T a (i + 2) + T a (i + 1) ≤ a (i + 2) * B a (i + 2) + B a (i + 1)
    omega
theorem T_nn {i : Nat} (h : 1 ≤ i) : 0 ≤ T a i := by
  obtain ⟨j, rfl⟩ : ∃ j, i = j + 1 := ⟨i - 1, by omega⟩
  exact (T_both ok j).1.1
theorem T_le {i : Nat} (h : 1 ≤ i) : T a i ≤ B a i := by
  obtain ⟨j, rfl⟩ : ∃ j, i = j + 1 := ⟨i - 1, by omega⟩
  exact (T_both ok j).1.2
theorem T_bd (i : Nat) : 0 ≤ T a i ∧ T a i ≤ B a i + 1 := by
  by_cases h : 1 ≤ i
  · have := T_nn ok h
    have := T_le ok h
    omega
  · have e : i = 0 := by omega
    subst e
    exact ⟨(by decide : (0 : Int) ≤ 1), (by decide : (1 : Int) ≤ 0 + 1)⟩

/-! ### growth -/
def fibs : Nat → Nat × Nat
  | 0 => (0, 1)
  | n + 1 => ((fibs n).2, (fibs n).1 + (fibs n).2)
theorem B_fib : ∀ i, ((fibs i).1 : Int) ≤ B a i ∧ ((fibs i).2 : Int) ≤ B a (i + 1)
  | 0 => ⟨Int.le_refl 0, Int.le_refl 1⟩
  | i + 1 => by
    have ih := B_fib i
    refine ⟨ih.2, ?_⟩
    have p := (part_mul ok (k := i + 1) (i := i + 1) (by omega)).1
    rw [B_two]
    show (((fibs i).1 + (fibs i).2 : Nat) : Int) ≤ _
    omega
theorem B_ge (i : Nat) : (i : Int) ≤ B a (i + 1) := by
  induction i with
  | zero => exact Int.le_trans (by decide) (B_pos ok (Nat.le_refl 1))
  | succ i ih =>
    by_cases h : i = 0
    · subst h
      exact B_pos ok (by omega)
    · have p := (part_mul ok (k := i + 1) (i := i + 1) (by omega)).1
      have q := B_pos ok (i := i) (by omega)
      rw [B_two]
      omega
theorem big400 : (10 : Int) ^ 75 < B a 401 := by
  have h := (B_fib ok 401).1
  have e : 10 ^ 75 < (fibs 401).1 := by decide +kernel
  have e2 : ((10 ^ 75 : Nat) : Int) < ((fibs 401).1 : Int) := Int.ofNat_lt.mpr e
  have e3 : ((10 ^ 75 : Nat) : Int) = (10 : Int) ^ 75 := by decide +kernel
  omega
theorem big10 : (40 : Int) < B a 10 := by
  have h := (B_fib ok 10).1
  have e : (fibs 10).1 = 55 := by decide
  rw [e] at h
  omega

/-! ### where a bound falls -/
omit ok in
theorem least {p : Nat → Prop} : ∀ n, p n → ∃ m, p m ∧ m ≤ n ∧ ∀ j, j < m → ¬ p j := by
  intro n
  induction n using Nat.strongRecOn with
  | ind n ih =>
    intro h
    by_cases q : ∃ j, j < n ∧ p j
    · obtain ⟨j, hj, pj⟩ := q
      obtain ⟨m, h1, h2, h3⟩ := ih j hj pj
      exact ⟨m, h1, by omega, h3⟩
    · exact ⟨n, h, Nat.le_refl n, fun j hj pj => q ⟨j, hj, pj⟩⟩
/-- m: the first index behind which all bottoms are above the bound -/
def Past (a : Nat → Int) (bound : Int) (m : Nat) : Prop := 2 ≤ m ∧ B a (m - 1) ≤ bound ∧ bound < B a m
theorem past_ex {bound : Int} (h : 1 ≤ bound) : ∃ m, Past a bound m := by
  have g := B_ge ok (bound.toNat + 1)
  obtain ⟨m, h1, _, h3⟩ := least (p := fun m => bound < B a m) (bound.toNat + 1 + 1) (by
    show bound < B a (bound.toNat + 1 + 1)
    omega)
  have n0 : m ≠ 0 := fun e => by
    subst e
    have : bound < 0 := h1
    omega
  have n1 : m ≠ 1 := fun e => by
    subst e
    have : bound < 1 := h1
    omega
  refine ⟨m, by omega, ?_, h1⟩
  have := h3 (m - 1) (by omega)
  omega
theorem past_le {bound : Int} {m i : Nat} (h : Past a bound m) (hi : i < m) : B a i ≤ bound := by
  have := B_mono0 ok (i := i) (j := m - 1) (by omega)
  have := h.2.1
  omega
theorem past_gt {bound : Int} {m i : Nat} (h : Past a bound m) (hi : m ≤ i) : bound < B a i := by
  have := B_mono0 ok (i := m) (j := i) hi
  have := h.2.2
  omega
theorem past_iff {bound : Int} {m i : Nat} (h : Past a bound m) : bound < B a i ↔ m ≤ i :=
  ⟨fun q => Nat.le_of_not_lt fun z => by
    have := past_le ok h z
    omega, past_gt ok h⟩
/-- s: where a side's walk ends; e: 0 above, 1 below -/
def Side (a : Nat → Int) (bound : Int) (e s : Nat) : Prop := s % 2 = e ∧ B a s ≤ bound ∧ bound < B a (s + 2)
theorem side_ex {bound : Int} {e : Nat} (h : 1 ≤ bound) (he : e = 0 ∨ e = 1) : ∃ s, Side a bound e s := by
  obtain ⟨m, hm⟩ := past_ex ok h
  have h2 := hm.1
  have g1 := past_gt ok hm (i := m) (by omega)
  have g2 := past_gt ok hm (i := m + 1) (by omega)
  have l1 := past_le ok hm (i := m - 1) (by omega)
  have l2 := past_le ok hm (i := m - 2) (by omega)
  by_cases p : m % 2 = e
  · refine ⟨m - 2, by omega, l2, ?_⟩
    rw [show m - 2 + 2 = m by omega]
    exact g1
  · refine ⟨m - 1, by omega, l1, ?_⟩
    rw [show m - 1 + 2 = m + 1 by omega]
    exact g2
theorem side_past {bound : Int} {e s m : Nat} (h : Side a bound e s) (hm : Past a bound m) : s + 2 ≤ m + 1 ∧ m ≤ s + 2 := by
  have h1 := h.2.1
  have h2 := h.2.2
  constructor
  · refine Nat.le_of_not_lt fun q => ?_
    have := past_gt ok hm (i := s) (by omega)
    omega
  · exact (past_iff ok hm).mp h2
/-- on the way: below s all is within the bound -/
theorem side_below {bound : Int} {e s i : Nat} (h : Side a bound e s) (hi : i ≤ s) : B a i ≤ bound := by
  have := B_mono0 ok hi
  have := h.2.1
  omega
theorem side_self {i : Nat} : Side a (B a i) (i % 2) i := ⟨rfl, Int.le_refl _, B_lt_two ok i⟩
theorem side_one {bound : Int} {e s s' : Nat} (h : Side a bound e s) (h' : Side a bound e s') : s = s' := by
  obtain ⟨p, l, g⟩ := h
  obtain ⟨p', l', g'⟩ := h'
  refine Nat.le_antisymm (Nat.le_of_not_lt fun q => ?_) (Nat.le_of_not_lt fun q => ?_)
  · have := B_mono0 ok (i := s' + 2) (j := s) (by omega)
    omega
  · have := B_mono0 ok (i := s + 2) (j := s') (by omega)
    omega
end

/-- the point of a side: how many steps, its width, its height -/
def cnt (a : Nat → Int) (bound : Int) (s : Nat) : Int := (bound - B a s) / B a (s + 1)
def wid (a : Nat → Int) (bound : Int) (s : Nat) : Int := B a s + cnt a bound s * B a (s + 1)
def hgt (a : Nat → Int) (bound : Int) (s : Nat) : Int := T a s + cnt a bound s * T a (s + 1)

section
variable {a : Nat → Int} (ok : Ok a)
include ok
theorem cnt_bd {bound : Int} {e s : Nat} (h : Side a bound e s) : 0 ≤ cnt a bound s ∧ wid a bound s ≤ bound ∧ bound < wid a bound s + B a (s + 1) ∧ cnt a bound s < a (s + 1) := by
  have p := B_pos ok (i := s + 1) (by omega)
  have h1 := h.2.1
  have h2 := h.2.2
  have d := Int.mul_ediv_add_emod (bound - B a s) (B a (s + 1))
  have m0 := Int.emod_nonneg (bound - B a s) (show B a (s + 1) ≠ 0 by omega)
  have m1 := Int.emod_lt_of_pos (bound - B a s) (show 0 < B a (s + 1) by omega)
  have q : 0 ≤ cnt a bound s := Int.ediv_nonneg (by omega) (by omega)
  have eq : cnt a bound s * B a (s + 1) = B a (s + 1) * ((bound - B a s) / B a (s + 1)) := Int.mul_comm _ _
  refine ⟨q, ?_, ?_, ?_⟩
  · unfold wid
    omega
  · unfold wid
    omega
  · refine Int.lt_of_not_ge fun z => ?_
    have z2 := Int.mul_le_mul_of_nonneg_right z (show 0 ≤ B a (s + 1) by omega)
    rw [B_two] at h2
    omega
theorem wid_pos {bound : Int} {e s : Nat} (h : Side a bound e s) (h1 : 1 ≤ bound) : 1 ≤ wid a bound s := by
  have c := cnt_bd ok h
  have p := B_pos ok (i := s + 1) (by omega)
  have m := Int.mul_nonneg c.1 (show 0 ≤ B a (s + 1) by omega)
  by_cases hs : 1 ≤ s
  · have := B_pos ok hs
    unfold wid
    omega
  · have e0 : s = 0 := by omega
    subst e0
    have e1 : B a 0 = 0 := rfl
    have e2 : B a (0 + 1) = 1 := rfl
    have c3 := c.2.2.1
    rw [e2] at c3
    omega
theorem hgt_bd {bound : Int} {e s : Nat} (h : Side a bound e s) (h1 : 1 ≤ bound) : 0 ≤ hgt a bound s ∧ hgt a bound s ≤ wid a bound s + 1 := by
  have c := cnt_bd ok h
  have t0 := T_bd ok s
  have t1 := T_nn ok (i := s + 1) (by omega)
  have t2 := T_le ok (i := s + 1) (by omega)
  have m1 := Int.mul_nonneg c.1 t1
  have m2 := Int.mul_le_mul_of_nonneg_left t2 c.1
  unfold hgt wid
  omega
theorem cnt_self (i : Nat) : cnt a (B a i) i = 0 := by
  unfold cnt
  rw [Int.sub_self, Int.zero_ediv]
theorem wid_self (i : Nat) : wid a (B a i) i = B a i := by
  unfold wid
  rw [cnt_self ok, Int.zero_mul, Int.add_zero]
theorem hgt_self (i : Nat) : hgt a (B a i) i = T a i := by
  unfold hgt
  rw [cnt_self ok, Int.zero_mul, Int.add_zero]
end

/-! ### the distance from a far neighbour -/
def sg : Nat → Int
  | 0 => 1
  | i + 1 => - sg i
theorem sg_two (i : Nat) : sg (i + 2) = sg i := by
  show - - sg i = sg i
  omega
theorem sg_sq (i : Nat) : sg i * sg i = 1 := by
  induction i with
  | zero => rfl
  | succ i ih =>
    show (- sg i) * (- sg i) = 1
    rw [Int.neg_mul_neg]
    exact ih
theorem sg_val (i : Nat) : (i % 2 = 0 → sg i = 1) ∧ (i % 2 = 1 → sg i = -1) := by
  induction i with
  | zero => exact ⟨fun _ => rfl, fun h => by omega⟩
  | succ i ih =>
    have e : sg (i + 1) = - sg i := rfl
    constructor
    · intro h
      have := ih.2 (by omega)
      omega
    · intro h
      have := ih.1 (by omega)
      omega
theorem det (a : Nat → Int) (i : Nat) : T a i * B a (i + 1) - T a (i + 1) * B a i = sg i := by
  induction i with
  | zero => rfl
  | succ i ih =>
    rw [B_two, T_two]
    show _ = - sg i
    rw [← ih]
    grind
/-- r n i: how far the i-th neighbour's multiple is from the n-th -/
def rr (a : Nat → Int) (n i : Nat) : Int := - sg i * (B a i * T a n - T a i * B a n)
theorem rr_two (a : Nat → Int) (n i : Nat) : rr a n i = a (i + 1) * rr a n (i + 1) + rr a n (i + 2) := by
  unfold rr
  rw [sg_two, B_two, T_two]
  show _ = a (i + 1) * (- (- sg i) * _) + _
  grind
theorem rr_n (a : Nat → Int) (n : Nat) : rr a n n = 0 := by
  unfold rr
  grind
theorem rr_pred (a : Nat → Int) (n : Nat) : rr a (n + 1) n = 1 := by
  unfold rr
  have d := det a n
  have s := sg_sq n
  have e : B a n * T a (n + 1) - T a n * B a (n + 1) = - sg n := by
    rw [← d]
    grind
  rw [e]
  grind
theorem rr_pos {a : Nat → Int} (ok : Ok a) (n : Nat) : ∀ k i, i + k = n → 0 ≤ rr a n i ∧ (1 ≤ k → 1 ≤ rr a n i) := by
  intro k
  induction k using Nat.strongRecOn with
  | ind k ih =>
    intro i h
    match k, ih, h with
    | 0, _, h =>
      have e : i = n := by omega
      subst e
      rw [rr_n]
      exact ⟨Int.le_refl 0, fun q => by omega⟩
    | 1, _, h =>
      subst h
      rw [rr_pred]
      exact ⟨by decide, fun _ => Int.le_refl 1⟩
    | k + 2, ih, h =>
      have h1 := (ih (k + 1) (by omega) (i + 1) (by omega)).2 (by omega)
      have h2 := (ih k (by omega) (i + 2) (by omega)).1
      have o := (ok (i + 1) (by omega)).1
      have m := Int.mul_le_mul_of_nonneg_right o (show 0 ≤ rr a n (i + 1) by omega)
      rw [rr_two]
      omega

/-! ### the nearest point on a side -/
/-- how far (w, h) is from the line of the n-th neighbour, upward on the side of s -/
def ee (a : Nat → Int) (n s : Nat) (w h : Int) : Int := - sg s * (w * T a n - h * B a n)
theorem ee_rr (a : Nat → Int) (n s : Nat) (c : Int) : ee a n s (B a s + c * B a (s + 1)) (T a s + c * T a (s + 1)) = rr a n s - c * rr a n (s + 1) := by
  unfold ee rr
  show _ = - sg s * _ - c * (- (- sg s) * _)
  grind
theorem mix (a : Nat → Int) (n s : Nat) (c w h : Int) (W H x y : Int) (eW : W = B a s + c * B a (s + 1)) (eH : H = T a s + c * T a (s + 1)) (ex : x = sg s * (h * B a (s + 1) - w * T a (s + 1))) (ey : y = sg s * (H * w - W * h)) :
    w = x * W + y * B a (s + 1) ∧ h = x * H + y * T a (s + 1) ∧ ee a n s w h = x * ee a n s W H - y * rr a n (s + 1) := by
  have d := det a s
  have q := sg_sq s
  have d2 : H * B a (s + 1) - T a (s + 1) * W = sg s := by
    rw [eW, eH, ← d]
    grind
  have k1 : w = x * W + y * B a (s + 1) := by
    have z : x * W + y * B a (s + 1) = sg s * (w * (H * B a (s + 1) - T a (s + 1) * W)) := by
      rw [ex, ey]
      grind
    rw [z, d2]
    grind
  have k2 : h = x * H + y * T a (s + 1) := by
    have z : x * H + y * T a (s + 1) = sg s * (h * (H * B a (s + 1) - T a (s + 1) * W)) := by
      rw [ex, ey]
      grind
    rw [z, d2]
    grind
  refine ⟨k1, k2, ?_⟩
  have e1 : rr a n (s + 1) = sg s * (B a (s + 1) * T a n - T a (s + 1) * B a n) := by
    unfold rr
    show - (- sg s) * _ = _
    rw [Int.neg_neg]
  have e2 : ee a n s w h = - sg s * ((x * W + y * B a (s + 1)) * T a n - (x * H + y * T a (s + 1)) * B a n) := by
    unfold ee
    rw [← k1, ← k2]
  rw [e2, e1]
  unfold ee
  grind
/-- the point of the side is the nearest one, and no other one is as near -/
theorem nearest {a : Nat → Int} (ok : Ok a) {n s e : Nat} {bound : Int} (hs : Side a bound e s) (h1 : 1 ≤ bound) (hn : s + 2 ≤ n) :
    1 ≤ ee a n s (wid a bound s) (hgt a bound s) ∧ ∀ w h : Int, 1 ≤ w → w ≤ bound → 0 ≤ ee a n s w h → ee a n s (wid a bound s) (hgt a bound s) ≤ ee a n s w h ∧ (ee a n s w h = ee a n s (wid a bound s) (hgt a bound s) → w = wid a bound s ∧ h = hgt a bound s) := by
  obtain ⟨c0, c1, c2, c3⟩ := cnt_bd ok hs
  have wp := wid_pos ok hs h1
  have r1 := (rr_pos ok n (n - (s + 1)) (s + 1) (by omega)).2 (by omega)
  have r2 := (rr_pos ok n (n - (s + 2)) (s + 2) (by omega)).1
  have eE : ee a n s (wid a bound s) (hgt a bound s) = rr a n s - cnt a bound s * rr a n (s + 1) := ee_rr a n s _
  have lo : 1 ≤ ee a n s (wid a bound s) (hgt a bound s) := by
    rw [eE, rr_two]
    have m := Int.mul_le_mul_of_nonneg_right (show cnt a bound s + 1 ≤ a (s + 1) by omega) (show 0 ≤ rr a n (s + 1) by omega)
    rw [Int.add_mul, Int.one_mul] at m
    omega
  refine ⟨lo, fun w h hw hwb h0 => ?_⟩
  have bp := B_pos ok (i := s + 1) (by omega)
  obtain ⟨k1, k2, k3⟩ := mix a n s (cnt a bound s) w h (wid a bound s) (hgt a bound s) _ _ rfl rfl rfl rfl
  generalize sg s * (h * B a (s + 1) - w * T a (s + 1)) = x at k1 k2 k3
  generalize sg s * (hgt a bound s * w - wid a bound s * h) = y at k1 k2 k3
  generalize ee a n s (wid a bound s) (hgt a bound s) = E at lo k3 ⊢
  generalize ee a n s w h = F at h0 k3 ⊢
  generalize rr a n (s + 1) = r at r1 k3
  generalize eb : B a (s + 1) = b at bp c2 k1
  generalize wid a bound s = W at *
  have hx : 1 ≤ x := by
    refine Int.not_lt.mp fun z => ?_
    have z0 : x ≤ 0 := by omega
    have m1 := Int.mul_nonneg (show 0 ≤ -x by omega) (show 0 ≤ E by omega)
    have m2 := Int.mul_nonneg (show 0 ≤ -x by omega) (show 0 ≤ W by omega)
    rw [Int.neg_mul] at m1 m2
    have hy : y ≤ 0 := by
      refine Int.not_lt.mp fun q => ?_
      have m3 := Int.mul_le_mul (show (1 : Int) ≤ y by omega) r1 (by omega) (by omega)
      omega
    have m4 := Int.mul_nonneg (show 0 ≤ -y by omega) (show 0 ≤ b by omega)
    rw [Int.neg_mul] at m4
    omega
  have hy : y ≤ 0 := by
    refine Int.not_lt.mp fun q => ?_
    have m1 := Int.mul_le_mul_of_nonneg_right hx (show 0 ≤ W by omega)
    have m2 := Int.mul_le_mul_of_nonneg_right (show (1 : Int) ≤ y by omega) (show 0 ≤ b by omega)
    omega
  have m1 := Int.mul_le_mul_of_nonneg_right hx (show 0 ≤ E by omega)
  have m2 := Int.mul_nonneg (show 0 ≤ -y by omega) (show 0 ≤ r by omega)
  rw [Int.neg_mul] at m2
  refine ⟨by omega, fun q => ?_⟩
  have x1 : x = 1 := by
    refine Int.le_antisymm (Int.not_lt.mp fun z => ?_) hx
    have m3 := Int.mul_le_mul_of_nonneg_right (show (2 : Int) ≤ x by omega) (show 0 ≤ E by omega)
    omega
  have y0 : y = 0 := by
    refine Int.le_antisymm hy (Int.not_lt.mp fun z => ?_)
    have m3 := Int.mul_le_mul (show (1 : Int) ≤ -y by omega) r1 (by omega) (by omega)
    rw [Int.neg_mul] at m3
    rw [x1] at k3
    omega
  rw [x1, y0] at k1 k2
  omega

/-! ### all tried -/
/-- the height that is tried at a width; below: whole part, above: one more -/
def hi (P Q : Int) (up : Int) (w : Int) : Int := w * P / Q + up
def dd (P Q : Int) (up : Int) (w : Int) : Int := if hi P Q up w * Q + (0 - w) * P < 0 then -(hi P Q up w * Q + (0 - w) * P) else hi P Q up w * Q + (0 - w) * P
theorem hi_bd {P Q : Int} (hQ : 0 < Q) (w : Int) : 0 ≤ w * P - (w * P / Q) * Q ∧ w * P - (w * P / Q) * Q < Q := by
  have d := Int.mul_ediv_add_emod (w * P) Q
  have m0 := Int.emod_nonneg (w * P) (show Q ≠ 0 by omega)
  have m1 := Int.emod_lt_of_pos (w * P) hQ
  have e : w * P / Q * Q = Q * (w * P / Q) := Int.mul_comm _ _
  omega
theorem dd_below {P Q : Int} (hQ : 0 < Q) (w : Int) : dd P Q 0 w = w * P - hi P Q 0 w * Q := by
  have h := hi_bd (P := P) hQ w
  have e : hi P Q 0 w = w * P / Q := Int.add_zero _
  have e2 : (0 - w) * P = - (w * P) := by
    rw [Int.zero_sub, Int.neg_mul]
  unfold dd
  rw [e, e2]
  split <;> omega
theorem dd_above {P Q : Int} (hQ : 0 < Q) (w : Int) : dd P Q 1 w = hi P Q 1 w * Q - w * P ∧ 0 < dd P Q 1 w ∧ dd P Q 1 w ≤ Q := by
  have h := hi_bd (P := P) hQ w
  have e : hi P Q 1 w = w * P / Q + 1 := rfl
  have e2 : (0 - w) * P = - (w * P) := by
    rw [Int.zero_sub, Int.neg_mul]
  have e3 : (w * P / Q + 1) * Q = w * P / Q * Q + Q := by rw [Int.add_mul, Int.one_mul]
  unfold dd
  rw [e, e2, e3]
  split <;> omega
/-- two widths are unlike in their distance -/
theorem dd_ne {a : Nat → Int} (ok : Ok a) {n : Nat} (hn : 1 ≤ n) {up : Int} (hu : up = 0 ∨ up = 1) {w w' : Int} (hne : w ≠ w') (h1 : w - w' < B a n) (h2 : w' - w < B a n) : dd (T a n) (B a n) up w ≠ dd (T a n) (B a n) up w' := by
  intro he
  have bp := B_pos ok hn
  have key : ∃ z : Int, (w - w') * T a n = z * B a n := by
    rcases hu with rfl | rfl
    · rw [dd_below (by omega), dd_below (by omega)] at he
      exact ⟨hi (T a n) (B a n) 0 w - hi (T a n) (B a n) 0 w', by grind⟩
    · rw [(dd_above (by omega) w).1, (dd_above (by omega) w').1] at he
      exact ⟨hi (T a n) (B a n) 1 w - hi (T a n) (B a n) 1 w', by grind⟩
  obtain ⟨z, hz⟩ := key
  have d := det a n
  have q := sg_sq n
  have e : w - w' = B a n * (sg n * (z * B a (n + 1) - (w - w') * T a (n + 1))) := by
    have e1 : w - w' = (w - w') * (sg n * sg n) := by rw [q, Int.mul_one]
    have e2 : (w - w') * (sg n * sg n) = sg n * ((w - w') * T a n * B a (n + 1) - (w - w') * (T a (n + 1) * B a n)) := by
      rw [show (w - w') * (sg n * sg n) = sg n * ((w - w') * sg n) by grind, ← d]
      grind
    rw [e1, e2, hz]
    grind
  generalize sg n * (z * B a (n + 1) - (w - w') * T a (n + 1)) = k at e
  generalize B a n = b at *
  have hk : k = 0 := by
    refine Int.le_antisymm (Int.not_lt.mp fun z => ?_) (Int.not_lt.mp fun z => ?_)
    · have m := Int.mul_le_mul_of_nonneg_left (show (1 : Int) ≤ k by omega) (show 0 ≤ b by omega)
      omega
    · have m := Int.mul_le_mul_of_nonneg_left (show (1 : Int) ≤ -k by omega) (show 0 ≤ b by omega)
      rw [Int.mul_neg] at m
      omega
  subst hk
  rw [Int.mul_zero] at e
  omega
/-- the side's point is the one that is found by trying all -/
theorem tried {a : Nat → Int} (ok : Ok a) {n s : Nat} {bound up : Int} (hs : Side a bound (if up = 0 then 1 else 0) s) (hu : up = 0 ∨ up = 1) (h1 : 1 ≤ bound) (hn : s + 2 ≤ n) :
    hi (T a n) (B a n) up (wid a bound s) = hgt a bound s ∧ ∀ w, 1 ≤ w → w ≤ bound → w ≠ wid a bound s → dd (T a n) (B a n) up (wid a bound s) < dd (T a n) (B a n) up w := by
  obtain ⟨lo, near⟩ := nearest ok hs h1 hn
  have bp := B_pos ok (i := n) (by omega)
  have wb := (cnt_bd ok hs).2.1
  have wp := wid_pos ok hs h1
  rcases hu with rfl | rfl
  · have sv : sg s = -1 := (sg_val s).2 (by
      have := hs.1
      simpa using this)
    have ev : ∀ w h, ee a n s w h = w * T a n - h * B a n := fun w h => by
      unfold ee
      rw [sv]
      omega
    have b1 := hi_bd (P := T a n) (show 0 < B a n by omega) (wid a bound s)
    have eh : hi (T a n) (B a n) 0 (wid a bound s) = hgt a bound s := by
      have q := near (wid a bound s) (wid a bound s * T a n / B a n) wp wb (by
        rw [ev]
        omega)
      rw [ev, ev] at q
      unfold hi
      rw [Int.add_zero]
      have e1 : ee a n s (wid a bound s) (hgt a bound s) = wid a bound s * T a n - hgt a bound s * B a n := ev _ _
      rw [e1] at lo
      generalize wid a bound s * T a n / B a n = x at *
      generalize hgt a bound s = y at *
      generalize wid a bound s * T a n = z at *
      generalize B a n = b at *
      refine Int.le_antisymm (Int.not_lt.mp fun c => ?_) (Int.not_lt.mp fun c => ?_)
      · have m := Int.mul_le_mul_of_nonneg_right (show y + 1 ≤ x by omega) (show 0 ≤ b by omega)
        rw [Int.add_mul, Int.one_mul] at m
        omega
      · have m := Int.mul_le_mul_of_nonneg_right (show x + 1 ≤ y by omega) (show 0 ≤ b by omega)
        rw [Int.add_mul, Int.one_mul] at m
        omega
    refine ⟨eh, fun w w1 w2 wn => ?_⟩
    have b2 := hi_bd (P := T a n) (show 0 < B a n by omega) w
    have e0 : hi (T a n) (B a n) 0 w = w * T a n / B a n := Int.add_zero _
    have q := near w (hi (T a n) (B a n) 0 w) w1 w2 (by
      rw [ev, e0]
      omega)
    rw [dd_below (by omega), dd_below (by omega), eh]
    rw [ev, ev] at q
    refine Int.lt_iff_le_and_ne.mpr ⟨q.1, fun c => wn (q.2 c.symm).1⟩
  · have sv : sg s = 1 := (sg_val s).1 (by
      have := hs.1
      simpa using this)
    have ev : ∀ w h, ee a n s w h = h * B a n - w * T a n := fun w h => by
      unfold ee
      rw [sv]
      omega
    have b1 := hi_bd (P := T a n) (show 0 < B a n by omega) (wid a bound s)
    have b1' := dd_above (P := T a n) (show 0 < B a n by omega) (wid a bound s)
    have eh : hi (T a n) (B a n) 1 (wid a bound s) = hgt a bound s := by
      have q := near (wid a bound s) (wid a bound s * T a n / B a n + 1) wp wb (by
        rw [ev, Int.add_mul, Int.one_mul]
        omega)
      rw [ev, ev, Int.add_mul, Int.one_mul] at q
      show wid a bound s * T a n / B a n + 1 = hgt a bound s
      have e1 : ee a n s (wid a bound s) (hgt a bound s) = hgt a bound s * B a n - wid a bound s * T a n := ev _ _
      rw [e1] at lo
      generalize wid a bound s * T a n / B a n = x at *
      generalize hgt a bound s = y at *
      generalize wid a bound s * T a n = z at *
      generalize B a n = b at *
      refine Int.le_antisymm (Int.not_lt.mp fun c => ?_) (Int.not_lt.mp fun c => ?_)
      · have m := Int.mul_le_mul_of_nonneg_right (show y ≤ x by omega) (show 0 ≤ b by omega)
        omega
      · have m := Int.mul_le_mul_of_nonneg_right (show x + 2 ≤ y by omega) (show 0 ≤ b by omega)
        rw [Int.add_mul] at m
        omega
    refine ⟨eh, fun w w1 w2 wn => ?_⟩
    have b2 := dd_above (P := T a n) (show 0 < B a n by omega) w
    have q := near w (hi (T a n) (B a n) 1 w) w1 w2 (by
      rw [ev]
      omega)
    rw [b2.1, b1'.1, eh]
    rw [ev, ev] at q
    refine Int.lt_iff_le_and_ne.mpr ⟨q.1, fun c => wn (q.2 c.symm).1⟩
end K48
set_option Elab.async false
set_option linter.all false
set_option maxRecDepth 100000
set_option maxHeartbeats 0
namespace K48
open PySem PySem.Spec PyProof.Rows L2
def top (i : Nat) : Stmt := PySem.Challenge.pw_slopeworld_k48_whole_nearest_points_besi.main.body.getD i (.Pass ⟨0, 0, 0, 0⟩)
abbrev st_is_integer : Stmt := top 12
abbrev st_is_between : Stmt := top 13
abbrev st_check_lead : Stmt := top 22
abbrev st_check_loop : Stmt := top 23
abbrev st_shortest_loop : Stmt := top 24
abbrev st_shortest : Stmt := top 25
abbrev st_listed : Stmt := top 26
abbrev st_check_slope : Stmt := top 29
abbrev st_part_at : Stmt := top 31
abbrev st_neighbours_for : Stmt := top 32
abbrev st_neighbours_to : Stmt := top 33
abbrev st_neighbours_past : Stmt := top 34
abbrev st_is_point : Stmt := top 36
abbrev st_check_point : Stmt := top 37
abbrev st_multiple_at : Stmt := top 38
abbrev st_whole_at : Stmt := top 39
abbrev st_sign_at : Stmt := top 40
abbrev st_check_bound : Stmt := top 42
abbrev st_side_of : Stmt := top 43
abbrev st_below_to : Stmt := top 44
abbrev st_above_to : Stmt := top 45
abbrev st_nearer : Stmt := top 46
abbrev st_best_to : Stmt := top 47
abbrev st_records_to : Stmt := top 48
abbrev st_greatest_below : Stmt := top 49
abbrev st_least_above : Stmt := top 50
abbrev st_best : Stmt := top 51
abbrev st_records : Stmt := top 52
abbrev st_check_side : Stmt := top 55
abbrev st_corners : Stmt := top 56
abbrev st_nearest_point : Stmt := top 57
abbrev st_is_corner : Stmt := top 58
abbrev st_law_purse : Stmt := top 60
abbrev st_law_take : Stmt := top 61
abbrev st_law_one : Stmt := top 62
abbrev st_law_parts : Stmt := top 63
abbrev st_law_rows : Stmt := top 64
abbrev st_law_far : Stmt := top 65
abbrev st_law_size : Stmt := top 66
abbrev st_law_whole : Stmt := top 67
abbrev st_law_tried : Stmt := top 68
abbrev st_law_bound_right : Stmt := top 69
abbrev st_law_right : Stmt := top 70
abbrev st_law : Stmt := top 71
abbrev st_init : Stmt := inClass (top 28) 0
def d_is_integer : He.DefD := ⟨("is_integer", none), "is_integer", "is_integer", defArgs st_is_integer, defBody st_is_integer, defScope st_is_integer, [], []⟩
def d_is_between : He.DefD := ⟨("is_between", none), "is_between", "is_between", defArgs st_is_between, defBody st_is_between, defScope st_is_between, [], []⟩
def d_check_lead : He.DefD := ⟨("check_lead", none), "check_lead", "check_lead", defArgs st_check_lead, defBody st_check_lead, defScope st_check_lead, [], []⟩
def d_check_loop : He.DefD := ⟨("check_loop", none), "check_loop", "check_loop", defArgs st_check_loop, defBody st_check_loop, defScope st_check_loop, [], []⟩
def d_shortest_loop : He.DefD := ⟨("shortest_loop", none), "shortest_loop", "shortest_loop", defArgs st_shortest_loop, defBody st_shortest_loop, defScope st_shortest_loop, [], []⟩
def d_shortest : He.DefD := ⟨("shortest", none), "shortest", "shortest", defArgs st_shortest, defBody st_shortest, defScope st_shortest, [], []⟩
def d_listed : He.DefD := ⟨("listed", none), "listed", "listed", defArgs st_listed, defBody st_listed, defScope st_listed, [], []⟩
def d_check_slope : He.DefD := ⟨("check_slope", none), "check_slope", "check_slope", defArgs st_check_slope, defBody st_check_slope, defScope st_check_slope, [], []⟩
def d_part_at : He.DefD := ⟨("part_at", none), "part_at", "part_at", defArgs st_part_at, defBody st_part_at, defScope st_part_at, [], []⟩
def d_neighbours_for : He.DefD := ⟨("neighbours_for", none), "neighbours_for", "neighbours_for", defArgs st_neighbours_for, defBody st_neighbours_for, defScope st_neighbours_for, [], []⟩
def d_neighbours_to : He.DefD := ⟨("neighbours_to", none), "neighbours_to", "neighbours_to", defArgs st_neighbours_to, defBody st_neighbours_to, defScope st_neighbours_to, [], []⟩
def d_neighbours_past : He.DefD := ⟨("neighbours_past", none), "neighbours_past", "neighbours_past", defArgs st_neighbours_past, defBody st_neighbours_past, defScope st_neighbours_past, [], []⟩
def d_is_point : He.DefD := ⟨("is_point", none), "is_point", "is_point", defArgs st_is_point, defBody st_is_point, defScope st_is_point, [], []⟩
def d_check_point : He.DefD := ⟨("check_point", none), "check_point", "check_point", defArgs st_check_point, defBody st_check_point, defScope st_check_point, [], []⟩
def d_multiple_at : He.DefD := ⟨("multiple_at", none), "multiple_at", "multiple_at", defArgs st_multiple_at, defBody st_multiple_at, defScope st_multiple_at, [], []⟩
def d_whole_at : He.DefD := ⟨("whole_at", none), "whole_at", "whole_at", defArgs st_whole_at, defBody st_whole_at, defScope st_whole_at, [], []⟩
def d_sign_at : He.DefD := ⟨("sign_at", none), "sign_at", "sign_at", defArgs st_sign_at, defBody st_sign_at, defScope st_sign_at, [], []⟩
def d_check_bound : He.DefD := ⟨("check_bound", none), "check_bound", "check_bound", defArgs st_check_bound, defBody st_check_bound, defScope st_check_bound, [], []⟩
def d_side_of : He.DefD := ⟨("side_of", none), "side_of", "side_of", defArgs st_side_of, defBody st_side_of, defScope st_side_of, [], []⟩
def d_below_to : He.DefD := ⟨("below_to", none), "below_to", "below_to", defArgs st_below_to, defBody st_below_to, defScope st_below_to, [], []⟩
def d_above_to : He.DefD := ⟨("above_to", none), "above_to", "above_to", defArgs st_above_to, defBody st_above_to, defScope st_above_to, [], []⟩
def d_nearer : He.DefD := ⟨("nearer", none), "nearer", "nearer", defArgs st_nearer, defBody st_nearer, defScope st_nearer, [], []⟩
def d_best_to : He.DefD := ⟨("best_to", none), "best_to", "best_to", defArgs st_best_to, defBody st_best_to, defScope st_best_to, [], []⟩
def d_records_to : He.DefD := ⟨("records_to", none), "records_to", "records_to", defArgs st_records_to, defBody st_records_to, defScope st_records_to, [], []⟩
def d_greatest_below : He.DefD := ⟨("greatest_below", none), "greatest_below", "greatest_below", defArgs st_greatest_below, defBody st_greatest_below, defScope st_greatest_below, [], []⟩
def d_least_above : He.DefD := ⟨("least_above", none), "least_above", "least_above", defArgs st_least_above, defBody st_least_above, defScope st_least_above, [], []⟩
def d_best : He.DefD := ⟨("best", none), "best", "best", defArgs st_best, defBody st_best, defScope st_best, [], []⟩
def d_records : He.DefD := ⟨("records", none), "records", "records", defArgs st_records, defBody st_records, defScope st_records, [], []⟩
def d_check_side : He.DefD := ⟨("check_side", none), "check_side", "check_side", defArgs st_check_side, defBody st_check_side, defScope st_check_side, [], []⟩
def d_corners : He.DefD := ⟨("corners", none), "corners", "corners", defArgs st_corners, defBody st_corners, defScope st_corners, [], []⟩
def d_nearest_point : He.DefD := ⟨("nearest_point", none), "nearest_point", "nearest_point", defArgs st_nearest_point, defBody st_nearest_point, defScope st_nearest_point, [], []⟩
def d_is_corner : He.DefD := ⟨("is_corner", none), "is_corner", "is_corner", defArgs st_is_corner, defBody st_is_corner, defScope st_is_corner, [], []⟩
def d_law_purse : He.DefD := ⟨("_law_purse", none), "_law_purse", "_law_purse", defArgs st_law_purse, defBody st_law_purse, defScope st_law_purse, [], []⟩
def d_law_take : He.DefD := ⟨("_law_take", none), "_law_take", "_law_take", defArgs st_law_take, defBody st_law_take, defScope st_law_take, [], []⟩
def d_law_one : He.DefD := ⟨("_law_one", none), "_law_one", "_law_one", defArgs st_law_one, defBody st_law_one, defScope st_law_one, [], []⟩
def d_law_parts : He.DefD := ⟨("_law_parts", none), "_law_parts", "_law_parts", defArgs st_law_parts, defBody st_law_parts, defScope st_law_parts, [], []⟩
def d_law_rows : He.DefD := ⟨("_law_rows", none), "_law_rows", "_law_rows", defArgs st_law_rows, defBody st_law_rows, defScope st_law_rows, [], []⟩
def d_law_far : He.DefD := ⟨("_law_far", none), "_law_far", "_law_far", defArgs st_law_far, defBody st_law_far, defScope st_law_far, [], []⟩
def d_law_size : He.DefD := ⟨("_law_size", none), "_law_size", "_law_size", defArgs st_law_size, defBody st_law_size, defScope st_law_size, [], []⟩
def d_law_whole : He.DefD := ⟨("_law_whole", none), "_law_whole", "_law_whole", defArgs st_law_whole, defBody st_law_whole, defScope st_law_whole, [], []⟩
def d_law_tried : He.DefD := ⟨("_law_tried", none), "_law_tried", "_law_tried", defArgs st_law_tried, defBody st_law_tried, defScope st_law_tried, [], []⟩
def d_law_bound_right : He.DefD := ⟨("_law_bound_right", none), "_law_bound_right", "_law_bound_right", defArgs st_law_bound_right, defBody st_law_bound_right, defScope st_law_bound_right, [], []⟩
def d_law_right : He.DefD := ⟨("_law_right", none), "_law_right", "_law_right", defArgs st_law_right, defBody st_law_right, defScope st_law_right, [], []⟩
def d_law : He.DefD := ⟨("law", none), "law", "law", defArgs st_law, defBody st_law, defScope st_law, [], []⟩
def d_init : He.DefD := ⟨("Slope", some "__init__"), "__init__", "Slope.__init__", defArgs st_init, defBody st_init, defScope st_init, [], []⟩
def fn : List He.DefD := [d_is_integer, d_is_between, d_check_lead, d_check_loop, d_shortest_loop, d_shortest, d_listed, d_check_slope, d_part_at, d_neighbours_for, d_neighbours_to, d_neighbours_past, d_is_point, d_check_point, d_multiple_at, d_whole_at, d_sign_at, d_check_bound, d_side_of, d_below_to, d_above_to, d_nearer, d_best_to, d_records_to, d_greatest_below, d_least_above, d_best, d_records, d_check_side, d_corners, d_nearest_point, d_is_corner, d_law_purse, d_law_take, d_law_one, d_law_parts, d_law_rows, d_law_far, d_law_size, d_law_whole, d_law_tried, d_law_bound_right, d_law_right, d_law, d_init]
def fa : List He.Fa := [.glo "is_integer", .glo "is_between", .glo "check_lead", .glo "check_loop", .glo "shortest_loop", .glo "shortest", .glo "listed", .glo "check_slope", .glo "part_at", .glo "neighbours_for", .glo "neighbours_to", .glo "neighbours_past", .glo "is_point", .glo "check_point", .glo "multiple_at", .glo "whole_at", .glo "sign_at", .glo "check_bound", .glo "side_of", .glo "below_to", .glo "above_to", .glo "nearer", .glo "best_to", .glo "records_to", .glo "greatest_below", .glo "least_above", .glo "best", .glo "records", .glo "check_side", .glo "corners", .glo "nearest_point", .glo "is_corner", .glo "_law_purse", .glo "_law_take", .glo "_law_one", .glo "_law_parts", .glo "_law_rows", .glo "_law_far", .glo "_law_size", .glo "_law_whole", .glo "_law_tried", .glo "_law_bound_right", .glo "_law_right", .glo "law", .glo "Slope", .free "isinstance", .free "int", .free "bool", .free "enumerate", .free "len", .free "range", .free "str", .free "tuple", .free "all", .free "sorted", .free "set", .free "divmod", .free "abs", .free "min", .free "max", .int "MOST_PART" 20, .int "MOST_LEAD" 8, .int "MOST_LOOP" 12, .int "MOST_NUMBER" 1000000000000000000000000000000, .int "MOST_CORNERS" 30, .cls "Slope", .noat "Slope" "held", .noat "Slope" "words", .mkr "Slope"]
def loose0 : List PySem.Str := [("_wall" : PySem.Str), ("WrongValue" : PySem.Str), ("InvalidText" : PySem.Str), ("InvalidNumber" : PySem.Str), ("InvalidPoint" : PySem.Str), ("InvalidSide" : PySem.Str), ("NotASlope" : PySem.Str), ("InvalidLead" : PySem.Str), ("InvalidLoop" : PySem.Str), ("DIGITS" : PySem.Str), ("is_integer" : PySem.Str), ("is_between" : PySem.Str), ("number_in" : PySem.Str), ("integer_in" : PySem.Str), ("MOST_PART" : PySem.Str), ("MOST_LEAD" : PySem.Str)]
def loose1 : List PySem.Str := [("MOST_LOOP" : PySem.Str), ("MOST_NUMBER" : PySem.Str), ("MOST_PARTS" : PySem.Str), ("check_lead" : PySem.Str), ("check_loop" : PySem.Str), ("shortest_loop" : PySem.Str), ("shortest" : PySem.Str), ("listed" : PySem.Str), ("numbers_in" : PySem.Str), ("Slope" : PySem.Str), ("check_slope" : PySem.Str), ("check_many" : PySem.Str), ("part_at" : PySem.Str), ("neighbours_for" : PySem.Str), ("neighbours_to" : PySem.Str), ("neighbours_past" : PySem.Str)]
def loose2 : List PySem.Str := [("is_point" : PySem.Str), ("check_point" : PySem.Str), ("multiple_at" : PySem.Str), ("whole_at" : PySem.Str), ("sign_at" : PySem.Str), ("check_bound" : PySem.Str), ("side_of" : PySem.Str), ("below_to" : PySem.Str), ("above_to" : PySem.Str), ("nearer" : PySem.Str), ("best_to" : PySem.Str), ("records_to" : PySem.Str), ("greatest_below" : PySem.Str), ("least_above" : PySem.Str), ("best" : PySem.Str), ("records" : PySem.Str)]
def loose3 : List PySem.Str := [("MOST_CORNERS" : PySem.Str), ("check_side" : PySem.Str), ("corners" : PySem.Str), ("nearest_point" : PySem.Str), ("is_corner" : PySem.Str), ("_law_purse" : PySem.Str), ("_law_take" : PySem.Str), ("_law_one" : PySem.Str), ("_law_parts" : PySem.Str), ("_law_rows" : PySem.Str), ("_law_far" : PySem.Str), ("_law_size" : PySem.Str), ("_law_whole" : PySem.Str), ("_law_tried" : PySem.Str), ("_law_bound_right" : PySem.Str), ("_law_right" : PySem.Str)]
def loose : List PySem.Str := loose0 ++ (loose1 ++ (loose2 ++ (loose3)))

def insB (K : PySem.W.Frag) (C : Addr) : Bool := He.eqO (PySem.W.findIn K (.ref C) "__class__") (some (some (.builtin "object.__class__"))) && (He.eqO (PySem.W.specialIn K (.builtin "object.__class__") "__get__") (some (some (.builtin "getset_descriptor.__get__"))) &&
  (decide (PySem.W.takesIn K (.builtin "object.__class__") = some true) && (decide (PySem.W.mroIn K C (.type "object") = some true) && decide (PySem.W.kitOne K (.ref C) (.ref C) = some true))))
abbrev Al : Type := Bool × He.AlD
def obsM (g : Addr → Option Obj) : Al := (insB (He.frG g (He.asD g 4)) (He.ga (He.frG g (He.asD g 4)) "Slope"), He.obsD fa fn (He.frG g (He.asD g 4)))
def hk : PySem.W.Hook where
  α := Al
  obs := fun s => obsM s.heap.get?
  val := fun _ => (true, He.valD fn)
  says := fun _ h => ∃ K : PySem.W.Frag, K.In h ∧ insB K (He.ga K "Slope") = true ∧ He.SaysD fa fn K
  of := fun _ _ e => ⟨_, He.frG_in, congrArg (fun z : Al => z.1) e, congrArg (fun z : Al => z.2) e⟩
  keeps := fun _ _ _ ⟨K, hK, c⟩ k => ⟨K, PySem.W.Frag.In.keeps hK k, c⟩
abbrev R : PySem.W.OpenRow := PySem.W.OpenLaw.row PySem.Challenge.rw_slopeworld_k48_whole_nearest_points_besi
def ob (s : PySem.W.SharedT) : Al := obsM (HandSHeadRun.getT s)
theorem ob_eq (s : PySem.W.SharedT) : ob s = hk.obs s.abs := by
  have e : HandSHeadRun.getT s = s.abs.heap.get? := funext (HandSHeadRun.getT_eq s)
  show obsM (HandSHeadRun.getT s) = obsM s.abs.heap.get?
  rw [e]
set_option maxHeartbeats 0 in
theorem run (w : World) : HandSHeadRun.RunEq R (PySem.W.view R.prog [71]) hk ob 6000 loose w := by
  intro os
  kernel_rfl
end K48
set_option Elab.async false
set_option linter.all false
set_option maxRecDepth 100000
set_option maxHeartbeats 4000000
/-! Rules of my own over the layer: a call by keywords alone, a list's slice with a step. -/
namespace K48
open PySem PySem.Spec PyProof.Rows L2

/-! ### f(k = v, ..) with no positional value -/
theorem pe_callK0 {X : Cx} {CX : CXT} {k : Nat} {f : Addr} {fd : FuncData} {ps ks : List Str} {sp : Sp} {E : XK} {x : Str} {p pos : Pos} {kws : List Keyword} {tk : TA} {g : List Value → List Value → List Value} {gV : List V → List V → List V}
    (F : FnOk X.prog X.w X.K X.mg X.base CX k f fd ps sp) (hr : Room k X.A) (hg : Gl X x) (hm : X.mg x = some (.ref f)) (hk : PySem.W.keepIn X.K (.ref f) = true) (hb : KBinds X.K fd ps ks g gV) (hx : Passes CX X E) (hkw : PK X kws tk)
    (hall : (backToKw pos (keywordEach kws X.env)).all (·.1.isSome) = true := by rfl) (hks : (backToKw pos (keywordEach kws X.env)).filterMap (·.1) = ks := by rfl) (hdb : (x == ("__debug__" : Str)) = false := by decide)
    (hpl : ((backTo pos (starEach [] X.env)).any (·.1) || (backToKw pos (keywordEach kws X.env)).any (·.1.isNone)) = false := by rfl) :
    PE X (.Call (.Name x p) [] kws pos) (tCallK sp gV E tNil tk) := by
  refine ⟨fun pins s σ H Q I h => wpAny_Call_Name_kw (ld_glob I hg hm ?_ hdb)⟩
  refine PySem.W.callWith_KW0 (h₀ := X.base) I.ok.mod.kin hk hall (thn (hkw.run pos pins s σ H _ I h) fun ws s2 ⟨zs, H2, I2, rz, q2⟩ => ⟨I2.kIn, ?_⟩) hpl
  rw [hks]
  exact run_fnk (us := []) (vs := []) F hr hb hx I2 .nil rz q2

/-! ### xs[lo::st] -/
/-- the places that a slice with a step takes, in a list of n items -/
def pickIx (n : Nat) (lo hi st : Option Int) : List Nat := sliceRange (sliceBounds lo hi st n).1 (sliceBounds lo hi st n).2.1 (sliceBounds lo hi st n).2.2
def pickV {α : Type} (xs : List α) (is : List Nat) : List α := is.filterMap (xs[·]?)
theorem pick_vals {xs : List V} {us : List Value} (r : Vals xs us) : ∀ is : List Nat, Vals (pickV xs is) (is.filterMap (us.toArray[·]?))
  | [] => .nil
  | i :: is => by
    unfold pickV
    have ih := pick_vals r is
    cases e : xs[i]? with
    | none =>
      have e2 := r.none_of e
      rw [List.filterMap_cons, List.filterMap_cons, e, List.getElem?_toArray, e2]
      exact ih
    | some x =>
      obtain ⟨u, e2, q⟩ := r.get e
      rw [List.filterMap_cons, List.filterMap_cons, e, List.getElem?_toArray, e2]
      exact .cons q ih
def tSliceSt (K : PySem.W.Frag) (te : TE) (lo st : Int) : TE := fun σ H Q => te σ H fun x H1 => ∃ (a : Addr) (xs : List V), x = .ref a ∧ SqL K H1 a xs ∧ ∀ p, H1 p = none → Q (.ref p) (upd H1 p (.lst (pickV xs (pickIx xs.length (some lo) none (some st)))))
theorem pe_sliceSt {X : Cx} {e : Expr} {te : TE} {lo st : Int} {j1 j2 : Nat} {p1 p2 p3 pos : Pos} (he : PE X e te) (h0 : st ≠ 0) :
    PE X (.Subscript e (.Slice (some (.Constant (.int lo) j1 p1)) none (some (.Constant (.int st) j2 p2)) p3) pos) (tSliceSt X.K te lo st) := by
  refine ⟨fun pins s σ H Q I h => Subscript_ (thn (he.run pins s σ H _ I h) fun v s1 ⟨x, H1, I1, r1, a, xs, ex, hx, q⟩ => ?_)⟩
  subst ex
  cases r1
  have hlo : PO X (some (.Constant (.int lo) j1 p1)) (tPart (tC (.int lo))) := po_some pe_int
  have hst : PO X (some (.Constant (.int st) j2 p2)) (tPart (tC (.int st))) := po_some pe_int
  refine wpAny_Slice (thn (hlo.run pins s1 σ H1 (fun o G => o = some lo ∧ G = H1) I1 ⟨lo, rfl, rfl, rfl⟩) fun v1 s2 ⟨o1, G1, J1, q1, z1, y1⟩ => ?_)
  subst z1 y1
  refine thn (po_none.run pins s2 σ G1 (fun o G => o = none ∧ G = G1) J1 ⟨rfl, rfl⟩) fun v2 s3 ⟨o2, G2, J2, q2, z2, y2⟩ => ?_
  subst z2 y2
  refine thn (hst.run pins s3 σ G2 (fun o G => o = some st ∧ G = G2) J2 ⟨st, rfl, rfl, rfl⟩) fun v3 s4 ⟨o3, G3, J3, q3, z3, y3⟩ => ?_
  subst z3 y3
  have J4 : Inv X pins σ G3 { s4 with heap := s4.heap.push { cls := .type "slice", data := .fields #[v1, v2, v3] } } := J3.kept (t' := s4.toks) fun b ob q => Heap.get?_push_of_some _ q
  obtain ⟨us, r, ht, hz⟩ := J4.list hx
  have hn := r.length
  show wpAny (model X.prog X.w) X.A (subscriptTail e (.Slice (some (.Constant (.int lo) j1 p1)) none (some (.Constant (.int st) j2 p2)) p3) (.ref a) (.ref s4.heap.objs.size)) (EP X pins σ Q) X.xe { s4 with heap := s4.heap.push { cls := .type "slice", data := .fields #[v1, v2, v3] } }
  refine tail_any (ops := [.ref a, .ref s4.heap.objs.size]) ht.isList.typeIs (PySem.slot_list_getitem.lookup) ?_ (by with_unfolding_all rfl)
  refine wpAny_getItem_list_slice ht.isList (Heap.IsSliceOf.new _ v1 v2 v3) q1 q2 q3 (by simpa using h0) ?_ (by rw [List.size_toArray]; omega)
  have hw : Vals (pickV xs (pickIx xs.length (some lo) none (some st))) (slicePick us.toArray (some lo) none (some st)).toList := by
    have w := pick_vals r (pickIx xs.length (some lo) none (some st))
    unfold slicePick
    rw [List.size_toArray, ← hn]
    exact w
  refine ⟨.ref _, _, J4.laid (t' := s4.toks) (o := .lst (pickV xs (pickIx xs.length (some lo) none (some st)))) (fun b ob q => Heap.get?_push_of_some _ q) (Nat.le_refl _) ?_, rfl, q _ (J4.hok.fresh (Nat.le_refl _))⟩
  refine ⟨?_, (slicePick us.toArray (some lo) none (some st)).toList, 0, hw, Heap.get?_push_size _ rfl⟩
  have b1 := slicePick_size_le us.toArray (some lo) none (some st)
  have b2 : (pickV xs (pickIx xs.length (some lo) none (some st))).length = (slicePick us.toArray (some lo) none (some st)).size := hw.length.trans (Array.length_toList ..)
  have b3 : us.toArray.size = us.length := List.size_toArray ..
  omega
end K48
set_option Elab.async false
set_option linter.all false
set_option maxRecDepth 100000
set_option maxHeartbeats 4000000
/-! min of a list of tuples that begin with ints, no two of them alike. -/
namespace K48
open PySem PySem.Spec PyProof.Rows L2
section
open PySem.SeqAt
open PySem.AutoSeq1 (wpAny_loadPart')
open PySem.MeetsSeq PySem.MeetsSeq2 PySem.MeetsSeq3

theorem heads_lt (p1 p2 : Addr) (us1 us2 : Array Value) (m1 m2 : Nat) (e1 e2 : Option Addr) (o1 o2 : Array (Option Value)) (i j : Int) (t1 t2 : Tok) (r1 r2 : List Value) (hne : i ≠ j)
    (h1 : us1.toList = .int i t1 :: r1) (h2 : us2.toList = .int j t2 :: r2) :
    Meets (Builtin.«tuple.__lt__» ⟨[.ref p1, .ref p2], []⟩)
      (fun _ R s => s.heap.get? p1 = some { cls := .type "tuple", dict := e1, data := .seq us1 m1, slots := o1 } ∧ s.heap.get? p2 = some { cls := .type "tuple", dict := e2, data := .seq us2 m2, slots := o2 } ∧
        R (.ok (.ret (.bool (decide (i < j))))) s) :=
  .of_wp fun prog w A R s h => by
    obtain ⟨hp, g, d, tk, os⟩ := s
    obtain ⟨g1, g2, h⟩ := h
    have hsub := AutoSeq1.sub_tuple_tuple
    wp_walk using wpAny_loadPart' g1, wpAny_loadPart' g2, wpAny_forIn_list _ (fun rest b s' => b.1 = none ∧ s' = ⟨hp, g, d, tk, os⟩ ∧ rest = us1.toList.zip us2.toList) _
    case turn =>
      rintro ⟨y, x⟩ rest b s' ⟨hb, rfl, hz⟩
      rw [h1, h2, List.zip_cons_cons] at hz
      injection hz with hyx _
      injection hyx with hy hx
      subst hy hx
      have he : SeqAt.EqAt A.in1 ⟨hp, g, d, tk, os⟩ (.int i t1) (.int j t2) (i == j) := SeqAt.EqAt.int_int i t1 j t2
      refine wpAny_bind (he prog w _ _ ?_)
      rw [beq_eq_false_iff_ne.mpr hne]
      have hri := HT.rcLt_int A.in1 ⟨hp, g, d, tk, os⟩ i t1 j t2 prog w
      wp_walk using hri
      exact ⟨_, rfl, h⟩
    case fin =>
      rintro ⟨b1, b2⟩ s' ⟨hb, rfl, hz⟩
      rw [h1, h2, List.zip_cons_cons] at hz
      cases hz
    case h => exact ⟨rfl, rfl, rfl⟩
end

section
variable {prog : Program} {w : World} {A : Around} {E : Value → Shared → Prop} {s : Shared}
theorem heads_rc {p1 p2 : Addr} {us1 us2 : Array Value} {i j : Int} {t1 t2 : Tok} {r1 r2 : List Value} {Q : Value → Shared → Prop} (g1 : IsTup s.heap p1 us1) (g2 : IsTup s.heap p2 us2) (h1 : us1.toList = .int i t1 :: r1) (h2 : us2.toList = .int j t2 :: r2) (hne : i ≠ j)
    (hu : A.units < cLine) (h : Q (.bool (decide (i < j))) s) : wpAny (model prog w) A (richCompare .Lt (.ref p1) (.ref p2)) Q E s := by
  obtain ⟨⟨c1, e1, d1, o1⟩, a1, b1, m1, f1⟩ := id g1
  obtain ⟨⟨c2, e2, d2, o2⟩, a2, b2, m2, f2⟩ := id g2
  simp only at b1 f1 b2 f2
  subst b1 f1 b2 f2
  exact richCompare_meets_room (op := .Lt) ⟨_, a1, rfl⟩ ⟨_, a2, rfl⟩ PySem.F.slot_tuple_lt PySem.F.entry_tuple_lt (PySem.F.args_tuple_lt_2 _ _) (heads_lt p1 p2 us1 us2 m1 m2 e1 e2 o1 o2 i j t1 t2 r1 r2 hne h1 h2)
    ⟨a1, a2, show Value.bool (decide (i < j)) ≠ Value.notImplemented ∧ Q (.bool (decide (i < j))) s from ⟨(fun x => nomatch x), h⟩⟩ hu
end
end K48
set_option Elab.async false
set_option linter.all false
set_option maxRecDepth 100000
set_option maxHeartbeats 4000000
/-! min of such a list: the loop, the call. -/
namespace K48
open PySem PySem.Spec PyProof.Rows L2
section
variable {prog : Program} {w : World} {A : Around} {E : Value → Shared → Prop} {s : Shared} {R : Result → Shared → Prop}
/-- all that stood in g stands -/
abbrev Stands (g h : Heap) : Prop := ∀ b o, g.get? b = some o → h.get? b = some o
theorem minh_loop {g : Heap} {l I S : Addr} {vs : List Value} (d : Nat → Int) (hh : A.handled = none) (hl : g.IsList l vs.toArray) (hlI : l ≠ I) (hSI : S ≠ I) (zI : g.get? I = none) (zS : g.get? S = none)
    (cmp : ∀ (i j : Nat) (vi vj : Value) (s : Shared) (Q E : Value → Shared → Prop), Stands g s.heap → vs[i]? = some vi → vs[j]? = some vj → i ≠ j → Q (.bool (decide (d i < d j))) s → wpAny (model prog w) A.in1 (richCompare .Lt vi vj) Q E s)
    (dist : ∀ i j : Nat, i < vs.length → j < vs.length → i ≠ j → d i ≠ d j) {jm : Nat} {vm : Value} (hm : vs[jm]? = some vm) (least : ∀ i, i < vs.length → i ≠ jm → d jm < d i)
    (hR : ∀ h' tk', Stands g h' → R (.ok (.ret vm)) { s with heap := h', toks := tk' }) :
    ∀ (r j i : Nat) (h : Heap) (tk : Nat) (vb : Value) (c : Nat), vs.length - (j + 1) = r → j + 1 ≤ vs.length → Stands g h → h.get? S = some (seqObj "list" #[vb, vb] c) → h.IsListIter I l (j + 1) → vs[i]? = some vb → i ≤ j → (∀ k, k ≤ j → k ≠ i → d i < d k) →
      codeAny (model prog w) A (.builtin "min.loop" ⟨[.ref I, .none, .ref S], []⟩) R { s with heap := h, toks := tk } := by
  have nm : (toString "min" ++ toString ".loop" : String) = "min.loop" := by decide
  have W := Walks.list (prog := prog) (w := w) (A := A.in1) hh I l hlI vs.toArray
  have size : vs.toArray.size = vs.length := List.size_toArray ..
  have nI : ∀ b o, g.get? b = some o → b ≠ I := fun b o e z => by rw [z, zI] at e; cases e
  have nS : ∀ b o, g.get? b = some o → b ≠ S := fun b o e z => by rw [z, zS] at e; cases e
  intro r
  induction r with
  | zero =>
    intro j i h tk vb c er hj st hS hit hvb hij hb
    have ej : j + 1 = vs.length := by omega
    refine codeAny_builtin PySem.F.entry_min_loop ?_
    rw [Around.under_plainId PySem.F.plain_min_loop _]
    show wpAny _ A.in1 (seqItems? (.ref S) >>= _) _ _ _
    refine wpAny_bind (wpAny_seqItems hS rfl ?_)
    show wpAny _ A.in1 (tryCatch (pyNext (.ref I)) _ >>= _) _ _ _
    refine wpAny_bind (wpAny_tryCatch (W.done _ _ _ ⟨by rw [size, ← ej]; exact hit, hl.at fun o e => st l o e⟩ fun h' tk' kk => ?_))
    have hS' : h'.get? S = some (seqObj "list" #[vb, vb] c) := kk S _ (by simpa using hSI) hS
    have sb := Heap.SameBut.update h' S (Obj.mapSeq fun _ => (#[] : Array Value))
    show wpAny _ A.in1 (updateSeq S (fun _ => #[]) >>= _) _ _ _
    refine wpAny_bind (wpAny_updateSeq hS' rfl (wpAny_bind (wpAny_letGo (wpAny_pure ?_))))
    have ei : i = jm := by
      by_cases z : i = jm
      · exact z
      · have q1 := least i (by omega) z
        obtain ⟨q2, _⟩ := List.getElem?_eq_some_iff.mp hm
        have q3 := hb jm (by omega) (fun e => z e.symm)
        omega
    subst ei
    have ev : vb = vm := Option.some.inj (hvb.symm.trans hm)
    subst ev
    exact hR _ _ fun b o e => (sb.2 b (nS b o e)).trans (kk b o (by simpa using nI b o e) (st b o e))
  | succ r ih =>
    intro j i h tk vb c er hj st hS hit hvb hij hb
    have lt : j + 1 < vs.length := by omega
    refine codeAny_builtin PySem.F.entry_min_loop ?_
    rw [Around.under_plainId PySem.F.plain_min_loop _]
    show wpAny _ A.in1 (seqItems? (.ref S) >>= _) _ _ _
    refine wpAny_bind (wpAny_seqItems hS rfl ?_)
    show wpAny _ A.in1 (tryCatch (pyNext (.ref I)) _ >>= _) _ _ _
    refine wpAny_bind (wpAny_tryCatch (W.item (j + 1) _ _ _ (by rw [size]; exact lt) ⟨hit, hl.at fun o e => st l o e⟩ fun v h' tk' hP hst' kk => ?_))
    have hv : vs[j + 1]? = some v := by simpa using hP
    have st1 : Stands g h' := fun b o e => kk b o (by simpa using nI b o e) (st b o e)
    have hS' : h'.get? S = some (seqObj "list" #[vb, vb] c) := kk S _ (by simpa using hSI) hS
    show wpAny _ A.in1 (tryCatch (holding [v, v] (richCompare .Lt v vb >>= _)) _ >>= _) _ _ _
    refine wpAny_bind (wpAny_tryCatch (wpAny_holding (wpAny_bind (cmp (j + 1) i v vb _ _ _ st1 hv hvb (by omega) ?_))))
    refine wpAny_bind (wpAny_holding (wpAny_truthy_bool (wpAny_bind (wpAny_letGo (wpAny_pure ?_)))))
    have ne := dist (j + 1) i lt (by omega) (by omega)
    by_cases q : d (j + 1) < d i
    · have sb := Heap.SameBut.update h' S (Obj.mapSeq fun _ => #[v, v])
      obtain ⟨c2, hc2⟩ : ∃ c2, (h'.update S (Obj.mapSeq fun _ => #[v, v])).get? S = some (seqObj "list" #[v, v] c2) := ⟨_, get?_update_seq hS' fun _ => #[v, v]⟩
      simp only [q, decide_true, if_true]
      refine wpAny_bind (wpAny_updateSeq hS' rfl (wpAny_bind (wpAny_letGo ?_)))
      rw [nm]
      refine wpAny_pure ⟨plainId_quiet PySem.F.plain_min_loop _, ih (j + 1) (j + 1) _ _ v c2 (by omega) lt (fun b o e => (sb.2 b (nS b o e)).trans (st1 b o e)) hc2 (hst'.1.at fun o e => (sb.2 I hSI.symm).trans e) hv (Nat.le_refl _) fun k hk ne' => ?_⟩
      by_cases e : k = i
      · rw [e]
        exact q
      · have := hb k (by omega) e
        omega
    · simp only [q, decide_false, Bool.false_eq_true, if_false]
      refine wpAny_bind (wpAny_letGo ?_)
      rw [nm]
      refine wpAny_pure ⟨plainId_quiet PySem.F.plain_min_loop _, ih (j + 1) i _ _ vb c (by omega) lt st1 hS' hst'.1 hvb (by omega) fun k hk ne' => ?_⟩
      by_cases e : k = j + 1
      · rw [e]
        omega
      · exact hb k (by omega) ne'

theorem minh_call {l : Addr} {vs : List Value} {Q : Value → Shared → Prop} (d : Nat → Int) (hh : A.handled = none) (hl : s.heap.IsList l vs.toArray)
    (cmp : ∀ (i j : Nat) (vi vj : Value) (t : Shared) (Q E : Value → Shared → Prop), Stands s.heap t.heap → vs[i]? = some vi → vs[j]? = some vj → i ≠ j → Q (.bool (decide (d i < d j))) t → wpAny (model prog w) A.in1 (richCompare .Lt vi vj) Q E t)
    (dist : ∀ i j : Nat, i < vs.length → j < vs.length → i ≠ j → d i ≠ d j) {jm : Nat} {vm : Value} (hm : vs[jm]? = some vm) (least : ∀ i, i < vs.length → i ≠ jm → d jm < d i)
    (hQ : ∀ h' tk', Stands s.heap h' → Q vm { s with heap := h', toks := tk' }) : wpAny (model prog w) A (call (.builtin "min") [.ref l]) Q E s := by
  have nm : (toString "min" ++ toString ".loop" : String) = "min.loop" := by decide
  obtain ⟨ol, hol, _⟩ := id hl
  have ll : l < s.heap.objs.size := Heap.lt_size hol
  obtain ⟨q0, _⟩ := List.getElem?_eq_some_iff.mp hm
  refine call_function_tree F.kind_min F.plain_min F.entry_min (F.args_min1 _) ?_
  show wpAny _ A.in1 (Builtin.Builtins.bindParams "min" ["key", "default"] 0 ⟨[], []⟩ >>= _) _ _ s
  refine wpAny_bind (wpAny_of_eq (show Builtin.Builtins.bindParams "min" ["key", "default"] 0 ⟨[], []⟩ = pure [none, none] from rfl) (wpAny_bind (wpAny_pure ?_)))
  refine wpAny_bind (wpAny_pyIter_list hl (wpAny_bind (wpAny_newList ?_ (Nat.zero_le _))))
  rw [nm]
  generalize eg : s.heap.push { cls := .type "list_iterator", data := .fields #[.ref l, .int 0 0] } = g1
  have z1 : g1.objs.size = s.heap.objs.size + 1 := by rw [← eg]; exact Heap.size_push ..
  have gI : g1.get? s.heap.objs.size = some { cls := .type "list_iterator", data := .fields #[.ref l, .int 0 0] } := by rw [← eg]; exact Heap.get?_push_size _ rfl
  have k1 : Stands s.heap g1 := fun b o e => by rw [← eg]; exact Heap.get?_push_of_some _ e
  refine wpAny_pure ⟨plainId_quiet F.plain_min_loop _, ?_⟩
  generalize eh : g1.push { cls := .type "list", data := .seq ([] : List Value).toArray } = g2
  have gI2 : g2.get? s.heap.objs.size = some { cls := .type "list_iterator", data := .fields #[.ref l, .int 0 0] } := by rw [← eh]; exact Heap.get?_push_of_some _ gI
  have gS2 : g2.get? g1.objs.size = some (seqObj "list" #[] 0) := by rw [← eh]; exact Heap.get?_push_size _ rfl
  have k2 : Stands s.heap g2 := fun b o e => by rw [← eh]; exact Heap.get?_push_of_some _ (k1 b o e)
  have hSI : g1.objs.size ≠ s.heap.objs.size := by rw [z1]; exact Nat.ne_of_gt (Nat.lt_succ_self _)
  have zI : s.heap.get? s.heap.objs.size = none := Heap.get?_none_of_le (Nat.le_refl _)
  have zS : s.heap.get? g1.objs.size = none := Heap.get?_none_of_le (by rw [z1]; exact Nat.le_succ _)
  have hlI : l ≠ s.heap.objs.size := Nat.ne_of_lt ll
  have W := Walks.list (prog := prog) (w := w) (A := A.in1) hh s.heap.objs.size l hlI vs.toArray
  have size : vs.toArray.size = vs.length := List.size_toArray ..
  refine codeAny_builtin F.entry_min_loop ?_
  rw [Around.under_plainId F.plain_min_loop _]
  show wpAny _ A.in1 (seqItems? (.ref g1.objs.size) >>= _) _ _ _
  refine wpAny_bind (wpAny_seqItems gS2 rfl ?_)
  show wpAny _ A.in1 (tryCatch (pyNext (.ref s.heap.objs.size)) _ >>= _) _ _ _
  refine wpAny_bind (wpAny_tryCatch (W.item 0 _ _ _ (by rw [size]; omega) ⟨⟨_, gI2, rfl, rfl⟩, hl.at fun o e => k2 l o e⟩ fun v h' tk' hP hst' kk => ?_))
  have hv : vs[0]? = some v := by simpa using hP
  have nI : ∀ b o, s.heap.get? b = some o → b ≠ s.heap.objs.size := fun b o e => Nat.ne_of_lt (Heap.lt_size e)
  have nS : ∀ b o, s.heap.get? b = some o → b ≠ g1.objs.size := fun b o e => by rw [z1]; exact Nat.ne_of_lt (Nat.lt_succ_of_lt (Heap.lt_size e))
  have st1 : Stands s.heap h' := fun b o e => kk b o (by simpa using nI b o e) (k2 b o e)
  have hS' : h'.get? g1.objs.size = some (seqObj "list" #[] 0) := kk _ _ (by simpa using hSI) gS2
  have sb := Heap.SameBut.update h' g1.objs.size (Obj.mapSeq fun _ => #[v, v])
  obtain ⟨c2, hc2⟩ : ∃ c2, (h'.update g1.objs.size (Obj.mapSeq fun _ => #[v, v])).get? g1.objs.size = some (seqObj "list" #[v, v] c2) := ⟨_, get?_update_seq hS' fun _ => #[v, v]⟩
  show wpAny _ A.in1 (updateSeq g1.objs.size (fun _ => #[v, v]) >>= _) _ _ _
  refine wpAny_bind (wpAny_updateSeq hS' rfl ?_)
  rw [nm]
  refine wpAny_pure ⟨plainId_quiet F.plain_min_loop _, ?_⟩
  refine minh_loop (g := s.heap) (s := s) d hh hl hlI hSI zI zS cmp dist hm least (fun h2 tk2 k => hQ h2 tk2 k) _ 0 0 _ _ v c2 rfl (by omega) (fun b o e => (sb.2 b (nS b o e)).trans (st1 b o e)) hc2 (hst'.1.at fun o e => (sb.2 _ hSI.symm).trans e) hv (Nat.le_refl _) fun k hk ne => by omega
end

section
variable {X : Cx}
/-- min of a list of tuples that begin with unlike ints: the one at j, whose int is the least -/
def rMinT (K : PySem.W.Frag) : List V → Hp → VK → Prop := fun vs H Q => ∃ (a : Addr) (xs : List V) (d : Nat → Int) (j : Nat) (v : V), vs = [V.ref a] ∧ SqL K H a xs ∧ xs[j]? = some v ∧
  (∀ i x, xs[i]? = some x → ∃ t r, x = V.ref t ∧ SqT K H t (.int (d i) :: r)) ∧ (∀ i i' : Nat, i < xs.length → i' < xs.length → i ≠ i' → d i ≠ d i') ∧ (∀ i, i < xs.length → i ≠ j → d j < d i) ∧ Q v H
theorem cr_minT (hc : X.calm = true) (hu : X.A.units + 1 < cLine) : CallR X (.builtin "min") (rMinT X.K) := by
  intro pins s σ H vs us Q I r h
  obtain ⟨a, xs, d, j, v, rfl, hs, hj, ht, dist, least, q⟩ := h
  obtain ⟨its, rv, hl, _⟩ := I.list hs
  rw [Vals.ref1 r]
  have en := rv.length
  obtain ⟨u, hu', ru⟩ := rv.get hj
  have item : ∀ i vi, its[i]? = some vi → ∃ t w' rest ws, vi = .ref t ∧ IsTup s.heap t (.int (d i) w' :: ws : List Value).toArray ∧ Vals rest ws := fun i vi e => by
    obtain ⟨li, _⟩ := List.getElem?_eq_some_iff.mp e
    have ex : xs[i]? = some xs[i] := List.getElem?_eq_getElem (by omega)
    obtain ⟨t, rest, e1, e2⟩ := ht i _ ex
    obtain ⟨u1, g1, g2⟩ := rv.get ex
    have e3 : u1 = vi := Option.some.inj (g1.symm.trans e)
    rw [e1, e3] at g2
    obtain ⟨ws, r2, p2, _⟩ := I.tuple e2
    cases r2 with
    | cons p q =>
      obtain ⟨w', e4⟩ := p
      rw [e4] at p2
      exact ⟨t, w', rest, _, g2, p2, q⟩
  refine minh_call d (I.ok.hd hc) hl.isList (fun i k vi vk t Q' E' st e1 e2 ne hq => ?_) (fun i k h1 h2 ne => dist i k (by omega) (by omega) ne) hu' (fun i h1 ne => least i (by omega) ne) fun h' tk' st => ⟨v, H, I.kept st, ru, q⟩
  obtain ⟨t1, w1, _, ws1, rfl, p1, _⟩ := item i vi e1
  obtain ⟨t2, w2, _, ws2, rfl, p2, _⟩ := item k vk e2
  obtain ⟨i1, _⟩ := List.getElem?_eq_some_iff.mp e1
  obtain ⟨i2, _⟩ := List.getElem?_eq_some_iff.mp e2
  have s1 : IsTup t.heap t1 (.int (d i) w1 :: ws1 : List Value).toArray := let ⟨o, e, c⟩ := p1; ⟨o, st _ _ e, c⟩
  have s2 : IsTup t.heap t2 (.int (d k) w2 :: ws2 : List Value).toArray := let ⟨o, e, c⟩ := p2; ⟨o, st _ _ e, c⟩
  exact heads_rc s1 s2 rfl rfl (dist i k (by omega) (by omega) ne) (by exact hu) hq
end
end K48
set_option Elab.async false
set_option linter.all false
set_option maxRecDepth 100000
set_option maxHeartbeats 4000000
/-! set of a list of ints; enumerate of a tuple. -/
namespace K48
open PySem PySem.Spec PyProof.Rows L2
section
variable {P : Program} {w : World} {A : Around} {E : Value → Shared → Prop} {s : Shared}
/-- the empty set as it is laid -/
abbrev bareSet (w : World) : Obj := { cls := .type "set", dict := none, data := .set #[] 0 (.fresh 0 0 (!w.params.followText "set-order")) }
theorem set_listI {l : Addr} {items : Array Value} (ns : List Int) {Q : Value → Shared → Prop} (hh : A.handled = none) (hl : s.heap.IsList l items) (hit : IntsAre items.toList ns) (hb : ns.length + 1 < scanBound)
    (h : ∀ (h' : Heap) (tk c : Nat), SetR w h' s.heap.objs.size (fun j => decide (j ∈ ns)) c → c ≤ ns.length → Stands s.heap h' → Q (.ref s.heap.objs.size) { s with heap := h', toks := tk }) :
    wpAny (model P w) A (call (.type "set") [.ref l]) Q E s := by
  have en : items.size = ns.length := (Array.length_toList (xs := items)).symm.trans (IntsAre.length hit)
  obtain ⟨c0, tl, hmro⟩ := F.called_set.mro
  have hmade := F.called_set.made
  have hsub := F.called_set.sub
  refine wpAny_call (codeAny_of_tree ?_)
  show wpAny _ _ (callAny (.type "set") _) _ _ _
  refine wpAny_pure ⟨Code.quiet_builtin _ (by decide +kernel), codeAny_builtin F.entry_type_call ?_⟩
  rw [Around.under_plain (weight_type_call_type "set" [.ref l] []) rfl]
  have h1 := F.called_set.notType
  have h2 := F.called_set.canCreate
  have hct := F.typeCall_set_1 (.ref l)
  repeat (any_goals (first | assumption | wp_step))
  have hS : (s.heap.push (bareSet w)).get? s.heap.objs.size = some (bareSet w) := Heap.get?_push_size _ rfl
  refine codeAny_mono (code_set_led1 (.ref l) (E := E) (Q₁ := fun z t => z = .ref s.heap.objs.size ∧ t = { s with heap := s.heap.push (bareSet w) }) ⟨rfl, rfl⟩) fun r t hr => ?_
  cases r with
  | error e => exact hr
  | ok fl =>
    cases fl with
    | next => exact hr.elim
    | brk => exact hr.elim
    | cont => exact hr.elim
    | ret z =>
      obtain ⟨rfl, rfl⟩ := hr
      have hT : Shared.TypeIs { s with heap := s.heap.push (bareSet w) } (.ref s.heap.objs.size) "set" := ⟨_, hS, rfl⟩
      have hli := F.called_set.init.lookup
      have hbi := F.called_set.init.bind (.ref s.heap.objs.size)
      repeat (any_goals (first | assumption | wp_step))
      refine codeAny_mono (codeAny_call_builtin (R := wants (fun z t => z = .none ∧ ∃ h' tk c, t = { s with heap := h', toks := tk } ∧ SetR w h' s.heap.objs.size (fun j => decide (j ∈ ns)) c ∧ c ≤ ns.length ∧ Stands s.heap h') E)
        F.called_set.init.plain F.entry_set_init (check_set_init_1 hT ?_)) fun r2 t2 hr2 => ?_
      · obtain ⟨⟨k1, k2, k3, k4⟩, hol, hcl, nl, hdl⟩ := id hl
        simp only at hcl hdl
        subst hcl hdl
        have hol' : (s.heap.push (bareSet w)).get? l = some { cls := .type "list", dict := k2, data := .seq items nl, slots := k4 } := Heap.get?_push_of_some _ hol
        have hl1 : (s.heap.push (bareSet w)).IsList l items := ⟨_, hol', rfl, nl, rfl⟩
        have y1 := F.sub_list_set
        have y2 := F.sub_list_frozenset
        have y3 : (Value.type "list" == Value.type "dict") = false := by decide
        have ll : l < s.heap.objs.size := Heap.lt_size hol
        unfold Builtin.«set.__init__» noKeywords Builtin.Frozenset.updateFrom
        generalize hPI : pyIter = PI
        wp_walk
        subst hPI
        refine wpAny_pyIter_list hl1 (wpAny_bind (wpAny_runValue ?_))
        have z1 : (s.heap.push (bareSet w)).objs.size = s.heap.objs.size + 1 := Heap.size_push ..
        have lI : l ≠ (s.heap.push (bareSet w)).objs.size := by rw [z1]; exact Nat.ne_of_lt (Nat.lt_succ_of_lt ll)
        have hh3 : A.in1.in1.in1.handled = none := by simp [hh]
        have aside : s.heap.objs.size ∉ [(s.heap.push (bareSet w)).objs.size, l] := by
          rw [z1]
          simp only [List.mem_cons, List.not_mem_nil, or_false, not_or]
          exact ⟨Nat.ne_of_lt (Nat.lt_succ_self _), Nat.ne_of_gt ll⟩
        have val : ∀ (i : Nat) (v : Value), items[i]? = some v → ∃ k t, ns[i]? = some k ∧ v = .int k t := fun i v e => by
          have hi : i < ns.length := by rw [← en]; exact (Array.getElem?_eq_some_iff.mp e).1
          obtain ⟨t, q⟩ := PyProof.Rows.IntsAre.int_at hit i v (by rw [Array.getElem?_toList]; exact e)
          have q2 : ns.getD i 0 = ns[i] := by rw [List.getD_eq_getElem?_getD, List.getElem?_eq_getElem hi]; rfl
          exact ⟨ns[i], t, List.getElem?_eq_getElem hi, by rw [q, q2]⟩
        refine set_update_ints ((Walks.list hh3 _ l lI items).toS) s.heap.objs.size aside ns en hb val (items.size - 0) 0 _ (by omega) (Nat.zero_le _) ⟨⟨_, Heap.get?_push_size _ rfl, rfl, rfl⟩, ?_⟩ ?_ ?_
        · exact ⟨_, Heap.get?_push_of_some _ hol', rfl, nl, rfl⟩
        · exact ⟨0, Nat.le_refl 0, setR_new_at (Heap.get?_push_of_some _ hS)⟩
        · intro t c hm hc hR
          obtain ⟨h', g2, d2, tk, o2⟩ := t
          obtain rfl : g2 = s.gens := hm.gens
          obtain rfl : d2 = s.drawn := hm.drawn
          obtain rfl : o2 = s.os := hm.os
          show wpAny _ _ _ _ _ _
          refine wpAny_pure ?_
          show wpAny _ _ (ret Value.none) _ _ _
          refine wpAny_pure ⟨rfl, h', tk, c, rfl, hR, by omega, fun b o e => ?_⟩
          have b0 : b < s.heap.objs.size := Heap.lt_size e
          refine hm.heap b o ?_ (Heap.get?_push_of_some _ (Heap.get?_push_of_some _ e))
          rw [z1]
          simp only [List.mem_cons, List.not_mem_nil, or_false, not_or]
          exact ⟨Nat.ne_of_lt b0, Nat.ne_of_lt (Nat.lt_succ_of_lt b0)⟩
      · cases r2 with
        | error e => exact hr2
        | ok fl2 =>
          cases fl2 with
          | next => exact hr2.elim
          | brk => exact hr2.elim
          | cont => exact hr2.elim
          | ret z =>
            obtain ⟨rfl, h', tk, c, rfl, hR, hc, st⟩ := hr2
            repeat (any_goals (first | assumption | wp_step))
            exact h _ _ _ hR hc st
end
section
variable {X : Cx}
/-- set of a list of ints: a new set of them -/
def rSetL (K : PySem.W.Frag) (w : World) : List V → Hp → VK → Prop := fun vs H Q => ∃ (a : Addr) (ns : List Int), vs = [V.ref a] ∧ SqL K H a (ns.map V.int) ∧ ns.length ≤ 1000 ∧ ∀ p c, H p = none → c ≤ ns.length → Q (.ref p) (upd H p (SetO w p (fun j => decide (j ∈ ns)) c))
theorem cr_setL (hc : X.calm = true) : CallR X (.type "set") (rSetL X.K X.w) := by
  intro pins s σ H vs us Q I r h
  obtain ⟨a, ns, rfl, hs, hn, q⟩ := h
  obtain ⟨its, rv, hl, _⟩ := I.list hs
  rw [Vals.ref1 r]
  refine set_listI ns (I.ok.hd hc) hl.isList rv.ints (Nat.lt_of_le_of_lt (Nat.succ_le_succ hn) (by decide)) fun h' tk c hR hc' st => ?_
  exact ⟨.ref s.heap.objs.size, _, I.laid (t' := tk) st (Nat.le_refl _) (setO_new hR), rfl, q _ _ (I.hok.fresh (Nat.le_refl _)) hc'⟩
end
end K48
set_option Elab.async false
set_option linter.all false
set_option maxRecDepth 100000
set_option maxHeartbeats 4000000
/-! enumerate of a tuple, walked by a for. -/
namespace K48
open PySem PySem.Spec PyProof.Rows L2
theorem enum_meets {v : Value} {o : Obj} {W : Heap → Prop} (B : Begins v o W) :
    Meets (Builtin.«enumerate.__new__» ⟨[.type "enumerate", v], []⟩) (fun _ R s => W s.heap ∧
      R (.ok (.ret (.ref (s.heap.push o).objs.size))) { s with heap := (s.heap.push o).push { cls := .type "enumerate", data := .fields #[.none, .bool false, .ref s.heap.objs.size, rawInt 0, .none, .none] } }) :=
  .of_wp fun prog w A R s h => by
    obtain ⟨hp, g, d, tk, os⟩ := s
    obtain ⟨h1, h⟩ := h
    have hsub := sub_enumerate
    have go : ∀ {A' : Around} {E Q : Value → Shared → Prop}, Q (.ref hp.objs.size) ⟨hp.push o, g, d, tk, os⟩ → wpAny (model prog w) A' (pyIter v) Q E ⟨hp, g, d, tk, os⟩ := fun q => B.iter prog w _ _ ⟨hp, g, d, tk, os⟩ _ h1 q
    wp_walk using go
    refine wpAny_stack_any fun st => wpAny_pure ?_
    split
    · rename_i c _ _ _ _ _
      cases (c == Value.type "enumerate")
      · wp_walk using go
        exact ⟨_, rfl, h⟩
      · wp_walk using go
        exact ⟨_, rfl, h⟩
    · wp_walk using go
      exact ⟨_, rfl, h⟩
section
variable {prog : Program} {w : World} {A : Around} {E : Value → Shared → Prop} {s : Shared}
theorem enum_made {v : Value} {o : Obj} {W : Heap → Prop} {Q : Value → Shared → Prop} (B : Begins v o W) (h1 : W s.heap)
    (h : ∀ h', IsEnum h' (s.heap.objs.size + 1) s.heap.objs.size 0 .none → h'.get? s.heap.objs.size = some o → (∀ b o, s.heap.get? b = some o → h'.get? b = some o) → Q (.ref (s.heap.objs.size + 1)) { s with heap := h' }) :
    wpAny (model prog w) A (call (.type "enumerate") [v]) Q E s := by
  refine callType_new F.called_enumerate (by decide) (F.typeCall_enumerate_1 _) (F.newCall_enumerate_1 _) (fun obj => F.args_object_init_2 obj _) F.entry_enumerate_new (enum_meets B) ⟨h1, ?_⟩
  have z : (s.heap.push o).objs.size = s.heap.objs.size + 1 := Heap.size_push ..
  show _ ∧ _
  rw [z]
  have he : IsEnum ((s.heap.push o).push { cls := .type "enumerate", data := .fields #[.none, .bool false, .ref s.heap.objs.size, rawInt 0, .none, .none] }) (s.heap.objs.size + 1) s.heap.objs.size 0 .none := by
    have q := Heap.get?_push_size (s.heap.push o) (o := { cls := .type "enumerate", data := .fields #[.none, .bool false, .ref s.heap.objs.size, rawInt 0, .none, .none] }) rfl
    rw [z] at q
    exact q
  exact ⟨⟨_, he, rfl⟩, h _ he (Heap.get?_push_of_some _ (Heap.get?_push_size _ B.free)) fun b o e => Heap.get?_push_of_some _ (Heap.get?_push_of_some _ e)⟩
end
/-- the tuple at a, each item in a new pair with its place -/
def IteT (K : PySem.W.Frag) (a : Addr) : It :=
  ⟨fun i H => ∃ (xs : List V) (x : V), SqT K H a xs ∧ xs[i]? = some x, fun i H v H' => ∃ T x, v = .ref T ∧ H T = none ∧ H' = upd H T (.tup [.int (i : Nat), x]) ∧ ∀ xs, SqT K H a xs → xs[i]? = some x, fun i H => ∃ xs : List V, SqT K H a xs ∧ xs.length = i⟩
theorem apartT {h : Heap} {e it a : Addr} {i : Nat} {c : Int} {old : Value} {us : Array Value} (he : IsEnum h e it c old) (hi : h.IsTupleIter it a i) (ht : IsTup h a us) : a ≠ it ∧ e ≠ a := by
  obtain ⟨o, ho, hc, _⟩ := ht
  obtain ⟨o2, ho2, hc2, _⟩ := hi
  constructor
  · intro z
    rw [z, ho2] at ho
    cases ho
    rw [hc2] at hc
    exact absurd hc (by decide)
  · intro z
    have he' : h.get? e = some _ := he
    rw [z, ho] at he'
    have q := Option.some.inj he'
    rw [q] at hc
    injection hc with z1
    exact absurd z1 (by decide)
theorem turn_enumT {P : Program} {w : World} {K : PySem.W.Frag} {elts : List Expr} {kk : Nat} {tpos : Pos} (a e it : Addr) :
    Turn P w K (.Tuple elts kk tpos) (IteT K a) [e, it] e (fun i h => (∃ old, IsEnum h e it ((i : Nat) : Int) old) ∧ h.IsTupleIter it a i ∧ e ≠ it) where
  mem := by simp
  obj := fun i h st b hb => by
    obtain ⟨⟨old, he⟩, ⟨o, ho, hc, hd⟩, _⟩ := st
    rcases (show b = e ∨ b = it by simpa using hb) with z | z
    · rw [z]
      exact ⟨_, he, fun v q => nomatch q⟩
    · rw [z]
      exact ⟨o, ho, fun v q => by rw [hd] at q; cases q⟩
  keep := fun i h h' st k => ⟨let ⟨old, he⟩ := st.1; ⟨old, k e (by simp) _ he⟩, st.2.1.at fun o q => k it (by simp) o q, st.2.2⟩
  item := by
    intro X hP hw hK hc i pins s σ H E I hf st hg
    subst hP hw hK
    obtain ⟨⟨old, he⟩, hit, hne⟩ := st
    obtain ⟨xs, x, hq, hx⟩ := hg
    obtain ⟨its, rv, p, hz⟩ := I.tuple hq
    obtain ⟨u, hu, ru⟩ := rv.get hx
    obtain ⟨ai, ea⟩ := apartT he hit p
    have en := rv.length
    have hl : i < its.toArray.size := by
      rw [List.size_toArray]
      exact (List.getElem?_eq_some_iff.mp hu).1
    have le : e < s.heap.objs.size := Heap.lt_size he
    have li : it < s.heap.objs.size := by
      obtain ⟨_, q, _⟩ := hit
      exact Heap.lt_size q
    have D := Draws.tuple (prog := X.prog) (w := X.w) (A := X.A.in1) (by exact I.ok.hd hc) it a ai its.toArray
    refine wpAny_pyNext_enum_itemC D he ⟨hit, p⟩ hl hne (by simp [hne, ea]) fun y h' tk hy ho st' hT hsz hk => ?_
    have ey : y = u := by
      have q : its[i]? = some y := by simpa using hy
      exact Option.some.inj (q.symm.trans hu)
    subst ey
    refine ⟨_, rfl, wpAny_letOwnedTupleGo_enum (s := { s with heap := h', toks := tk + 1 }) ho fun h2 he' sb => ?_⟩
    have hT2 : h2.get? s.heap.objs.size = some { cls := .type "tuple", data := .seq #[.int ((i : Nat) : Int) tk, y] } := (sb.2 _ (Nat.ne_of_gt le)).trans hT
    have new : ObjOk X.prog X.w (upd H s.heap.objs.size (.tup [.int (i : Nat), x])) h2 s.heap.objs.size (.tup [.int (i : Nat), x]) :=
      ⟨by show 2 ≤ sizeLine; decide, [.int ((i : Nat) : Int) tk, y], .cons ⟨_, rfl⟩ (.cons ru .nil), ⟨_, hT2, rfl, _, rfl⟩⟩
    have I1 : Inv X pins σ (upd H s.heap.objs.size (.tup [.int (i : Nat), x])) { s with heap := h2, toks := tk + 1 } :=
      I.turnedNew (ch := [e, it]) (fun b ob hb q => (sb.2 b (fun z => hb (by simp [z]))).trans (hk b ob (fun z => hb (by simp [z])) (fun z => hb (by simp [z])) q)) hf (Nat.le_refl _) new
    refine ⟨.ref s.heap.objs.size, _, I1, rfl, ⟨_, x, rfl, I.hok.fresh (Nat.le_refl _), rfl, fun ys hy => by rw [I.tuple_inj hy hq]; exact hx⟩, ⟨⟨y, ?_⟩, st'.1.at fun o q => (sb.2 it (Ne.symm hne)).trans q, hne⟩, fun b hb => ?_⟩
    · rw [show ((i + 1 : Nat) : Int) = (i : Int) + 1 by omega]
      exact he'
    · have lb : b < s.heap.objs.size := by
        rcases (show b = e ∨ b = it by simpa using hb) with z | z
        · rw [z]
          exact le
        · rw [z]
          exact li
      rw [upd_ne (Nat.ne_of_lt lb)]
      exact (hf b hb).1
  done := by
    intro X hP hw hK hc i pins s σ H E I hf st hg
    subst hP hw hK
    obtain ⟨⟨old, he⟩, hit, hne⟩ := st
    obtain ⟨xs, hq, hx⟩ := hg
    obtain ⟨its, rv, p, hz⟩ := I.tuple hq
    obtain ⟨ai, ea⟩ := apartT he hit p
    obtain ⟨f0, f1, f2, f3, f4, f5⟩ := hf it (by simp)
    have en : its.toArray.size = i := by
      rw [List.size_toArray, ← rv.length]
      exact hx
    have D := Draws.tuple (prog := X.prog) (w := X.w) (A := X.A.in1) (by exact I.ok.hd hc) it a ai its.toArray
    refine wpAny_pyNext_enum_endD D he ⟨by rw [en]; exact hit, p⟩ fun h' eb => ⟨rfl, I.turned (t' := s.toks) (fun b o hb q => eb b o hb q) f0 f1 f3 f4 f5⟩
  self := fun A i s Q E st h => let ⟨⟨_, he⟩, _⟩ := st; wpAny_pyIter_enum he h
def iEnumT (K : PySem.W.Frag) (ta : TA) : TI := fun σ H R => ta σ H fun vs H1 => ∃ a xs, vs = [.ref a] ∧ SqT K H1 a xs ∧ R (IteT K a) H1
theorem pi_enumT {X : Cx} {e : Expr} {ta : TA} {p pos tpos : Pos} {elts : List Expr} {kk : Nat} (hg : Gl X "enumerate") (hm : X.mg "enumerate" = none) (ha : PA X [e] ta) (hs : starEach [e] X.env = [(false, eval e X.env)] := by rfl) :
    PI X (.Tuple elts kk tpos) (.Call (.Name "enumerate" p) [e] [] pos) (iEnumT X.K ta) := by
  refine ⟨fun pins s σ H R I h => ?_⟩
  refine Call_ (ld_blt I hg hm boot_enumerate (PyProof.Rows.callWith_type1 (thn (ha.run pos pins s σ H _ I h) fun us s1 ⟨vs, H1, I1, r1, a, xs, ex, hq, q⟩ => ?_) hs rfl))
  subst ex
  rw [Vals.ref1 r1]
  obtain ⟨its, rv, p', hz⟩ := I1.tuple hq
  refine enum_made (begins_tuple a its.toArray) p' fun h' he hi hk => wpAny_pyIter_enum he ?_
  refine ⟨s1.heap.objs.size + 1, [s1.heap.objs.size + 1, s1.heap.objs.size], _, _, H1, rfl, I1.kept (t' := s1.toks) hk, turn_enumT a (s1.heap.objs.size + 1) s1.heap.objs.size, ⟨⟨.none, he⟩, ⟨_, hi, rfl, rfl⟩, Nat.succ_ne_self _⟩, fun b hb => ?_, q⟩
  have hle : s1.heap.objs.size ≤ b := by
    rcases (show b = s1.heap.objs.size + 1 ∨ b = s1.heap.objs.size by simpa using hb) with z | z
    · rw [z]
      exact Nat.le_add_right _ _
    · rw [z]
      exact Nat.le_refl _
  exact I1.fpOk hle (I1.hok.fresh hle)
/-- for i, x in enumerate(t): the tuple stands; each turn has a new pair -/
theorem for_enumT {K : PySem.W.Frag} {a : Addr} {xs : List V} {n : Nat} {g : TGs} {tb : TS} {D : Ends} {σ : L2.St} {H : Hp} (Pv : Nat → L2.St → Hp → Prop) (h0 : Pv 0 σ H) (hl : ∀ i σ H, i ≤ xs.length → Pv i σ H → SqT K H a xs)
    (hs : ∀ i x T σ H, xs[i]? = some x → Pv i σ H → H T = none → g [.int (i : Nat), x] σ (upd H T (.tup [.int (i : Nat), x])) fun σ2 H2 => tb { D with nx := Pv (i + 1), ct := Pv (i + 1), bk := D.nx } σ2 H2)
    (hn : n = 2) (hd : ∀ σ H, Pv xs.length σ H → D.nx σ H) :
    ∃ W : Nat → Nat → L2.St → Hp → Prop, (∃ m, W 0 m σ H) ∧ ∀ i m σ H, W i m σ H →
      ((IteT K a).stop i H ∧ D.nx σ H) ∨ ((IteT K a).go i H ∧ ∃ N : L2.St → Hp → Prop, (∀ σ' H', N σ' H' → ∃ m', m' < m ∧ W (i + 1) m' σ' H') ∧
        ∀ x H', (IteT K a).yld i H x H' → gTup K n g x σ H' fun σ2 H2 => tb { D with nx := N, ct := N, bk := D.nx } σ2 H2) := by
  subst hn
  refine ⟨fun i m σ H => m = xs.length - i ∧ i ≤ xs.length ∧ Pv i σ H, ⟨xs.length, by simp, Nat.zero_le _, h0⟩, ?_⟩
  rintro i m σ H ⟨rfl, hi, p⟩
  have q := hl i σ H hi p
  by_cases hlt : i < xs.length
  · refine .inr ⟨⟨xs, xs[i], q, List.getElem?_eq_getElem hlt⟩, Pv (i + 1), fun σ' H' p' => ⟨xs.length - (i + 1), by omega, rfl, hlt, p'⟩, fun v H' y => ?_⟩
    obtain ⟨T, x, rfl, nT, rfl, f⟩ := y
    exact ⟨T, _, rfl, SqT.of upd_same, rfl, hs i x T σ H (f xs q) p nT⟩
  · have e : i = xs.length := by omega
    subst e
    exact .inl ⟨⟨xs, q, rfl⟩, hd σ H p⟩
end K48
set_option Elab.async false
set_option linter.all false
set_option maxRecDepth 100000
set_option maxHeartbeats 4000000
/-! What the top has written; defs by their bodies; heaps. -/
namespace K48
open PySem PySem.Spec PyProof.Rows L2
/-- the class Slope -/
abbrev CS (K : PySem.W.Frag) : Addr := He.ga K "Slope"
/-- a def of the text as the top has left it, under its name -/
structure Dn (K : PySem.W.Frag) (mg : Str → Option Value) (x : Str) (st : Stmt) : Prop where
  ex : ∃ (f : Addr) (fd : FuncData), FunD K x x (defArgs st) (defBody st) (defScope st) [] [] f fd ∧ mg x = some (.ref f)
/-- a module's name that holds an int -/
abbrev Ci (mg : Str → Option Value) (x : Str) (i : Int) : Prop := ∃ u, mg x = some u ∧ RelV (.int i) u
structure Gm (K : PySem.W.Frag) (mg : Str → Option Value) : Prop where
  n_isinstance : mg "isinstance" = none
  n_int : mg "int" = none
  n_bool : mg "bool" = none
  n_enumerate : mg "enumerate" = none
  n_len : mg "len" = none
  n_range : mg "range" = none
  n_str : mg "str" = none
  n_tuple : mg "tuple" = none
  n_all : mg "all" = none
  n_sorted : mg "sorted" = none
  n_set : mg "set" = none
  n_divmod : mg "divmod" = none
  n_abs : mg "abs" = none
  n_min : mg "min" = none
  n_max : mg "max" = none
  cPart : Ci mg "MOST_PART" 20
  cLead : Ci mg "MOST_LEAD" 8
  cLoop : Ci mg "MOST_LOOP" 12
  cNumber : Ci mg "MOST_NUMBER" (10 ^ 30)
  cCorners : Ci mg "MOST_CORNERS" 30
  f_is_integer : Dn K mg "is_integer" st_is_integer
  f_is_between : Dn K mg "is_between" st_is_between
  f_check_lead : Dn K mg "check_lead" st_check_lead
  f_check_loop : Dn K mg "check_loop" st_check_loop
  f_shortest_loop : Dn K mg "shortest_loop" st_shortest_loop
  f_shortest : Dn K mg "shortest" st_shortest
  f_listed : Dn K mg "listed" st_listed
  f_check_slope : Dn K mg "check_slope" st_check_slope
  f_part_at : Dn K mg "part_at" st_part_at
  f_neighbours_for : Dn K mg "neighbours_for" st_neighbours_for
  f_neighbours_to : Dn K mg "neighbours_to" st_neighbours_to
  f_neighbours_past : Dn K mg "neighbours_past" st_neighbours_past
  f_is_point : Dn K mg "is_point" st_is_point
  f_check_point : Dn K mg "check_point" st_check_point
  f_multiple_at : Dn K mg "multiple_at" st_multiple_at
  f_whole_at : Dn K mg "whole_at" st_whole_at
  f_sign_at : Dn K mg "sign_at" st_sign_at
  f_check_bound : Dn K mg "check_bound" st_check_bound
  f_side_of : Dn K mg "side_of" st_side_of
  f_below_to : Dn K mg "below_to" st_below_to
  f_above_to : Dn K mg "above_to" st_above_to
  f_nearer : Dn K mg "nearer" st_nearer
  f_best_to : Dn K mg "best_to" st_best_to
  f_records_to : Dn K mg "records_to" st_records_to
  f_greatest_below : Dn K mg "greatest_below" st_greatest_below
  f_least_above : Dn K mg "least_above" st_least_above
  f_best : Dn K mg "best" st_best
  f_records : Dn K mg "records" st_records
  f_check_side : Dn K mg "check_side" st_check_side
  f_corners : Dn K mg "corners" st_corners
  f_nearest_point : Dn K mg "nearest_point" st_nearest_point
  f_is_corner : Dn K mg "is_corner" st_is_corner
  f_law_purse : Dn K mg "_law_purse" st_law_purse
  f_law_take : Dn K mg "_law_take" st_law_take
  f_law_one : Dn K mg "_law_one" st_law_one
  f_law_parts : Dn K mg "_law_parts" st_law_parts
  f_law_rows : Dn K mg "_law_rows" st_law_rows
  f_law_far : Dn K mg "_law_far" st_law_far
  f_law_size : Dn K mg "_law_size" st_law_size
  f_law_whole : Dn K mg "_law_whole" st_law_whole
  f_law_tried : Dn K mg "_law_tried" st_law_tried
  f_law_bound_right : Dn K mg "_law_bound_right" st_law_bound_right
  f_law_right : Dn K mg "_law_right" st_law_right
  f_law : Dn K mg "law" st_law
  mgC : mg "Slope" = some (.ref (CS K))
  ins : C8.InsC K (CS K)
  nHeld : NoAttr K (CS K) "held"
  nWords : NoAttr K (CS K) "words"
  mkS : ∃ f fd, Mk K (CS K) f ∧ FunD K "__init__" "Slope.__init__" (defArgs st_init) (defBody st_init) (defScope st_init) [] [] f fd
section
variable {P : Program} {w : World} {K : PySem.W.Frag} {mg : Str → Option Value} {base : Heap}
/-- THE RULE for a def: its scope, how arguments bind, its body's term and reading -/
theorem cal_of {x : Str} {st : Stmt} {N ps : List Str} {k : Nat} {sp : Sp} (F : Dn K mg x st) (S : FnScope N ps (defScope st))
    (hb : ∀ (kV doc pm : Value) (an : Option Addr) (cdv ct : Value) (us : List Value), us.length = ps.length → bindArgs (PySem.W.fnOf x x (defArgs st) (defBody st) (defScope st) .none kV doc pm an cdv ct) ⟨us, []⟩ = pure (ps.zip us))
    (len : ∀ vs H Q E, sp vs H Q E → vs.length = ps.length)
    (hbody : ∀ (f : Addr) (cdv : Value) (A : Around) (outer : List Env) (s : Shared) (H : Hp) (vs : List V) (Q : VK) (E : XK), Room k (A.deeper (envOfC x (defScope st) s.heap.objs.size f cdv)) → sp vs H Q E →
      ∃ t, PSs (cxOf CX0 P w K mg base N x (defScope st) f cdv A outer s H E).nox (defBody st) t ∧ t { nx := fun _ H' => Q .non H', rt := Q } (start N vs) H) : C8.Cal P w K mg base (k + 1) x sp [] := by
  obtain ⟨f, fd, FD, hm⟩ := F.ex
  refine ⟨f, fd, ps, [], FD.ok S len (fun cdv A outer s H vs Q E hr h => ?_), hm, FD.kp, FD.bindsN hb, .nil⟩
  obtain ⟨t, h1, h2⟩ := hbody f cdv A outer s H vs Q E hr h
  exact ⟨t, PSs.nox h1, h2⟩
theorem hu65 {A : Around} {k : Nat} (hr : Room k A) : A.units + 65 < cLine := by
  have := hr.un
  omega
end
/-! ### heaps -/
theorem same_new {H : Hp} {p : Addr} {o : HO} (h : H p = none) : Same H (upd H p o) := fun b x e => by
  rw [upd_ne (ne_of_none e h)]
  exact e
/-- a thing that is new since H0 is written -/
theorem same_own {H0 H : Hp} {l : Addr} {o : HO} (s : Same H0 H) (n : H0 l = none) : Same H0 (upd H l o) := fun b x e => by
  rw [upd_ne (ne_of_none e n)]
  exact s b x e
theorem upd_other {H : Hp} {l p : Addr} {o u u2 : HO} (hl : H l = some u) (hp : H p = some u2) (d : u2 ≠ u) : (upd H l o) p = some u2 := by
  rw [upd_ne (ne_of hp hl d)]
  exact hp
theorem tup_other {H : Hp} {l p : Addr} {o : HO} {xs ys : List V} (hl : H l = some (.lst xs)) (hp : H p = some (.tup ys)) : (upd H l o) p = some (.tup ys) := upd_other hl hp (fun z => by cases z)
abbrev sz2 : (2 : Nat) ≤ sizeLine := by decide
theorem szle {n : Nat} (h : n ≤ 1000000) : n ≤ sizeLine := Nat.le_trans h (by decide)
theorem szlt {n : Nat} (h : n ≤ 1000000) : n < sizeLine := Nat.lt_of_le_of_lt h (by decide)
/-! ### parts -/
def partOf (lead turn : List Int) (k : Nat) : Int := if k ≤ lead.length then lead.getD (k - 1) 0 else turn.getD ((k - 1 - lead.length) % turn.length) 0
/-- all are from 1 to 20 -/
def In20 (ns : List Int) : Prop := ∀ n ∈ ns, 1 ≤ n ∧ n ≤ 20
/-- a Slope with the parts a stands at x -/
structure SlAt (K : PySem.W.Frag) (H : Hp) (x : V) (a : Nat → Int) : Prop where
  ok : Ok a
  ex : ∃ (o dx th tl tt : Addr) (wd : Str) (lead turn : List Int), x = .ref o ∧ H o = some (.ins (CS K) dx [("held", .ref th), ("words", .str wd)]) ∧ H th = some (.tup [.ref tl, .ref tt]) ∧
    H tl = some (.tup (lead.map V.int)) ∧ H tt = some (.tup (turn.map V.int)) ∧ turn ≠ [] ∧ ∀ k, 1 ≤ k → a k = partOf lead turn k
theorem SlAt.same {K : PySem.W.Frag} {H H' : Hp} {x : V} {a : Nat → Int} (h : SlAt K H x a) (s : Same H H') : SlAt K H' x a := by
  obtain ⟨ok, o, dx, th, tl, tt, wd, lead, turn, e, h1, h2, h3, h4, r⟩ := h
  exact ⟨ok, o, dx, th, tl, tt, wd, lead, turn, e, s _ _ h1, s _ _ h2, s _ _ h3, s _ _ h4, r⟩
/-- a tuple of two ints -/
def PrAt (H : Hp) (x : V) (i j : Int) : Prop := ∃ p, x = .ref p ∧ H p = some (.tup [.int i, .int j])
theorem PrAt.same {H H' : Hp} {x : V} {i j : Int} (h : PrAt H x i j) (s : Same H H') : PrAt H' x i j := by
  obtain ⟨p, e, h⟩ := h
  exact ⟨p, e, s _ _ h⟩
/-- the items xs are pairs of ints, f by the place -/
def Prs (H : Hp) (xs : List V) (f g : Nat → Int) : Prop := ∀ i, i < xs.length → ∃ p, xs[i]? = some (.ref p) ∧ H p = some (.tup [.int (f i), .int (g i)])
theorem Prs.same {H H' : Hp} {xs : List V} {f g : Nat → Int} (h : Prs H xs f g) (s : Same H H') : Prs H' xs f g := fun i hi => by
  obtain ⟨p, e, h⟩ := h i hi
  exact ⟨p, e, s _ _ h⟩
theorem Prs.nil {H : Hp} {f g : Nat → Int} : Prs H [] f g := fun i hi => absurd hi (Nat.not_lt_zero i)
theorem Prs.push {H : Hp} {xs : List V} {f g : Nat → Int} {p : Addr} (h : Prs H xs f g) (e : H p = some (.tup [.int (f xs.length), .int (g xs.length)])) : Prs H (xs ++ [.ref p]) f g := fun i hi => by
  rw [List.length_append, List.length_singleton] at hi
  by_cases z : i < xs.length
  · obtain ⟨q, e1, e2⟩ := h i z
    exact ⟨q, by rw [List.getElem?_append_left z]; exact e1, e2⟩
  · have ei : i = xs.length := by omega
    subst ei
    exact ⟨p, by rw [List.getElem?_append_right (Nat.le_refl _), Nat.sub_self]; rfl, e⟩
/-- the list at l is written: the pairs stand -/
theorem Prs.other {H : Hp} {xs ys : List V} {f g : Nat → Int} {l : Addr} {o : HO} (h : Prs H xs f g) (hl : H l = some (.lst ys)) : Prs (upd H l o) xs f g := fun i hi => by
  obtain ⟨p, e, h⟩ := h i hi
  exact ⟨p, e, tup_other hl h⟩
theorem Prs.get {H : Hp} {xs : List V} {f g : Nat → Int} (h : Prs H xs f g) {i : Nat} (hi : i < xs.length) : ∃ p, xs[i]? = some (.ref p) ∧ H p = some (.tup [.int (f i), .int (g i)]) := h i hi
/-- a list of the neighbours from the index c on, n of them -/
structure CvAt (H : Hp) (l : Addr) (a : Nat → Int) (c n : Nat) : Prop where
  ex : ∃ xs : List V, H l = some (.lst xs) ∧ xs.length = n ∧ Prs H xs (fun i => T a (i + c)) (fun i => B a (i + c))
theorem CvAt.same {H H' : Hp} {l : Addr} {a : Nat → Int} {c n : Nat} (h : CvAt H l a c n) (s : Same H H') : CvAt H' l a c n := by
  obtain ⟨xs, h1, h2, h3⟩ := h
  exact ⟨xs, s _ _ h1, h2, h3.same s⟩
end K48
set_option Elab.async false
set_option linter.all false
set_option maxRecDepth 100000
set_option maxHeartbeats 4000000
/-! The checks, the parts. -/
namespace K48
open PySem PySem.Spec PyProof.Rows L2
theorem sc_is_integer : FnScope ["value"] ["value"] (defScope st_is_integer) := ⟨rfl, rfl, rfl, by decide +kernel, rfl, by decide +kernel, by decide +kernel⟩
theorem sc_is_between : FnScope ["value", "low", "high"] ["value", "low", "high"] (defScope st_is_between) := ⟨rfl, rfl, rfl, by decide +kernel, rfl, by decide +kernel, by decide +kernel⟩
theorem sc_check_slope : FnScope ["value"] ["value"] (defScope st_check_slope) := ⟨rfl, rfl, rfl, by decide +kernel, rfl, by decide +kernel, by decide +kernel⟩
theorem sc_check_bound : FnScope ["value"] ["value"] (defScope st_check_bound) := ⟨rfl, rfl, rfl, by decide +kernel, rfl, by decide +kernel, by decide +kernel⟩
theorem sc_check_side : FnScope ["value"] ["value"] (defScope st_check_side) := ⟨rfl, rfl, rfl, by decide +kernel, rfl, by decide +kernel, by decide +kernel⟩
theorem sc_part_at : FnScope ["slope", "many", "lead", "turn"] ["slope", "many"] (defScope st_part_at) := ⟨rfl, rfl, rfl, by decide +kernel, rfl, by decide +kernel, by decide +kernel⟩
section
variable {P : Program} {w : World} {K : PySem.W.Frag} {mg : Str → Option Value} {base : Heap}
def spIsInteger : Sp := fun vs H Q _ => ∃ i : Int, vs = [.int i] ∧ Q (.bl true) H
theorem cal_is_integer (Tx : Gm K mg) : C8.Cal P w K mg base 1 "is_integer" spIsInteger [] := by
  refine cal_of Tx.f_is_integer sc_is_integer (fun _ _ _ _ _ _ us hl => match us, hl with | [_], _ => rfl) (fun vs H Q E h => ?_) (fun f cdv A outer s H vs Q E hr h => ?_)
  · obtain ⟨i, rfl, _⟩ := h
    rfl
  · obtain ⟨i, rfl, q⟩ := h
    refine ⟨_, (pss_one (ps_ret (pe_and (pe_callB call_isi (by rfl) Tx.n_isinstance (by decide +kernel) (pa_cons (pv 0) (pa_cons (pe_bltn (v := .ty "int") (by rfl) Tx.n_int (by decide +kernel) rfl) pa_nil))) (pe_one (pe_not (pe_callB call_isi (by rfl) Tx.n_isinstance (by decide +kernel) (pa_cons (pv 0) (pa_cons (pe_bltn (v := .ty "bool") (by rfl) Tx.n_bool (by decide +kernel) rfl) pa_nil)))))))), ?_⟩
    refine ⟨_, rfl, _, _, _, _, true, rfl, .ty "int", .base (.int i), kit_ty (by decide +kernel), true, rfl, iteT ?_⟩
    exact ⟨_, rfl, _, _, _, _, false, rfl, .ty "bool", .base (.int i), kit_ty (by decide +kernel), false, rfl, q⟩
/-- asked where it holds -/
def spIsBetween : Sp := fun vs H Q _ => ∃ i lo hi : Int, vs = [.int i, .int lo, .int hi] ∧ lo ≤ i ∧ i ≤ hi ∧ Q (.bl true) H
theorem cal_is_between (Tx : Gm K mg) : C8.Cal P w K mg base 2 "is_between" spIsBetween [] := by
  have c_is_integer : C8.Cal P w K mg base 1 "is_integer" spIsInteger [] := cal_is_integer Tx
  refine cal_of Tx.f_is_between sc_is_between (fun _ _ _ _ _ _ us hl => match us, hl with | [_, _, _], _ => rfl) (fun vs H Q E h => ?_) (fun f cdv A outer s H vs Q E hr h => ?_)
  · obtain ⟨i, lo, hi, rfl, _⟩ := h
    rfl
  · obtain ⟨i, lo, hi, rfl, h1, h2, q⟩ := h
    refine ⟨_, (pss_one (ps_ret (pe_and (C8.pe_c c_is_integer hr (by decide) rfl (pa_cons (pv 0) pa_nil)) (pe_one (pe_chain op_le op_le (pv 1) (pv 0) (pv 2)))))), ?_⟩
    refine ⟨_, rfl, i, rfl, true, rfl, iteT ?_⟩
    refine ⟨_, rfl, _, rfl, _, _, rfl, rfl, _, rfl, ite2 (fun _ => ?_) (fun n => absurd (decide_eq_true h1) n)⟩
    refine ⟨_, rfl, _, _, rfl, rfl, ?_⟩
    show Q (.bl (decide (i ≤ hi))) H
    rw [decide_eq_true h2]
    exact q
def spCheckSlope (K : PySem.W.Frag) : Sp := fun vs H Q _ => ∃ (x : V) (a : Nat → Int), vs = [x] ∧ SlAt K H x a ∧ Q .non H
theorem cal_check_slope (Tx : Gm K mg) : C8.Cal P w K mg base 1 "check_slope" (spCheckSlope K) [] := by
  refine cal_of Tx.f_check_slope sc_check_slope (fun _ _ _ _ _ _ us hl => match us, hl with | [_], _ => rfl) (fun vs H Q E h => ?_) (fun f cdv A outer s H vs Q E hr h => ?_)
  · obtain ⟨x, a, rfl, _⟩ := h
    rfl
  · obtain ⟨x, a, rfl, ⟨_, o, dx, th, tl, tt, wd, lead, turn, rfl, h1, _⟩, q⟩ := h
    refine ⟨_, (pss_one (ps_if (pt_not (pt_val (pe_callB (C8.call_isC Tx.ins) (by rfl) Tx.n_isinstance (by decide +kernel) (pa_cons (pv 0) (pa_cons (pe_glob (v := .ref (CS K)) rfl Tx.mgC rfl) pa_nil))))) (pss_one ps_never) pss_nil)), ?_⟩
    refine ⟨_, rfl, o, dx, _, rfl, h1, true, rfl, ?_⟩
    exact iteF q
def spCheckBound : Sp := fun vs H Q _ => ∃ i : Int, vs = [.int i] ∧ 1 ≤ i ∧ i ≤ 10 ^ 30 ∧ Q .non H
theorem cal_check_bound (Tx : Gm K mg) : C8.Cal P w K mg base 3 "check_bound" spCheckBound [] := by
  have c_is_between : C8.Cal P w K mg base 2 "is_between" spIsBetween [] := cal_is_between Tx
  refine cal_of Tx.f_check_bound sc_check_bound (fun _ _ _ _ _ _ us hl => match us, hl with | [_], _ => rfl) (fun vs H Q E h => ?_) (fun f cdv A outer s H vs Q E hr h => ?_)
  · obtain ⟨i, rfl, _⟩ := h
    rfl
  · obtain ⟨i, rfl, h1, h2, q⟩ := h
    refine ⟨_, (pss_one (ps_if (pt_not (pt_val (C8.pe_c c_is_between hr (by decide) rfl (pa_cons (pv 0) (pa_cons pe_int (pa_cons (C8.pe_gc rfl Tx.cNumber) pa_nil)))))) (pss_one ps_never) pss_nil)), ?_⟩
    exact ⟨_, rfl, i, 1, 10 ^ 30, rfl, h1, h2, true, rfl, iteF q⟩
/-- a side's word -/
def sideW (up : Bool) : Str := if up then "above" else "below"
def spCheckSide : Sp := fun vs H Q _ => ∃ up : Bool, vs = [.str (sideW up)] ∧ ∀ H', Same H H' → Q .non H'
theorem cal_check_side (Tx : Gm K mg) : C8.Cal P w K mg base 1 "check_side" spCheckSide [] := by
  refine cal_of Tx.f_check_side sc_check_side (fun _ _ _ _ _ _ us hl => match us, hl with | [_], _ => rfl) (fun vs H Q E h => ?_) (fun f cdv A outer s H vs Q E hr h => ?_)
  · obtain ⟨i, rfl, _⟩ := h
    rfl
  · obtain ⟨up, rfl, q⟩ := h
    refine ⟨_, (pss_one (ps_if (PW.pt (pw_or (pt_not (pt_val (pe_callB call_isi (by rfl) Tx.n_isinstance (by decide +kernel) (pa_cons (pv 0) (pa_cons (pe_bltn (v := .ty "str") (by rfl) Tx.n_str (by decide +kernel) rfl) pa_nil))))) (pw_or1 (pt_cmpR op_notIn_seq (pv 0) (pe_tup (pa_cons pe_str (pa_cons pe_str pa_nil))) (by rfl))))) (pss_one ps_never) pss_nil)), ?_⟩
    refine ⟨_, rfl, _, _, _, _, true, rfl, .ty "str", .base (.str _), kit_ty (by decide +kernel), true, rfl, iteF ?_⟩
    refine ⟨_, rfl, sz2, fun p np => ⟨p, _, rfl, .inr (SqT.of upd_same), rfl, rfl, _, rfl, ?_⟩⟩
    have e : (if true = true then !inV (V.str (sideW up)) [V.str "below", V.str "above"] else inV (V.str (sideW up)) [V.str "below", V.str "above"]) = false := by
      cases up <;> decide +kernel
    rw [e]
    exact iteF (q _ (same_new np))
def spPartAt (K : PySem.W.Frag) : Sp := fun vs H Q _ => ∃ (x : V) (a : Nat → Int) (k : Nat), vs = [x, .int k] ∧ SlAt K H x a ∧ 1 ≤ k ∧ Q (.int (a k)) H
theorem cal_part_at (Tx : Gm K mg) : C8.Cal P w K mg base 1 "part_at" (spPartAt K) [] := by
  refine cal_of Tx.f_part_at sc_part_at (fun _ _ _ _ _ _ us hl => match us, hl with | [_, _], _ => rfl) (fun vs H Q E h => ?_) (fun f cdv A outer s H vs Q E hr h => ?_)
  · obtain ⟨x, a, k, rfl, _⟩ := h
    rfl
  · obtain ⟨x, a, k, rfl, ⟨_, o, dx, th, tl, tt, wd, lead, turn, rfl, h1, h2, h3, h4, ne, he⟩, hk, q⟩ := h
    refine ⟨_, (pss_cons (ps_asg (pe_fld (pv 0) rfl) (pg_tup rfl (pgs_cons (pg_name (i := 2) sc_part_at.nd rfl (Or.inl rfl)) (pgs_cons (pg_name (i := 3) sc_part_at.nd rfl (Or.inl rfl)) pgs_nil))))
      (pss_one (ps_ret (pe_ifExp (pt_cmpR op_le (pv 1) (pe_callB call_len_seq (by rfl) Tx.n_len (by decide +kernel) (pa_cons (pv 2) pa_nil)) (nomark _)) (pe_ix ix_tup (pv 2) (pe_op op_sub (pv 1) pe_int) (fun _ _ => rfl)) (pe_ix ix_tup (pv 3) (pe_op op_mod (pe_op op_sub (pe_op op_sub (pv 1) pe_int) (pe_callB call_len_seq (by rfl) Tx.n_len (by decide +kernel) (pa_cons (pv 2) pa_nil))) (pe_callB call_len_seq (by rfl) Tx.n_len (by decide +kernel) (pa_cons (pv 3) pa_nil))) (fun _ _ => rfl)))))), ?_⟩
    have lk : List.lookup ("held" : Str) [(("held" : Str), V.ref th), (("words" : Str), V.str wd)] = some (.ref th) := by simp [List.lookup]
    refine ⟨_, rfl, o, CS K, dx, _, _, rfl, h1, Tx.ins.cl, Tx.nHeld, lk, th, _, rfl, SqT.of h2, rfl, _, _, rfl, _, _, rfl, rfl, ?_⟩
    refine ⟨_, rfl, _, rfl, tl, _, rfl, .inr (SqT.of h3), _, _, rfl, rfl, _, rfl, ?_⟩
    rw [List.length_map]
    have hv := he k hk
    refine ite2 (fun c => ?_) (fun c => ?_)
    · have c1 : (k : Int) ≤ (lead.length : Int) := of_decide_eq_true c
      have c2 : k ≤ lead.length := by omega
      have l1 : k - 1 < lead.length := by omega
      have ev : a k = lead[k - 1] := by
        rw [hv]
        unfold partOf
        rw [if_pos c2, List.getD_eq_getElem?_getD, List.getElem?_eq_getElem l1]
        rfl
      refine ⟨_, rfl, _, rfl, _, _, rfl, rfl, tl, _, _, .int (a k), rfl, rfl, SqT.of h3, at_of (j := k - 1) (by omega) ?_, q⟩
      rw [List.getElem?_map, List.getElem?_eq_getElem l1, ev]
      rfl
    · have c1 : ¬ ((k : Int) ≤ (lead.length : Int)) := fun z => c (decide_eq_true z)
      have c2 : ¬ k ≤ lead.length := by omega
      have n0 : 0 < turn.length := List.length_pos_iff.mpr ne
      have l1 : (k - 1 - lead.length) % turn.length < turn.length := Nat.mod_lt _ n0
      have ev : a k = turn[(k - 1 - lead.length) % turn.length] := by
        rw [hv]
        unfold partOf
        rw [if_neg c2, List.getD_eq_getElem?_getD, List.getElem?_eq_getElem l1]
        rfl
      refine ⟨_, rfl, _, rfl, _, _, rfl, rfl, _, rfl, tl, _, rfl, .inr (SqT.of h3), _, _, rfl, rfl, _, rfl, tt, _, rfl, .inr (SqT.of h4), _, _, rfl, rfl, ?_, tt, _, _, .int (a k), rfl, rfl, SqT.of h4, at_of (j := (k - 1 - lead.length) % turn.length) ?_ ?_, q⟩
      · show (0 : Int) < ((turn.map V.int).length : Int)
        rw [List.length_map]
        omega
      · rw [List.length_map, List.length_map]
        have e : (k : Int) - 1 - (lead.length : Int) = ((k - 1 - lead.length : Nat) : Int) := by omega
        rw [e]
        rfl
      · rw [List.getElem?_map, List.getElem?_eq_getElem l1, ev]
        rfl
end
end K48
set_option Elab.async false
set_option linter.all false
set_option maxRecDepth 100000
set_option maxHeartbeats 4000000
/-! A slope is made: its checks, its shortest parts, its text. -/
namespace K48
open PySem PySem.Spec PyProof.Rows L2
/-! ### plain lists -/
theorem getD_some {α : Type} {xs : List α} {i : Nat} {d x : α} (h : xs[i]? = some x) : xs.getD i d = x := by
  rw [List.getD_eq_getElem?_getD, h]
  rfl
theorem rep_get {xs : List Int} (hx : 0 < xs.length) : ∀ q i, i < q * xs.length → (List.replicate q xs).flatten.getD i 0 = xs.getD (i % xs.length) 0
  | 0, i, h => by
    rw [Nat.zero_mul] at h
    exact absurd h (Nat.not_lt_zero i)
  | q + 1, i, h => by
    rw [List.replicate_succ, List.flatten_cons, List.getD_eq_getElem?_getD]
    by_cases c : i < xs.length
    · rw [List.getElem?_append_left c, Nat.mod_eq_of_lt c, List.getD_eq_getElem?_getD]
    · have c2 : xs.length ≤ i := Nat.le_of_not_lt c
      rw [List.getElem?_append_right c2, ← List.getD_eq_getElem?_getD, rep_get hx q (i - xs.length) (by rw [Nat.succ_mul] at h; omega), Nat.mod_eq_sub_mod c2]
/-- another loop of the same endless row -/
structure SameLoop (ns ms : List Int) : Prop where
  ne : ms ≠ []
  le : ms.length ≤ ns.length
  row : ∀ j : Nat, ms.getD (j % ms.length) 0 = ns.getD (j % ns.length) 0
  in20 : In20 ns → In20 ms
theorem SameLoop.refl {ns : List Int} (h : ns ≠ []) : SameLoop ns ns := ⟨h, Nat.le_refl _, fun _ => rfl, fun z => z⟩
theorem loop_take {ns : List Int} {s q : Nat} (h0 : 0 < s) (hs : s ≤ ns.length) (hd : ns.length % s = 0) (e : (List.replicate q (ns.take s)).flatten = ns) : SameLoop ns (ns.take s) := by
  have l1 : (ns.take s).length = s := by
    rw [List.length_take]
    omega
  have l2 : ns.length = q * s := by
    have z : ((List.replicate q (ns.take s)).flatten).length = ns.length := by rw [e]
    rw [List.length_flatten, List.map_replicate, List.sum_replicate_nat, l1] at z
    exact z.symm
  refine ⟨fun z => ?_, by omega, fun j => ?_, fun z n hn => z n (List.mem_of_mem_take hn)⟩
  · rw [z] at l1
    exact absurd l1 (by show ¬ 0 = s; omega)
  · have n0 : 0 < ns.length := by omega
    have jl : j % ns.length < q * (ns.take s).length := by
      rw [l1, ← l2]
      exact Nat.mod_lt _ n0
    have g := rep_get (xs := ns.take s) (by omega) q (j % ns.length) jl
    rw [e, l1] at g
    rw [l1, g, Nat.mod_mod_of_dvd j (Nat.dvd_of_mod_eq_zero hd)]
/-- the same parts, no longer -/
structure SameParts (l t l' t' : List Int) : Prop where
  ne : t' ≠ []
  le : l'.length ≤ l.length
  le2 : t'.length ≤ t.length
  row : ∀ k, 1 ≤ k → partOf l' t' k = partOf l t k
  in20 : In20 l → In20 t → In20 l' ∧ In20 t'
theorem SameParts.of_loop {l t t' : List Int} (h : SameLoop t t') : SameParts l t l t' := by
  refine ⟨h.ne, Nat.le_refl _, h.le, fun k hk => ?_, fun z1 z2 => ⟨z1, h.in20 z2⟩⟩
  unfold partOf
  by_cases c : k ≤ l.length
  · rw [if_pos c, if_pos c]
  · rw [if_neg c, if_neg c]
    exact h.row _
theorem partOf_turn (l t : List Int) (c : Int) (k : Nat) (hk : 1 ≤ k) : partOf l (c :: t) k = partOf (l ++ [c]) (t ++ [c]) k := by
  have n1 : (l ++ [c]).length = l.length + 1 := by rw [List.length_append]; rfl
  have n2 : (t ++ [c]).length = t.length + 1 := by rw [List.length_append]; rfl
  have n3 : (c :: t).length = t.length + 1 := rfl
  unfold partOf
  rw [n1, n2, n3]
  by_cases h1 : k ≤ l.length
  · rw [if_pos h1, if_pos (by omega), List.getD_eq_getElem?_getD, List.getD_eq_getElem?_getD, List.getElem?_append_left (by omega)]
  · rw [if_neg h1]
    by_cases h2 : k ≤ l.length + 1
    · have e : k = l.length + 1 := by omega
      subst e
      rw [if_pos (Nat.le_refl _)]
      have e1 : l.length + 1 - 1 - l.length = 0 := by omega
      have e2 : l.length + 1 - 1 = l.length := by omega
      rw [e1, e2, Nat.zero_mod, List.getD_eq_getElem?_getD, List.getD_eq_getElem?_getD, List.getElem?_append_right (Nat.le_refl _), Nat.sub_self]
      rfl
    · rw [if_neg h2]
      obtain ⟨j, ej⟩ : ∃ j, k - 1 - l.length = j + 1 := ⟨k - 1 - l.length - 1, by omega⟩
      have ej2 : k - 1 - (l.length + 1) = j := by omega
      rw [ej, ej2]
      have m0 : j % (t.length + 1) < t.length + 1 := Nat.mod_lt _ (Nat.succ_pos _)
      rw [List.getD_eq_getElem?_getD, List.getD_eq_getElem?_getD]
      by_cases h3 : j % (t.length + 1) = t.length
      · have e3 : (j + 1) % (t.length + 1) = 0 := by
          rw [Nat.add_mod, h3]
          by_cases t0 : t.length = 0
          · rw [t0]
          · rw [Nat.mod_eq_of_lt (a := 1) (by omega), Nat.mod_self]
        rw [e3, h3, List.getElem?_append_right (Nat.le_refl _), Nat.sub_self]
        rfl
      · have e3 : (j + 1) % (t.length + 1) = j % (t.length + 1) + 1 := by
          rw [Nat.add_mod]
          rw [Nat.mod_eq_of_lt (a := 1) (by omega)]
          exact Nat.mod_eq_of_lt (by omega)
        rw [e3, List.getElem?_append_left (by omega), List.getElem?_cons_succ]
theorem SameParts.turn {l t l0 t0 : List Int} {c : Int} (h : SameParts l t (l0 ++ [c]) (t0 ++ [c])) : SameParts l t l0 (c :: t0) := by
  have e1 := h.le
  have e2 := h.le2
  rw [List.length_append] at e1 e2
  refine ⟨fun z => (nomatch z), by omega, by show t0.length + 1 ≤ _; simpa using e2, fun k hk => ?_, fun z1 z2 => ?_⟩
  · rw [partOf_turn l0 t0 c k hk]
    exact h.row k hk
  · obtain ⟨a, b⟩ := h.in20 z1 z2
    refine ⟨fun n hn => a n (List.mem_append_left _ hn), fun n hn => ?_⟩
    rcases List.mem_cons.mp hn with e | hn
    · exact b n (by rw [e]; exact List.mem_append_right _ List.mem_cons_self)
    · exact b n (List.mem_append_left _ hn)
theorem ok_of {l t : List Int} (h1 : In20 l) (h2 : In20 t) (ne : t ≠ []) : Ok (partOf l t) := fun k hk => by
  unfold partOf
  by_cases c : k ≤ l.length
  · have l1 : k - 1 < l.length := by omega
    rw [if_pos c, getD_some (List.getElem?_eq_getElem l1)]
    exact h1 _ (List.getElem_mem l1)
  · have l1 : (k - 1 - l.length) % t.length < t.length := Nat.mod_lt _ (List.length_pos_iff.mpr ne)
    rw [if_neg c, getD_some (List.getElem?_eq_getElem l1)]
    exact h2 _ (List.getElem_mem l1)
/-! ### slices, equality of ints -/
theorem cut_to {xs : List V} {s : Nat} (h : s ≤ xs.length) : cutV xs none (some (s : Int)) = xs.take s := by
  unfold cutV
  rw [HT.sIx_none, HT.sIx_nat, Nat.min_eq_left h]
  rfl
theorem not_whole {n s : Nat} (h : s < n) : ¬ (HT.sIx n 0 none = 0 ∧ HT.sIx n n (some (s : Int)) = n) := fun z => by
  have z2 := z.2
  rw [HT.sIx_nat] at z2
  omega
theorem sIx_last (n : Nat) : HT.sIx n n (some (-1)) = n - 1 := by
  show (if (-1 : Int) < 0 then ((-1 : Int) + (n : Int)).toNat else min (-1 : Int).toNat n) = n - 1
  rw [if_pos (by decide)]
  omega
theorem cut_last {xs : List V} : cutV xs none (some (-1)) = xs.dropLast := by
  unfold cutV
  rw [HT.sIx_none, sIx_last, List.dropLast_eq_take]
  rfl
theorem not_whole_last {n : Nat} (h : 0 < n) : ¬ (HT.sIx n 0 none = 0 ∧ HT.sIx n n (some (-1)) = n) := fun z => by
  have z2 := z.2
  rw [sIx_last] at z2
  omega
abbrev dI (ns : List Int) : List PyData := ns.map PyData.int
theorem dp_ints (K : PySem.W.Frag) (H : Hp) : ∀ ns : List Int, DpAll K H (ns.map V.int) (dI ns)
  | [] => .nil
  | n :: ns => .cons (.int n) (dp_ints K H ns)
theorem lay_ints : ∀ ns : List Int, PyData.canLayAll0 (dI ns) = true
  | [] => rfl
  | n :: ns => by
    show (true && PyData.canLayAll0 (dI ns)) = true
    rw [lay_ints ns]
    rfl
theorem depth_ints : ∀ ns : List Int, PyData.depthAll (dI ns) = 0
  | [] => rfl
  | n :: ns => by
    show max 0 (PyData.depthAll (dI ns)) = 0
    rw [depth_ints ns]
    rfl
theorem shaped_tup (ns : List Int) : SeqAt.shaped (.tuple (dI ns)) = true := by
  unfold SeqAt.shaped
  have e1 : PyData.canLay0 (.tuple (dI ns)) = true := lay_ints ns
  have e2 : PyData.depth (.tuple (dI ns)) = 1 := by
    show PyData.depthAll (dI ns) + 1 = 1
    rw [depth_ints]
  rw [e1, e2]
  rfl
theorem eqv_ints : ∀ ns ms : List Int, PyData.eqvAll (dI ns) (dI ms) = decide (ns = ms)
  | [], [] => rfl
  | [], _ :: _ => rfl
  | _ :: _, [] => rfl
  | n :: ns, m :: ms => by
    show ((n == m) && PyData.eqvAll (dI ns) (dI ms)) = _
    rw [eqv_ints ns ms]
    by_cases h1 : n = m
    · by_cases h2 : ns = ms
      · rw [decide_eq_true h2, decide_eq_true (by rw [h1, h2]), h1]
        simp
      · rw [decide_eq_false h2, decide_eq_false (fun z => h2 (List.cons.inj z).2), Bool.and_false]
    · rw [decide_eq_false (fun z => h1 (List.cons.inj z).1)]
      simp [h1]
theorem eqv_tups (ns ms : List Int) : PyData.eqv (.tuple (dI ns)) (.tuple (dI ms)) = decide (ns = ms) := eqv_ints ns ms
theorem map_get {ns : List Int} {i : Nat} {x : V} (h : (ns.map V.int)[i]? = some x) : ∃ n, ns[i]? = some n ∧ x = .int n := by
  rw [List.getElem?_map] at h
  cases e : ns[i]? with
  | none =>
    rw [e] at h
    cases h
  | some n =>
    rw [e] at h
    exact ⟨n, rfl, (Option.some.inj h).symm⟩
theorem take_map (ns : List Int) (s : Nat) : (ns.map V.int).take s = (ns.take s).map V.int := (List.map_take).symm
theorem flat_map (ns : List Int) (q : Nat) : (List.replicate q (ns.map V.int)).flatten = ((List.replicate q ns).flatten).map V.int := by
  rw [List.map_flatten, List.map_replicate]
theorem sc_check_lead : FnScope ["lead", "index", "part"] ["lead"] (defScope st_check_lead) := ⟨rfl, rfl, rfl, by decide +kernel, rfl, by decide +kernel, by decide +kernel⟩
theorem sc_check_loop : FnScope ["turn", "index", "part"] ["turn"] (defScope st_check_loop) := ⟨rfl, rfl, rfl, by decide +kernel, rfl, by decide +kernel, by decide +kernel⟩
theorem sc_shortest_loop : FnScope ["turn", "size"] ["turn"] (defScope st_shortest_loop) := ⟨rfl, rfl, rfl, by decide +kernel, rfl, by decide +kernel, by decide +kernel⟩
theorem sc_shortest : FnScope ["lead", "turn"] ["lead", "turn"] (defScope st_shortest) := ⟨rfl, rfl, rfl, by decide +kernel, rfl, by decide +kernel, by decide +kernel⟩
section
variable {P : Program} {w : World} {K : PySem.W.Frag} {mg : Str → Option Value} {base : Heap}
def spCheckLead : Sp := fun vs H Q _ => ∃ (p : Addr) (ns : List Int), vs = [.ref p] ∧ H p = some (.tup (ns.map V.int)) ∧ ns.length ≤ 8 ∧ In20 ns ∧ ∀ H', Same H H' → Q .non H'
theorem cal_check_lead (Tx : Gm K mg) : C8.Cal P w K mg base 3 "check_lead" spCheckLead [] := by
  have c_is_between : C8.Cal P w K mg base 2 "is_between" spIsBetween [] := cal_is_between Tx
  refine cal_of Tx.f_check_lead sc_check_lead (fun _ _ _ _ _ _ us hl => match us, hl with | [_], _ => rfl) (fun vs H Q E h => ?_) (fun f cdv A outer s H vs Q E hr h => ?_)
  · obtain ⟨p, ns, rfl, _⟩ := h
    rfl
  · obtain ⟨p, ns, rfl, hp, hl, hi, q⟩ := h
    refine ⟨_, (pss_cons (ps_if (pt_not (pt_val (pe_callB call_isi (by rfl) Tx.n_isinstance (by decide +kernel) (pa_cons (pv 0) (pa_cons (pe_bltn (v := .ty "tuple") (by rfl) Tx.n_tuple (by decide +kernel) rfl) pa_nil))))) (pss_one ps_never) pss_nil)
      (pss_one (ps_for PassesOwn.never rfl (pi_enumT (by rfl) Tx.n_enumerate (pa_cons (pv 0) pa_nil)) (pg_tup rfl (pgs_cons (pg_name (i := 1) sc_check_lead.nd rfl (Or.inl rfl)) (pgs_cons (pg_name (i := 2) sc_check_lead.nd rfl (Or.inl rfl)) pgs_nil))) (pss_one (ps_if (PW.pt (pw_or (pt_cmpR op_eq (pv 1) (C8.pe_gc rfl Tx.cLead) (nomark _)) (pw_or1 (pt_not (pt_val (C8.pe_c c_is_between hr (by decide) rfl (pa_cons (pv 2) (pa_cons pe_int (pa_cons (C8.pe_gc rfl Tx.cPart) pa_nil))))))))) (pss_one ps_never) pss_nil))))), ?_⟩
    refine ⟨_, rfl, _, _, _, _, true, rfl, .ty "tuple", .base (.tup hp), kit_ty (by decide +kernel), true, rfl, iteF ?_⟩
    refine ⟨_, rfl, p, _, rfl, SqT.of hp, for_enumT (K := K) (a := p) (xs := ns.map V.int) (fun i σ H' => ∃ v1 v2, σ = [some (.ref p), v1, v2] ∧ Same H H') ⟨none, none, rfl, Same.refl H⟩ (fun i σ H' _ ⟨_, _, _, s1⟩ => SqT.of (s1 _ _ hp)) ?_ rfl ?_⟩
    · rintro i x Tp σ H' hx ⟨v1, v2, rfl, s1⟩ nT
      obtain ⟨n, hn, rfl⟩ := map_get hx
      have hb := hi n (List.mem_of_getElem? hn)
      have il : i < ns.length := (List.getElem?_eq_some_iff.mp hn).1
      refine ⟨_, _, rfl, _, _, rfl, rfl, ?_⟩
      refine ⟨_, rfl, rfl, _, rfl, ite2 (fun e => ?_) (fun _ => ⟨_, rfl, n, 1, 20, rfl, hb.1, hb.2, true, rfl, iteF ?_⟩)⟩
      · have e1 : (i : Int) = 8 := V.int.inj (of_decide_eq_true e)
        omega
      · exact ⟨_, _, rfl, s1.trans (same_new nT)⟩
    · rintro σ H' ⟨v1, v2, rfl, s1⟩
      exact q H' s1
def spCheckLoop : Sp := fun vs H Q _ => ∃ (p : Addr) (ns : List Int), vs = [.ref p] ∧ H p = some (.tup (ns.map V.int)) ∧ ns.length ≤ 12 ∧ ns ≠ [] ∧ In20 ns ∧ ∀ H', Same H H' → Q .non H'
theorem cal_check_loop (Tx : Gm K mg) : C8.Cal P w K mg base 3 "check_loop" spCheckLoop [] := by
  have c_is_between : C8.Cal P w K mg base 2 "is_between" spIsBetween [] := cal_is_between Tx
  refine cal_of Tx.f_check_loop sc_check_loop (fun _ _ _ _ _ _ us hl => match us, hl with | [_], _ => rfl) (fun vs H Q E h => ?_) (fun f cdv A outer s H vs Q E hr h => ?_)
  · obtain ⟨p, ns, rfl, _⟩ := h
    rfl
  · obtain ⟨p, ns, rfl, hp, hl, ne, hi, q⟩ := h
    refine ⟨_, (pss_cons (ps_if (PW.pt (pw_or (pt_not (pt_val (pe_callB call_isi (by rfl) Tx.n_isinstance (by decide +kernel) (pa_cons (pv 0) (pa_cons (pe_bltn (v := .ty "tuple") (by rfl) Tx.n_tuple (by decide +kernel) rfl) pa_nil))))) (pw_or1 (pt_cmpR (op_eqD hr.units) (pv 0) (pe_tup pa_nil) (nomark _))))) (pss_one ps_never) pss_nil)
      (pss_one (ps_for PassesOwn.never rfl (pi_enumT (by rfl) Tx.n_enumerate (pa_cons (pv 0) pa_nil)) (pg_tup rfl (pgs_cons (pg_name (i := 1) sc_check_loop.nd rfl (Or.inl rfl)) (pgs_cons (pg_name (i := 2) sc_check_loop.nd rfl (Or.inl rfl)) pgs_nil))) (pss_one (ps_if (PW.pt (pw_or (pt_cmpR op_eq (pv 1) (C8.pe_gc rfl Tx.cLoop) (nomark _)) (pw_or1 (pt_not (pt_val (C8.pe_c c_is_between hr (by decide) rfl (pa_cons (pv 2) (pa_cons pe_int (pa_cons (C8.pe_gc rfl Tx.cPart) pa_nil))))))))) (pss_one ps_never) pss_nil))))), ?_⟩
    refine ⟨_, rfl, _, _, _, _, true, rfl, .ty "tuple", .base (.tup hp), kit_ty (by decide +kernel), true, rfl, iteF ?_⟩
    refine ⟨_, rfl, Nat.zero_le _, fun z nz => ⟨.tuple (dI ns), .tuple (dI []), .tup (SqT.of (same_new nz _ _ hp)) (dp_ints _ _ _), .tup (SqT.of upd_same) .nil, shaped_tup _, shaped_tup [], _, rfl, ?_⟩⟩
    rw [eqv_tups, decide_eq_false ne]
    refine iteF ?_
    have s0 : Same H (upd H z (.tup [])) := same_new nz
    refine ⟨_, rfl, p, _, rfl, SqT.of (s0 _ _ hp), for_enumT (K := K) (a := p) (xs := ns.map V.int) (fun i σ H' => ∃ v1 v2, σ = [some (.ref p), v1, v2] ∧ Same H H') ⟨none, none, rfl, s0⟩ (fun i σ H' _ ⟨_, _, _, s1⟩ => SqT.of (s1 _ _ hp)) ?_ rfl ?_⟩
    · rintro i x Tp σ H' hx ⟨v1, v2, rfl, s1⟩ nT
      obtain ⟨n, hn, rfl⟩ := map_get hx
      have hb := hi n (List.mem_of_getElem? hn)
      have il : i < ns.length := (List.getElem?_eq_some_iff.mp hn).1
      refine ⟨_, _, rfl, _, _, rfl, rfl, ?_⟩
      refine ⟨_, rfl, rfl, _, rfl, ite2 (fun e => ?_) (fun _ => ⟨_, rfl, n, 1, 20, rfl, hb.1, hb.2, true, rfl, iteF ?_⟩)⟩
      · have e1 : (i : Int) = 12 := V.int.inj (of_decide_eq_true e)
        omega
      · exact ⟨_, _, rfl, s1.trans (same_new nT)⟩
    · rintro σ H' ⟨v1, v2, rfl, s1⟩
      exact q H' s1
def spShortestLoop : Sp := fun vs H Q _ => ∃ (p : Addr) (ns : List Int), vs = [.ref p] ∧ H p = some (.tup (ns.map V.int)) ∧ ns.length ≤ 12 ∧ ns ≠ [] ∧
  ∀ H' p' ms, Same H H' → H' p' = some (.tup (ms.map V.int)) → SameLoop ns ms → Q (.ref p') H'
theorem cal_shortest_loop (Tx : Gm K mg) : C8.Cal P w K mg base 1 "shortest_loop" spShortestLoop [] := by
  refine cal_of Tx.f_shortest_loop sc_shortest_loop (fun _ _ _ _ _ _ us hl => match us, hl with | [_], _ => rfl) (fun vs H Q E h => ?_) (fun f cdv A outer s H vs Q E hr h => ?_)
  · obtain ⟨p, ns, rfl, _⟩ := h
    rfl
  · obtain ⟨p, ns, rfl, hp, hl, ne, q⟩ := h
    refine ⟨_, (pss_cons (ps_for PassesOwn.never rfl (pi_range2 (by rfl) Tx.n_range (pa_cons pe_int (pa_cons (pe_callB call_len_seq (by rfl) Tx.n_len (by decide +kernel) (pa_cons (pv 0) pa_nil)) pa_nil))) (pg_name (i := 1) sc_shortest_loop.nd rfl (Or.inl rfl)) (pss_one (ps_if (PW.pt (pw_and (pt_cmpR op_eq (pe_op op_mod (pe_callB call_len_seq (by rfl) Tx.n_len (by decide +kernel) (pa_cons (pv 0) pa_nil)) (pv 1)) pe_int (nomark _)) (pw_and1 (pt_cmpR (op_eqD hr.units) (pe_op op_repT (pe_slice sl_tupA (pv 0) po_none (po_some (pv 1))) (pe_op op_fdiv (pe_callB call_len_seq (by rfl) Tx.n_len (by decide +kernel) (pa_cons (pv 0) pa_nil)) (pv 1))) (pv 0) (nomark _))))) (pss_one (ps_ret (pe_slice sl_tupA (pv 0) po_none (po_some (pv 1))))) pss_nil)))
      (pss_one (ps_ret (pv 0)))), ?_⟩
    have hlen : (ns.map V.int).length = ns.length := List.length_map ..
    refine ⟨_, rfl, p, _, rfl, .inr (SqT.of hp), 1, _, rfl, ?_, ?_⟩
    · rw [hlen]
      refine ⟨by decide, by decide, ?_, ?_⟩ <;> omega
    rw [hlen]
    refine for_range (lo := 1) (n := ((ns.length : Int) - 1).toNat) (fun i σ H' => ∃ v1, σ = [some (.ref p), v1] ∧ Same H H') ⟨none, rfl, Same.refl H⟩ ?_ ?_
    · rintro i σ H' hi ⟨v1, rfl, s1⟩
      have hp1 := s1 _ _ hp
      have il : i + 1 < ns.length := by omega
      have es : (1 : Int) + (i : Int) = ((i + 1 : Nat) : Int) := by omega
      rw [es]
      refine ⟨_, rfl, p, _, rfl, .inr (SqT.of hp1), _, rfl, _, _, rfl, rfl, (by show (0 : Int) < ((i + 1 : Nat) : Int); omega), rfl, _, rfl, ite2 (fun e => ?_) (fun _ => iteF ⟨_, rfl, s1⟩)⟩
      have e1 : (((ns.map V.int).length : Nat) : Int) % ((i + 1 : Nat) : Int) = 0 := V.int.inj (of_decide_eq_true e)
      rw [hlen] at e1
      have e2 : ns.length % (i + 1) = 0 := by
        have z : (((ns.length % (i + 1) : Nat)) : Int) = 0 := by rw [← e1]; rfl
        omega
      obtain ⟨k, ek⟩ := Nat.dvd_of_mod_eq_zero e2
      have k2 : 2 ≤ k := by
        refine Nat.le_of_not_lt fun z => ?_
        have z2 : k = 0 ∨ k = 1 := by omega
        rcases z2 with z2 | z2
        · rw [z2, Nat.mul_zero] at ek
          omega
        · rw [z2, Nat.mul_one] at ek
          omega
      have ekd : ((ns.length : Nat) : Int) / ((i + 1 : Nat) : Int) = (k : Int) := by
        have z : ns.length / (i + 1) = k := by
          rw [ek]
          exact Nat.mul_div_cancel_left k (Nat.succ_pos i)
        rw [← z]
        rfl
      have kl : k ≤ ns.length := by
        rw [ek]
        exact Nat.le_mul_of_pos_left k (Nat.succ_pos i)
      refine ⟨_, rfl, _, rfl, _, rfl, p, _, rfl, SqT.of hp1, fun z => absurd z (not_whole (by rw [hlen]; exact il)), fun _ a na => ?_⟩
      rw [cut_to (by rw [hlen]; omega), take_map]
      have sa : Same H' (upd H' a (.tup ((ns.take (i + 1)).map V.int))) := same_new na
      have tl : (ns.take (i + 1)).length = i + 1 := by
        rw [List.length_take]
        omega
      refine ⟨_, rfl, p, _, rfl, .inr (SqT.of (sa _ _ hp1)), _, rfl, _, _, rfl, rfl, ⟨by omega, by omega⟩, ?_⟩
      refine ⟨a, k, _, rfl, congrArg V.int (by rw [hlen]; exact ekd), SqT.of upd_same, ?_, by omega, by omega, by rw [List.length_map]; omega, fun b nb => ?_⟩
      · intro z
        have z2 := congrArg List.length z
        rw [List.length_map, tl] at z2
        exact absurd z2 (Nat.succ_ne_zero i)
      rw [Int.toNat_natCast, flat_map]
      have sb : Same H' (upd (upd H' a (.tup ((ns.take (i + 1)).map V.int))) b (.tup ((List.replicate k (ns.take (i + 1))).flatten.map V.int))) := sa.trans (same_new nb)
      refine ⟨_, rfl, .tuple (dI _), .tuple (dI ns), .tup (SqT.of upd_same) (dp_ints _ _ _), .tup (SqT.of (sb _ _ hp1)) (dp_ints _ _ _), shaped_tup _, shaped_tup _, _, rfl, ?_⟩
      rw [eqv_tups]
      refine ite2 (fun e3 => ?_) (fun _ => ⟨_, rfl, s1.trans sb⟩)
      have e4 := of_decide_eq_true e3
      refine ⟨_, rfl, _, rfl, _, rfl, p, _, rfl, SqT.of (sb _ _ hp1), fun z => absurd z (not_whole (by rw [hlen]; exact il)), fun _ c nc => ?_⟩
      rw [cut_to (by rw [hlen]; omega), take_map]
      exact q _ c _ ((s1.trans sb).trans (same_new nc)) upd_same (loop_take (Nat.succ_pos i) (by omega) e2 e4)
    · rintro σ H' ⟨v1, rfl, s1⟩
      exact ⟨_, rfl, q H' p ns s1 (s1 _ _ hp) (SameLoop.refl ne)⟩
end
end K48
set_option Elab.async false
set_option linter.all false
set_option maxRecDepth 100000
set_option maxHeartbeats 4000000
/-! The shortest parts, the text, Slope.__init__. -/
namespace K48
open PySem PySem.Spec PyProof.Rows L2
theorem split_last {α : Type} {l : List α} (h : l ≠ []) : ∃ l0 c, l = l0 ++ [c] := ⟨l.dropLast, l.getLast h, (List.dropLast_concat_getLast h).symm⟩
theorem sc_listed : FnScope ["numbers", "number"] ["numbers"] (defScope st_listed) := ⟨rfl, rfl, rfl, by decide +kernel, rfl, by decide +kernel, by decide +kernel⟩
theorem sc_init : FnScope ["self", "lead", "loop", "some", "turn"] ["self", "lead", "loop"] (defScope st_init) := ⟨rfl, rfl, rfl, by decide +kernel, rfl, by decide +kernel, by decide +kernel⟩
section
variable {P : Program} {w : World} {K : PySem.W.Frag} {mg : Str → Option Value} {base : Heap}
def spShortest : Sp := fun vs H Q _ => ∃ (p1 p2 : Addr) (l t : List Int), vs = [.ref p1, .ref p2] ∧ H p1 = some (.tup (l.map V.int)) ∧ H p2 = some (.tup (t.map V.int)) ∧ l.length ≤ 8 ∧ t.length ≤ 12 ∧ t ≠ [] ∧
  ∀ H' r a b l' t', Same H H' → H' r = some (.tup [.ref a, .ref b]) → H' a = some (.tup (l'.map V.int)) → H' b = some (.tup (t'.map V.int)) → SameParts l t l' t' → Q (.ref r) H'
theorem cal_shortest (Tx : Gm K mg) : C8.Cal P w K mg base 2 "shortest" spShortest [] := by
  have c_shortest_loop : C8.Cal P w K mg base 1 "shortest_loop" spShortestLoop [] := cal_shortest_loop Tx
  refine cal_of Tx.f_shortest sc_shortest (fun _ _ _ _ _ _ us hl => match us, hl with | [_, _], _ => rfl) (fun vs H Q E h => ?_) (fun f cdv A outer s H vs Q E hr h => ?_)
  · obtain ⟨p1, p2, l, t, rfl, _⟩ := h
    rfl
  · obtain ⟨p1, p2, l, t, rfl, h1, h2, hl, ht, ne, q⟩ := h
    refine ⟨_, (pss_cons (ps_set (i := 1) sc_shortest.nd rfl (Or.inl rfl) (C8.pe_c c_shortest_loop hr (by decide) rfl (pa_cons (pv 1) pa_nil)))
      (pss_cons (ps_while PassesOwn.never (PW.pt (pw_and (pt_cmpR (op_neD hr.units) (pv 0) (pe_tup pa_nil) (nomark _)) (pw_and1 (pt_cmpR op_eq (pe_ix ix_tup (pv 0) (pe_un un_neg pe_int) (fun _ _ => rfl)) (pe_ix ix_tup (pv 1) (pe_un un_neg pe_int) (fun _ _ => rfl)) (nomark _))))) (pss_one (ps_par (i := 0) (j := 1) rfl sc_shortest.nd rfl rfl (by decide) rfl rfl (pa_cons (pe_slice sl_tupA (pv 0) po_none (po_some (pe_un un_neg pe_int))) (pa_cons (pe_tup (pa_cons (pe_ix ix_tup (pv 1) (pe_un un_neg pe_int) (fun _ _ => rfl)) (StX.pa_star (pe_slice sl_tupA (pv 1) po_none (po_some (pe_un un_neg pe_int))) pa_nil))) pa_nil)) (by rfl))))
      (pss_one (ps_ret (pe_tup (pa_cons (pv 0) (pa_cons (pv 1) pa_nil))))))), ?_⟩
    refine ⟨_, rfl, p2, t, rfl, h2, ht, ne, fun H1 p3 t1 s1 h3 sl => ?_⟩
    refine ⟨fun m σ H2 => ∃ (a b : Addr) (l' t' : List Int), σ = [some (.ref a), some (.ref b)] ∧ Same H H2 ∧ H2 a = some (.tup (l'.map V.int)) ∧ H2 b = some (.tup (t'.map V.int)) ∧ SameParts l t l' t' ∧ m = l'.length,
      ⟨_, p1, p3, l, t1, rfl, s1, s1 _ _ h1, h3, SameParts.of_loop sl, rfl⟩, ?_⟩
    rintro m σ H2 ⟨a, b, l', t', rfl, s2, ha, hb, sp, rfl⟩
    have le1 := sp.le
    have le2 := sp.le2
    -- lead != ()
    refine ⟨_, rfl, Nat.zero_le _, fun z nz => ⟨.tuple (dI l'), .tuple (dI []), .tup (SqT.of (same_new nz _ _ ha)) (dp_ints _ _ _), .tup (SqT.of upd_same) .nil, shaped_tup _, shaped_tup [], _, rfl, ?_⟩⟩
    have s3 : Same H2 (upd H2 z (.tup [])) := same_new nz
    rw [eqv_tups]
    have fin : ∀ H3, Same H2 H3 → tRet (tTup (tCons (tVar 0) (tCons (tVar 1) tNil))) { nx := fun _ H' => Q .non H', rt := Q } [some (.ref a), some (.ref b)] H3 := fun H3 s4 =>
      ⟨_, rfl, _, rfl, sz2, fun r nr => q _ r a b l' t' ((s2.trans s4).trans (same_new nr)) upd_same (same_new nr _ _ (s4 _ _ ha)) (same_new nr _ _ (s4 _ _ hb)) sp⟩
    by_cases el : l' = []
    · rw [decide_eq_true el]
      exact iteF (iteF (fin _ s3))
    rw [decide_eq_false el]
    refine iteT ?_
    -- lead[-1] == turn[-1]
    obtain ⟨l0, c, rfl⟩ := split_last el
    obtain ⟨t0, d, rfl⟩ := split_last sp.ne
    have gl : atI ((l0 ++ [c]).map V.int) (-1) = some (.int c) := by
      rw [List.map_append]
      exact atI_last _ _
    have gt : atI ((t0 ++ [d]).map V.int) (-1) = some (.int d) := by
      rw [List.map_append]
      exact atI_last _ _
    refine ⟨_, rfl, 1, rfl, a, _, -1, _, rfl, rfl, SqT.of (s3 _ _ ha), gl, _, rfl, 1, rfl, b, _, -1, _, rfl, rfl, SqT.of (s3 _ _ hb), gt, rfl, _, rfl, ite2 (fun e => ?_) (fun _ => fin _ s3)⟩
    have ecd : c = d := V.int.inj (of_decide_eq_true e)
    subst ecd
    refine ⟨fun σ' H' => ∃ (a b : Addr), σ' = [some (.ref a), some (.ref b)] ∧ Same H H' ∧ H' a = some (.tup (l0.map V.int)) ∧ H' b = some (.tup ((c :: t0).map V.int)), fun σ' H' ⟨a', b', e1, e2, e3, e4⟩ => ⟨l0.length, ?_, a', b', l0, c :: t0, e1, e2, e3, e4, sp.turn, rfl⟩, ?_⟩
    · rw [List.length_append]
      exact Nat.lt_succ_self _
    have n1 : 0 < ((l0 ++ [c]).map V.int).length := by
      rw [List.length_map, List.length_append]
      exact Nat.succ_pos _
    have n2 : 0 < ((t0 ++ [c]).map V.int).length := by
      rw [List.length_map, List.length_append]
      exact Nat.succ_pos _
    have k1 : cutV ((l0 ++ [c]).map V.int) none (some (-1)) = l0.map V.int := by
      rw [cut_last, List.map_append]
      exact List.dropLast_concat
    have k2 : cutV ((t0 ++ [c]).map V.int) none (some (-1)) = t0.map V.int := by
      rw [cut_last, List.map_append]
      exact List.dropLast_concat
    refine ⟨_, rfl, 1, rfl, _, rfl, a, _, rfl, SqT.of (s3 _ _ ha), fun z2 => absurd z2 (not_whole_last n1), fun _ x nx => ?_⟩
    rw [k1]
    have s4 : Same H2 (upd (upd H2 z (.tup [])) x (.tup (l0.map V.int))) := s3.trans (same_new nx)
    refine ⟨_, rfl, 1, rfl, b, _, -1, _, rfl, rfl, SqT.of (s4 _ _ hb), gt, _, rfl, 1, rfl, _, rfl, b, _, rfl, SqT.of (s4 _ _ hb), fun z2 => absurd z2 (not_whole_last n2), fun _ y ny => ?_⟩
    rw [k2]
    have s5 := s4.trans (same_new (o := .tup (t0.map V.int)) ny)
    refine ⟨y, _, rfl, .inl (SqT.of upd_same), ?_, fun u nu => ⟨_, _, rfl, ?_⟩⟩
    · rw [List.append_nil, List.length_cons, List.length_map]
      rw [List.length_append] at le2
      exact szle (by have : [c].length = 1 := rfl; omega)
    · refine ⟨x, u, rfl, s2.trans (s5.trans (same_new nu)), ?_, ?_⟩
      · exact same_new nu _ _ (same_new ny _ _ upd_same)
      · rw [upd_same, List.append_nil]
        rfl
theorem text_small {n : Int} (h1 : 1 ≤ n) (h2 : n ≤ 20) : (Str.ofString (toString n)).length ≤ 2 := by
  have h : n = 1 ∨ n = 2 ∨ n = 3 ∨ n = 4 ∨ n = 5 ∨ n = 6 ∨ n = 7 ∨ n = 8 ∨ n = 9 ∨ n = 10 ∨ n = 11 ∨ n = 12 ∨ n = 13 ∨ n = 14 ∨ n = 15 ∨ n = 16 ∨ n = 17 ∨ n = 18 ∨ n = 19 ∨ n = 20 := by omega
  rcases h with h | h | h | h | h | h | h | h | h | h | h | h | h | h | h | h | h | h | h | h <;> (subst h; decide +kernel)
def txts (ns : List Int) : List Str := ns.map fun n => Str.ofString (toString n)
theorem txts_sum {ns : List Int} (h : In20 ns) : ((txts ns).map (·.length)).sum ≤ 2 * ns.length := by
  induction ns with
  | nil => exact Nat.le_refl _
  | cons n ns ih =>
    have a := h n List.mem_cons_self
    have b := text_small a.1 a.2
    have c := ih fun m hm => h m (List.mem_cons_of_mem _ hm)
    show (Str.ofString (toString n)).length + ((txts ns).map (·.length)).sum ≤ 2 * (ns.length + 1)
    omega
theorem join_small {ns : List Int} (h : In20 ns) (hl : ns.length ≤ 1000) : (Txt.join "," (txts ns)).length ≤ 3000 := by
  have e : Txt.join "," (txts ns) = Str.join "," (txts ns) := StrLaws.glued_eq_join ..
  rw [e]
  have j := StrLaws.join_length_le "," (txts ns)
  have s1 := txts_sum h
  have s2 : (txts ns).length = ns.length := List.length_map ..
  have s3 : ("," : Str).length = 1 := by decide +kernel
  rw [s2, s3] at j
  omega
def spListed : Sp := fun vs H Q _ => ∃ (p : Addr) (ns : List Int), vs = [.ref p] ∧ H p = some (.tup (ns.map V.int)) ∧ ns.length ≤ 1000 ∧ In20 ns ∧ ∀ H' z, Same H H' → z.length ≤ 3000 → Q (.str z) H'
theorem cal_listed (Tx : Gm K mg) : C8.Cal P w K mg base 1 "listed" spListed [] := by
  refine cal_of Tx.f_listed sc_listed (fun _ _ _ _ _ _ us hl => match us, hl with | [_], _ => rfl) (fun vs H Q E h => ?_) (fun f cdv A outer s H vs Q E hr h => ?_)
  · obtain ⟨p, ns, rfl, _⟩ := h
    rfl
  · obtain ⟨p, ns, rfl, hp, hl, hi, q⟩ := h
    refine ⟨_, (pss_one (ps_ret (pe_join pe_str (pe_lc (own := [("number", 1)]) (by rfl) sc_listed.nd (pi_tup (pv 0)) (blkOk_by (own := [("number", 1)]) (N := ["numbers", "number"]) (sc := defScope st_listed) (by decide +kernel)) (fun _ _ _ _ _ => (pg_name (i := 1) sc_listed.nd rfl (Or.inl rfl))) (fun _ _ _ _ _ => pts_nil) (fun _ _ _ _ _ => (pe_callTy call_str_int (by rfl) Tx.n_str (by decide +kernel) (pa_cons (pv 1) pa_nil))))))), ?_⟩
    have hlen : (ns.map V.int).length = ns.length := List.length_map ..
    refine ⟨⟨_, rfl⟩, _, rfl, p, rfl, ⟨_, SqT.of hp⟩, fun D nD => ?_⟩
    refine lc_tup (K := K) (a := p) (xs := ns.map V.int) (fun i H' => (∀ b o, b ≠ D → H b = some o → H' b = some o) ∧ H' D = some (.lst ((txts (ns.take i)).map V.str))) ⟨fun b o hb e => by rw [upd_ne hb]; exact e, upd_same⟩
      (fun i H' _ ⟨s1, _⟩ => SqT.of (s1 _ _ (ne_of_none hp nD) hp)) ?_ ?_
    · rintro i x H' hx ⟨s1, hD⟩
      obtain ⟨n, hn, rfl⟩ := map_get hx
      have hb := hi n (List.mem_of_getElem? hn)
      have il : i < ns.length := (List.getElem?_eq_some_iff.mp hn).1
      refine ⟨rfl, ?_⟩
      refine ⟨_, rfl, n, rfl, ?_, _, hD, ?_, ?_, ?_⟩
      · have hz : n.natAbs.log2 ≤ n.natAbs := Nat.log2_le_self _
        omega
      · rw [List.length_map]
        unfold txts
        rw [List.length_map, List.length_take]
        exact szlt (by omega)
      · exact fun b o hb e => by rw [upd_ne hb]; exact s1 b o hb e
      · rw [upd_same, List.take_add_one, hn]
        unfold txts
        rw [List.map_append, List.map_append]
        rfl
    · rintro H' ⟨s1, hD⟩
      rw [hlen, List.take_length] at hD
      refine ⟨_, D, txts ns, rfl, rfl, .inl (SqL.of hD), ?_, q H' _ (fun b o e => s1 b o (ne_of_none e nD) e) (join_small hi hl)⟩
      have s1 := txts_sum hi
      have s2 : (txts ns).length = ns.length := List.length_map ..
      have s3 : ("," : Str).length = 1 := by decide +kernel
      rw [s2, s3]
      omega
theorem put_words (v y : V) : putF "words" y [(("held" : Str), v)] = ([("held", v), ("words", y)] : List (Str × V)) := by
  have ne : ¬ (("held" : Str) = "words") := by decide +kernel
  show (if ("held" : Str) = "words" then [(("held" : Str), y)] else (("held" : Str), v) :: putF "words" y []) = ([("held", v), ("words", y)] : List (Str × V))
  rw [if_neg ne]
  rfl
def spInit (K : PySem.W.Frag) : Sp := fun vs H Q _ => ∃ (o dx p1 p2 : Addr) (l t : List Int), vs = [.ref o, .ref p1, .ref p2] ∧ H o = some (.ins (CS K) dx []) ∧ H p1 = some (.tup (l.map V.int)) ∧ H p2 = some (.tup (t.map V.int)) ∧ l.length ≤ 8 ∧ t.length ≤ 12 ∧ t ≠ [] ∧ In20 l ∧ In20 t ∧
  ∀ H', SlAt K H' (.ref o) (partOf l t) → (∀ b u, H b = some u → b ≠ o → H' b = some u) → Q .non H'
theorem mak_slope (Tx : Gm K mg) : C8.Mak P w K mg base 4 "Slope" (CS K) (spInit K) [] := by
  have c_check_lead : C8.Cal P w K mg base 3 "check_lead" spCheckLead [] := cal_check_lead Tx
  have c_check_loop : C8.Cal P w K mg base 3 "check_loop" spCheckLoop [] := cal_check_loop Tx
  have c_shortest : C8.Cal P w K mg base 2 "shortest" spShortest [] := cal_shortest Tx
  have c_listed : C8.Cal P w K mg base 1 "listed" spListed [] := cal_listed Tx
  obtain ⟨f, fd, M, FD⟩ := Tx.mkS
  refine ⟨f, fd, ["self", "lead", "loop"], [], M, FD.ok sc_init (fun vs H Q E h => ?_) (fun cdv A outer s H vs Q E hr h => ?_), Tx.mgC, FD.bindsN (fun _ _ _ _ _ _ us hl => match us, hl with | [_, _, _], _ => rfl), .nil⟩
  · obtain ⟨o, dx, p1, p2, l, t, rfl, _⟩ := h
    rfl
  · obtain ⟨o, dx, p1, p2, l, t, rfl, ho, h1, h2, hl, ht, ne, il, it, q⟩ := h
    have key : ∃ u, PSs (cxOf CX0 P w K mg base ["self", "lead", "loop", "some", "turn"] "Slope.__init__" (defScope st_init) f cdv A outer s H E).nox (defBody st_init) u ∧ u { nx := fun _ H' => Q .non H', rt := Q } (start ["self", "lead", "loop", "some", "turn"] [.ref o, .ref p1, .ref p2]) H := by
      refine ⟨_, (pss_cons (ps_expr (C8.pe_c c_check_lead hr (by decide) rfl (pa_cons (pv 1) pa_nil)))
      (pss_cons (ps_expr (C8.pe_c c_check_loop hr (by decide) rfl (pa_cons (pv 2) pa_nil)))
      (pss_cons (ps_asg (C8.pe_c c_shortest hr (by decide) rfl (pa_cons (pv 1) (pa_cons (pv 2) pa_nil))) (pg_tup rfl (pgs_cons (pg_name (i := 3) sc_init.nd rfl (Or.inl rfl)) (pgs_cons (pg_name (i := 4) sc_init.nd rfl (Or.inl rfl)) pgs_nil))))
      (pss_cons (ps_fld (pv 0) (pe_tup (pa_cons (pv 3) (pa_cons (pv 4) pa_nil))) rfl)
      (pss_one (ps_fld (pv 0) (pe_op op_add_str (pe_op op_add_str (C8.pe_c c_listed hr (by decide) rfl (pa_cons (pv 3) pa_nil)) pe_str) (C8.pe_c c_listed hr (by decide) rfl (pa_cons (pv 4) pa_nil))) rfl)))))), ?_⟩
      refine ⟨_, rfl, p1, l, rfl, h1, hl, il, fun H1 s1 => ?_⟩
      refine ⟨_, rfl, p2, t, rfl, s1 _ _ h2, ht, ne, it, fun H2 s2 => ?_⟩
      have s12 := s1.trans s2
      refine ⟨_, rfl, _, rfl, p1, p2, l, t, rfl, s12 _ _ h1, s12 _ _ h2, hl, ht, ne, fun H3 r a b l' t' s3 hr3 ha hb sp => ?_⟩
      have s13 := s12.trans s3
      obtain ⟨i1, i2⟩ := sp.in20 il it
      have e1 := sp.le
      have e2 := sp.le2
      refine ⟨r, _, rfl, SqT.of hr3, rfl, _, _, rfl, _, _, rfl, rfl, ?_⟩
      -- self.held = (some, turn)
      refine ⟨_, rfl, _, rfl, sz2, fun u nu => ?_⟩
      have s14 := s13.trans (same_new (o := .tup [.ref a, .ref b]) nu)
      have s34 : Same H3 (upd H3 u (.tup [.ref a, .ref b])) := same_new nu
      have ho4 := s14 _ _ ho
      have oa : a ≠ o := ne_of (s34 _ _ ha) ho4 (fun z => by cases z)
      have ob : b ≠ o := ne_of (s34 _ _ hb) ho4 (fun z => by cases z)
      have ou : u ≠ o := ne_of upd_same ho4 (fun z => by cases z)
      refine ⟨_, rfl, o, CS K, dx, [], rfl, ho4, Tx.ins.cl, Tx.nHeld, (by show 0 < 1000; decide), ?_⟩
      generalize eG : upd (upd H3 u (.tup [.ref a, .ref b])) o (.ins (CS K) dx (putF "held" (.ref u) [])) = G
      have gk : ∀ c x, H3 c = some x → c ≠ o → G c = some x := fun c x e n => by
        rw [← eG, upd_ne n]
        exact s34 _ _ e
      have go : G o = some (.ins (CS K) dx [(("held" : Str), .ref u)]) := by
        rw [← eG, upd_same]
        rfl
      have gu : G u = some (.tup [.ref a, .ref b]) := by
        rw [← eG, upd_ne ou, upd_same]
      have ga := gk a _ ha oa
      have gb := gk b _ hb ob
      -- self.words
      refine ⟨_, rfl, a, l', rfl, ga, by omega, i1, fun H5 z1 s5 hz1 => ?_⟩
      have sl : ("/" : Str).length = 1 := by decide +kernel
      refine ⟨_, _, rfl, rfl, by rw [sl]; exact szle (by omega), ?_⟩
      refine ⟨_, rfl, b, t', rfl, s5 _ _ gb, by omega, i2, fun H6 z2 s6 hz2 => ?_⟩
      refine ⟨_, _, rfl, rfl, by rw [Str.length_append, sl]; exact szle (by omega), ?_⟩
      have s56 := s5.trans s6
      refine ⟨_, rfl, o, CS K, dx, _, rfl, s56 _ _ go, Tx.ins.cl, Tx.nWords, (by show 1 < 1000; decide), ?_⟩
      refine q _ ⟨ok_of il it ne, o, dx, u, a, b, _, l', t', rfl, Eq.trans upd_same (congrArg (fun y => some (HO.ins (CS K) dx y)) (put_words _ _)), ?_, ?_, ?_, sp.ne, fun k hk => (sp.row k hk).symm⟩ fun c x e n => ?_
      · rw [upd_ne ou]
        exact s56 _ _ gu
      · rw [upd_ne oa]
        exact s56 _ _ ga
      · rw [upd_ne ob]
        exact s56 _ _ gb
      · rw [upd_ne n]
        exact s56 _ _ (gk c x (s13 _ _ e) n)
    obtain ⟨u, k1, k2⟩ := key
    exact ⟨u, PSs.nox k1, k2⟩
end
end K48
set_option Elab.async false
set_option linter.all false
set_option maxRecDepth 100000
set_option maxHeartbeats 4000000
/-! The neighbours. -/
namespace K48
open PySem PySem.Spec PyProof.Rows L2
theorem small_mul {i j : Int} (h0 : 0 ≤ i) (h1 : i ≤ 1000) : CMul i j := by
  have z : (1000 : Int) < 2 ^ 64 := by decide
  exact .inl ⟨by omega, by omega⟩
abbrev sz4 : (4 : Nat) ≤ sizeLine := by decide
abbrev sz5 : (5 : Nat) ≤ sizeLine := by decide
theorem sc_neighbours_for : FnScope ["parts", "p", "q", "later", "wider", "found", "part"] ["parts"] (defScope st_neighbours_for) := ⟨rfl, rfl, rfl, by decide +kernel, rfl, by decide +kernel, by decide +kernel⟩
theorem sc_neighbours_to : FnScope ["slope", "place", "many"] ["slope", "place"] (defScope st_neighbours_to) := ⟨rfl, rfl, rfl, by decide +kernel, rfl, by decide +kernel, by decide +kernel⟩
theorem sc_neighbours_past : FnScope ["slope", "bottom", "p", "q", "later", "wider", "many", "found", "beyond", "part"] ["slope", "bottom"] (defScope st_neighbours_past) := ⟨rfl, rfl, rfl, by decide +kernel, rfl, by decide +kernel, by decide +kernel⟩
/-- the first n parts -/
def pts (a : Nat → Int) (n : Nat) : List Int := (List.range n).map fun i => a (i + 1)
theorem pts_len (a : Nat → Int) (n : Nat) : (pts a n).length = n := by
  unfold pts
  rw [List.length_map, List.length_range]
theorem pts_get {a : Nat → Int} {n i : Nat} {x : Int} (h : (pts a n)[i]? = some x) : i < n ∧ x = a (i + 1) := by
  have l : i < (pts a n).length := (List.getElem?_eq_some_iff.mp h).1
  rw [pts_len] at l
  refine ⟨l, ?_⟩
  unfold pts at h
  rw [List.getElem?_map, List.getElem?_range l] at h
  exact (Option.some.inj h).symm
theorem pts_succ (a : Nat → Int) (n : Nat) : pts a (n + 1) = pts a n ++ [a (n + 1)] := by
  unfold pts
  rw [List.range_succ, List.map_append]
  rfl
section
variable {P : Program} {w : World} {K : PySem.W.Frag} {mg : Str → Option Value} {base : Heap}
def spNbFor : Sp := fun vs H Q _ => ∃ (l : Addr) (a : Nat → Int) (n : Nat), vs = [.ref l] ∧ H l = some (.lst ((pts a n).map V.int)) ∧ Ok a ∧ n ≤ 1000 ∧ ∀ H' L, Same H H' → CvAt H' L a 1 (n + 1) → Q (.ref L) H'
theorem cal_neighbours_for (Tx : Gm K mg) : C8.Cal P w K mg base 1 "neighbours_for" spNbFor [] := by
  refine cal_of Tx.f_neighbours_for sc_neighbours_for (fun _ _ _ _ _ _ us hl => match us, hl with | [_], _ => rfl) (fun vs H Q E h => ?_) (fun f cdv A outer s H vs Q E hr h => ?_)
  · obtain ⟨l, a, n, rfl, _⟩ := h
    rfl
  · obtain ⟨l, a, n, rfl, hl, ok, hn, q⟩ := h
    refine ⟨_, (pss_cons (ps_asg (pe_tup (pa_cons pe_int (pa_cons pe_int (pa_cons pe_int (pa_cons pe_int pa_nil))))) (pg_tup rfl (pgs_cons (pg_name (i := 1) sc_neighbours_for.nd rfl (Or.inl rfl)) (pgs_cons (pg_name (i := 2) sc_neighbours_for.nd rfl (Or.inl rfl)) (pgs_cons (pg_name (i := 3) sc_neighbours_for.nd rfl (Or.inl rfl)) (pgs_cons (pg_name (i := 4) sc_neighbours_for.nd rfl (Or.inl rfl)) pgs_nil))))))
      (pss_cons (ps_set (i := 5) sc_neighbours_for.nd rfl (Or.inl rfl) (pe_lst (pa_cons (pe_tup (pa_cons (pv 3) (pa_cons (pv 4) pa_nil))) pa_nil)))
      (pss_cons (ps_for PassesOwn.never rfl (pi_list (pv 0)) (pg_name (i := 6) sc_neighbours_for.nd rfl (Or.inl rfl)) (pss_cons (ps_asg (pe_tup (pa_cons (pv 3) (pa_cons (pv 4) (pa_cons (pe_op op_add (pe_op op_mul (pv 6) (pv 3)) (pv 1)) (pa_cons (pe_op op_add (pe_op op_mul (pv 6) (pv 4)) (pv 2)) pa_nil))))) (pg_tup rfl (pgs_cons (pg_name (i := 1) sc_neighbours_for.nd rfl (Or.inl rfl)) (pgs_cons (pg_name (i := 2) sc_neighbours_for.nd rfl (Or.inl rfl)) (pgs_cons (pg_name (i := 3) sc_neighbours_for.nd rfl (Or.inl rfl)) (pgs_cons (pg_name (i := 4) sc_neighbours_for.nd rfl (Or.inl rfl)) pgs_nil))))))
      (pss_one (ps_expr (pe_bm PySem.F.plainAttrs_list PySem.F.slot_list_append PySem.F.type_list_append mt_append (pv 5) (pa_cons (pe_tup (pa_cons (pv 3) (pa_cons (pv 4) pa_nil))) pa_nil))))))
      (pss_one (ps_ret (pv 5)))))), ?_⟩
    refine ⟨sz4, fun u nu => ⟨u, _, rfl, SqT.of upd_same, rfl, _, _, rfl, _, _, rfl, _, _, rfl, _, _, rfl, rfl, ?_⟩⟩
    have s1 : Same H (upd H u (.tup [.int 1, .int 0, .int 0, .int 1])) := same_new nu
    refine ⟨_, rfl, _, rfl, sz2, fun v nv => ⟨(by show 1 ≤ sizeLine; decide), fun L nL => ?_⟩⟩
    have s2 := s1.trans (same_new (o := .tup [.int 0, .int 1]) nv)
    have nL0 : H L = none := s2.free nL
    have s3 := s2.trans (same_new (o := .lst [.ref v]) nL)
    refine ⟨_, rfl, l, rfl, ⟨_, SqL.of (s3 _ _ hl)⟩, for_list (K := K) (a := l) (xs := (pts a n).map V.int) (fun i σ H' => ∃ v6, σ = [some (.ref l), some (.int (T a i)), some (.int (B a i)), some (.int (T a (i + 1))), some (.int (B a (i + 1))), some (.ref L), v6] ∧ Same H H' ∧
      CvAt H' L a 1 (i + 1)) ⟨none, rfl, s3, ⟨[.ref v], upd_same, rfl, ?_⟩⟩ (fun i σ H' _ ⟨_, _, s4, _⟩ => SqL.of (s4 _ _ hl)) ?_ ?_⟩
    · have e0 : (upd (upd (upd H u (.tup [.int 1, .int 0, .int 0, .int 1])) v (.tup [.int 0, .int 1])) L (.lst [.ref v])) v = some (.tup [.int 0, .int 1]) := same_new nL _ _ upd_same
      exact Prs.push (xs := []) Prs.nil e0
    · rintro i x σ H' hx ⟨v6, rfl, s4, ⟨xs, hL, len, prs⟩⟩
      obtain ⟨z, hz, rfl⟩ := map_get hx
      obtain ⟨il, rfl⟩ := pts_get hz
      have o1 := ok (i + 1) (by omega)
      refine ⟨_, rfl, _, rfl, _, rfl, _, rfl, _, _, rfl, rfl, small_mul (by omega) (by omega), _, rfl, _, _, rfl, rfl, _, rfl, _, rfl, _, _, rfl, rfl, small_mul (by omega) (by omega), _, rfl, _, _, rfl, rfl, sz4, fun y ny => ?_⟩
      refine ⟨y, _, rfl, SqT.of upd_same, rfl, _, _, rfl, _, _, rfl, _, _, rfl, _, _, rfl, rfl, ?_⟩
      have s5 := same_new (H := H') (o := .tup [.int (T a (i + 1)), .int (B a (i + 1)), .int (T a (i + 2)), .int (B a (i + 2))]) ny
      refine ⟨_, rfl, .inl ⟨rfl, _, SqL.of (s5 _ _ hL)⟩, _, rfl, _, rfl, sz2, fun t nt => ?_⟩
      have s6 := s5.trans (same_new (o := .tup [.int (T a (i + 2)), .int (B a (i + 2))]) nt)
      refine ⟨L, xs, _, rfl, rfl, s6 _ _ hL, szlt (by omega), ?_⟩
      refine ⟨_, rfl, same_own (s4.trans s6) nL0, ⟨xs ++ [.ref t], upd_same, ?_, ?_⟩⟩
      · rw [List.length_append, len]
        rfl
      · refine ((prs.same s6).push ?_).other (s6 _ _ hL)
        rw [len]
        exact upd_same
    · rintro σ H' ⟨v6, rfl, s4, cv⟩
      rw [List.length_map, pts_len] at cv
      exact ⟨_, rfl, q H' L s4 cv⟩
def spNbTo (K : PySem.W.Frag) : Sp := fun vs H Q _ => ∃ (x : V) (a : Nat → Int) (n : Nat), vs = [x, .int (n : Nat)] ∧ SlAt K H x a ∧ n ≤ 1000 ∧ ∀ H' L, Same H H' → CvAt H' L a 1 (n + 1) → Q (.ref L) H'
theorem cal_neighbours_to (Tx : Gm K mg) : C8.Cal P w K mg base 2 "neighbours_to" (spNbTo K) [] := by
  have c_neighbours_for : C8.Cal P w K mg base 1 "neighbours_for" spNbFor [] := cal_neighbours_for Tx
  have c_part_at : C8.Cal P w K mg base 1 "part_at" (spPartAt K) [] := cal_part_at Tx
  refine cal_of Tx.f_neighbours_to sc_neighbours_to (fun _ _ _ _ _ _ us hl => match us, hl with | [_, _], _ => rfl) (fun vs H Q E h => ?_) (fun f cdv A outer s H vs Q E hr h => ?_)
  · obtain ⟨x, a, n, rfl, _⟩ := h
    rfl
  · obtain ⟨x, a, n, rfl, sl, hn, q⟩ := h
    refine ⟨_, (pss_one (ps_ret (C8.pe_c c_neighbours_for hr (by decide) rfl (pa_cons (pe_lc (own := [("many", 2)]) (by rfl) sc_neighbours_to.nd (pi_range2 (by rfl) Tx.n_range (pa_cons pe_int (pa_cons (pe_op op_add (pv 1) pe_int) pa_nil))) (blkOk_by (own := [("many", 2)]) (N := ["slope", "place", "many"]) (sc := defScope st_neighbours_to) (by decide +kernel)) (fun _ _ _ _ _ => (pg_name (i := 2) sc_neighbours_to.nd rfl (Or.inl rfl))) (fun _ _ _ _ _ => pts_nil) (fun _ _ _ _ _ => (C8.pe_c c_part_at hr (by decide) rfl (pa_cons (pv 0) (pa_cons (pv 2) pa_nil))))) pa_nil)))), ?_⟩
    refine ⟨_, rfl, _, _, rfl, rfl, 1, _, rfl, ⟨by decide, by decide, by omega, by omega⟩, fun D nD => ?_⟩
    have en : ((n : Int) + 1 - 1).toNat = n := by omega
    rw [en]
    refine lc_range (lo := 1) (n := n) (fun i H' => Same H H' ∧ H' D = some (.lst ((pts a i).map V.int))) ⟨same_new nD, upd_same⟩ ?_ ?_
    · rintro i H' hi ⟨s1, hD⟩
      refine ⟨rfl, ?_⟩
      have e1 : (1 : Int) + (i : Int) = ((i + 1 : Nat) : Int) := by omega
      rw [e1]
      refine ⟨_, rfl, _, rfl, x, a, i + 1, rfl, sl.same s1, by omega, _, hD, ?_, same_own s1 nD, ?_⟩
      · rw [List.length_map, pts_len]
        exact szlt (by omega)
      · rw [upd_same, pts_succ, List.map_append]
        rfl
    · rintro H' ⟨s1, hD⟩
      exact ⟨D, a, n, rfl, hD, sl.ok, hn, fun H2 L s2 cv => q H2 L (s1.trans s2) cv⟩
def spNbPast (K : PySem.W.Frag) : Sp := fun vs H Q _ => ∃ (x : V) (a : Nat → Int) (bound : Int) (m : Nat), vs = [x, .int bound] ∧ SlAt K H x a ∧ Past a bound m ∧ m ≤ 1000 ∧ ∀ H' L, Same H H' → CvAt H' L a 1 (m + 2) → Q (.ref L) H'
theorem cal_neighbours_past (Tx : Gm K mg) : C8.Cal P w K mg base 2 "neighbours_past" (spNbPast K) [] := by
  have c_part_at : C8.Cal P w K mg base 1 "part_at" (spPartAt K) [] := cal_part_at Tx
  refine cal_of Tx.f_neighbours_past sc_neighbours_past (fun _ _ _ _ _ _ us hl => match us, hl with | [_, _], _ => rfl) (fun vs H Q E h => ?_) (fun f cdv A outer s H vs Q E hr h => ?_)
  · obtain ⟨x, a, b, m, rfl, _⟩ := h
    rfl
  · obtain ⟨x, a, bd, m, rfl, sl, past, hm, q⟩ := h
    have ok := sl.ok
    refine ⟨_, (pss_cons (ps_asg (pe_tup (pa_cons pe_int (pa_cons pe_int (pa_cons pe_int (pa_cons pe_int (pa_cons pe_int pa_nil)))))) (pg_tup rfl (pgs_cons (pg_name (i := 2) sc_neighbours_past.nd rfl (Or.inl rfl)) (pgs_cons (pg_name (i := 3) sc_neighbours_past.nd rfl (Or.inl rfl)) (pgs_cons (pg_name (i := 4) sc_neighbours_past.nd rfl (Or.inl rfl)) (pgs_cons (pg_name (i := 5) sc_neighbours_past.nd rfl (Or.inl rfl)) (pgs_cons (pg_name (i := 6) sc_neighbours_past.nd rfl (Or.inl rfl)) pgs_nil)))))))
      (pss_cons (ps_par (i := 7) (j := 8) rfl sc_neighbours_past.nd rfl rfl (by decide) rfl rfl (pa_cons (pe_lst (pa_cons (pe_tup (pa_cons pe_int (pa_cons pe_int pa_nil))) pa_nil)) (pa_cons pe_int pa_nil)) (by rfl))
      (pss_cons (ps_while PassesOwn.never (pt_cmpR op_lt (pv 8) pe_int (nomark _)) (pss_cons (ps_aug (i := 6) sc_neighbours_past.nd rfl (Or.inl rfl) pe_int ip_add)
      (pss_cons (ps_set (i := 9) sc_neighbours_past.nd rfl (Or.inl rfl) (C8.pe_c c_part_at hr (by decide) rfl (pa_cons (pv 0) (pa_cons (pv 6) pa_nil))))
      (pss_cons (ps_asg (pe_tup (pa_cons (pv 4) (pa_cons (pv 5) (pa_cons (pe_op op_add (pe_op op_mul (pv 9) (pv 4)) (pv 2)) (pa_cons (pe_op op_add (pe_op op_mul (pv 9) (pv 5)) (pv 3)) pa_nil))))) (pg_tup rfl (pgs_cons (pg_name (i := 2) sc_neighbours_past.nd rfl (Or.inl rfl)) (pgs_cons (pg_name (i := 3) sc_neighbours_past.nd rfl (Or.inl rfl)) (pgs_cons (pg_name (i := 4) sc_neighbours_past.nd rfl (Or.inl rfl)) (pgs_cons (pg_name (i := 5) sc_neighbours_past.nd rfl (Or.inl rfl)) pgs_nil))))))
      (pss_cons (ps_expr (pe_bm PySem.F.plainAttrs_list PySem.F.slot_list_append PySem.F.type_list_append mt_append (pv 7) (pa_cons (pe_tup (pa_cons (pv 4) (pa_cons (pv 5) pa_nil))) pa_nil)))
      (pss_one (ps_aug (i := 8) sc_neighbours_past.nd rfl (Or.inl rfl) (pe_callTy call_int1 (by rfl) Tx.n_int (by decide +kernel) (pa_cons (pe_cmpR op_gt (pv 5) (pv 1) (nomark _)) pa_nil)) ip_add)))))))
      (pss_one (ps_ret (pv 7)))))), ?_⟩
    refine ⟨sz5, fun u nu => ⟨u, _, rfl, SqT.of upd_same, rfl, _, _, rfl, _, _, rfl, _, _, rfl, _, _, rfl, _, _, rfl, rfl, ?_⟩⟩
    have s1 := same_new (H := H) (o := .tup [.int 1, .int 0, .int 0, .int 1, .int 0]) nu
    refine ⟨sz2, fun v nv => ⟨(by show 1 ≤ sizeLine; decide), fun L nL => ⟨_, _, rfl, ?_⟩⟩⟩
    have s2 := s1.trans (same_new (o := .tup [.int 0, .int 1]) nv)
    have nL0 : H L = none := s2.free nL
    have s3 := s2.trans (same_new (o := .lst [.ref v]) nL)
    refine ⟨fun k σ H' => ∃ (i : Nat) (v9 : Option V), σ = [some x, some (.int bd), some (.int (T a i)), some (.int (B a i)), some (.int (T a (i + 1))), some (.int (B a (i + 1))), some (.int (i : Nat)), some (.ref L), some (.int ((i + 2 - m : Nat) : Int)), v9] ∧
      Same H H' ∧ CvAt H' L a 1 (i + 1) ∧ i ≤ m + 1 ∧ k = m + 1 - i, ⟨m + 1, 0, none, ?_, s3, ⟨[.ref v], upd_same, rfl, ?_⟩, by omega, rfl⟩, ?_⟩
    · have e0 : 0 + 2 - m = 0 := by
        have := past.1
        omega
      rw [e0]
      rfl
    · have e0 : (upd (upd (upd H u (.tup [.int 1, .int 0, .int 0, .int 1, .int 0])) v (.tup [.int 0, .int 1])) L (.lst [.ref v])) v = some (.tup [.int 0, .int 1]) := same_new nL _ _ upd_same
      exact Prs.push (xs := []) Prs.nil e0
    rintro k σ H' ⟨i, v9, rfl, s4, ⟨xs, hL, len, prs⟩, hi, rfl⟩
    refine ⟨_, rfl, _, _, rfl, rfl, _, rfl, ite2 (fun e => ?_) (fun e => ?_)⟩
    · have e1 : ((i + 2 - m : Nat) : Int) < 3 := of_decide_eq_true e
      have i1 : i < m + 1 := by omega
      refine ⟨fun σ' H2 => ∃ v9, σ' = [some x, some (.int bd), some (.int (T a (i + 1))), some (.int (B a (i + 1))), some (.int (T a (i + 2))), some (.int (B a (i + 2))), some (.int ((i + 1 : Nat) : Int)), some (.ref L), some (.int ((i + 1 + 2 - m : Nat) : Int)), v9] ∧
        Same H H2 ∧ CvAt H2 L a 1 (i + 2), fun σ' H2 ⟨v9, e1, e2, e3⟩ => ⟨m + 1 - (i + 1), by omega, i + 1, v9, e1, e2, e3, by omega, rfl⟩, ?_⟩
      have o1 := ok (i + 1) (by omega)
      -- many += 1; part = part_at(slope, many)
      refine ⟨_, rfl, _, _, rfl, rfl, ?_⟩
      refine ⟨_, rfl, _, rfl, x, a, i + 1, rfl, sl.same s4, by omega, ?_⟩
      -- p, q, later, wider
      refine ⟨_, rfl, _, rfl, _, rfl, _, rfl, _, _, rfl, rfl, small_mul (by omega) (by omega), _, rfl, _, _, rfl, rfl, _, rfl, _, rfl, _, _, rfl, rfl, small_mul (by omega) (by omega), _, rfl, _, _, rfl, rfl, sz4, fun y ny => ?_⟩
      refine ⟨y, _, rfl, SqT.of upd_same, rfl, _, _, rfl, _, _, rfl, _, _, rfl, _, _, rfl, rfl, ?_⟩
      have s5 := same_new (H := H') (o := .tup [.int (T a (i + 1)), .int (B a (i + 1)), .int (T a (i + 2)), .int (B a (i + 2))]) ny
      refine ⟨_, rfl, .inl ⟨rfl, _, SqL.of (s5 _ _ hL)⟩, _, rfl, _, rfl, sz2, fun t nt => ?_⟩
      have s6 := s5.trans (same_new (o := .tup [.int (T a (i + 2)), .int (B a (i + 2))]) nt)
      refine ⟨L, xs, _, rfl, rfl, s6 _ _ hL, szlt (by omega), ?_⟩
      -- beyond += int(wider > bottom)
      refine ⟨_, rfl, _, rfl, _, rfl, _, _, rfl, rfl, .inr ⟨_, rfl, _, _, rfl, rfl, ?_⟩⟩
      refine ⟨some (.int (a (i + 1))), ?_, same_own (s4.trans s6) nL0, ⟨xs ++ [.ref t], upd_same, ?_, ?_⟩⟩
      · have pi := past_iff ok past (i := i + 2)
        have ev : ((i + 2 - m : Nat) : Int) + (if decide (bd < B a (i + 2)) = true then (1 : Int) else 0) = ((i + 1 + 2 - m : Nat) : Int) := by
          by_cases c : bd < B a (i + 2)
          · have c2 := pi.mp c
            rw [if_pos (decide_eq_true c)]
            omega
          · have c2 : ¬ m ≤ i + 2 := fun z => c (pi.mpr z)
            rw [if_neg (fun z => c (of_decide_eq_true z))]
            omega
        exact congrArg (fun z => [some x, some (V.int bd), some (.int (T a (i + 1))), some (.int (B a (i + 1))), some (.int (T a (i + 2))), some (.int (B a (i + 2))), some (.int ((i + 1 : Nat) : Int)), some (.ref L), some (.int z), some (.int (a (i + 1)))]) ev
      · rw [List.length_append, len]
        rfl
      · refine ((prs.same s6).push ?_).other (s6 _ _ hL)
        rw [len]
        exact upd_same
    · have e1 : ¬ ((i + 2 - m : Nat) : Int) < 3 := fun z => e (decide_eq_true z)
      have ei : i = m + 1 := by omega
      subst ei
      exact ⟨_, rfl, q H' L s4 ⟨xs, hL, len, prs⟩⟩
end
end K48
set_option Elab.async false
set_option linter.all false
set_option maxRecDepth 100000
set_option maxHeartbeats 4000000
/-! Points, sides, the nearest fractions. -/
namespace K48
open PySem PySem.Spec PyProof.Rows L2
/-! ### great numbers -/
theorem wd {x : Int} (h0 : 0 ≤ x) (h1 : x ≤ 10 ^ 75) : x.natAbs < 2 ^ 250 := by
  have e : (10 : Int) ^ 75 < ((2 ^ 250 : Nat) : Int) := by decide +kernel
  have e2 : (x.natAbs : Int) = x := Int.natAbs_of_nonneg h0
  exact Int.ofNat_lt.mp (by rw [e2]; exact Int.lt_of_le_of_lt h1 e)
theorem wmul {i j : Int} (h0 : 0 ≤ i) (h1 : i ≤ 10 ^ 75) (k0 : 0 ≤ j) (k1 : j ≤ 10 ^ 75) : CMulW i j := wide_mul (wd h0 h1) (wd k0 k1) (by decide) (by decide) (by decide)
theorem wdiv {i j : Int} (k0 : 1 ≤ j) (k1 : j ≤ 10 ^ 75) : CDivW i j := wide_div (by omega) (wd (by omega) k1) (by decide) (by decide)
theorem p30 : (10 : Int) ^ 30 * 1000000 ≤ 10 ^ 75 ∧ (1 : Int) ≤ 10 ^ 30 := by decide +kernel
theorem p60 : (10 : Int) ^ 61 * 100000 ≤ 10 ^ 75 ∧ (1 : Int) ≤ 10 ^ 61 := by decide +kernel
theorem past_m {a : Nat → Int} (ok : Ok a) {bound : Int} {m : Nat} (h : Past a bound m) (hb : bound ≤ 10 ^ 75) : m ≤ 401 := by
  refine Nat.le_of_not_lt fun z => ?_
  have l := past_le ok h (i := 401) z
  have g := big400 ok
  omega
theorem B_up3 {a : Nat → Int} (ok : Ok a) {bound : Int} {m : Nat} (h : Past a bound m) : B a (m + 2) ≤ 9261 * bound := by
  obtain ⟨h2, hl, hg⟩ := h
  have u1 := B_up ok (i := m - 1) (by omega)
  have u2 := B_up ok (i := m) (by omega)
  have u3 := B_up ok (i := m + 1) (by omega)
  rw [show m - 1 + 1 = m by omega] at u1
  rw [show m + 1 + 1 = m + 2 by omega] at u3
  omega
theorem Prs.cons {H : Hp} {xs : List V} {f g f' g' : Nat → Int} {p : Addr} (h : Prs H xs f' g') (e : H p = some (.tup [.int (f 0), .int (g 0)])) (ef : ∀ i, f' i = f (i + 1)) (eg : ∀ i, g' i = g (i + 1)) : Prs H ([.ref p] ++ xs) f g := fun i hi => by
  cases i with
  | zero => exact ⟨p, rfl, e⟩
  | succ i =>
    obtain ⟨q, e1, e2⟩ := h i (by simpa using hi)
    exact ⟨q, e1, by rw [e2, ef, eg]⟩
theorem sc_is_point : FnScope ["value", "part"] ["value"] (defScope st_is_point) := ⟨rfl, rfl, rfl, by decide +kernel, rfl, by decide +kernel, by decide +kernel⟩
theorem sc_check_point : FnScope ["value"] ["value"] (defScope st_check_point) := ⟨rfl, rfl, rfl, by decide +kernel, rfl, by decide +kernel, by decide +kernel⟩
theorem sc_multiple_at : FnScope ["slope", "many", "some", "place"] ["slope", "many"] (defScope st_multiple_at) := ⟨rfl, rfl, rfl, by decide +kernel, rfl, by decide +kernel, by decide +kernel⟩
theorem sc_whole_at : FnScope ["slope", "point"] ["slope", "point"] (defScope st_whole_at) := ⟨rfl, rfl, rfl, by decide +kernel, rfl, by decide +kernel, by decide +kernel⟩
theorem sc_sign_at : FnScope ["slope", "point"] ["slope", "point"] (defScope st_sign_at) := ⟨rfl, rfl, rfl, by decide +kernel, rfl, by decide +kernel, by decide +kernel⟩
section
variable {P : Program} {w : World} {K : PySem.W.Frag} {mg : Str → Option Value} {base : Heap}
def spIsPoint : Sp := fun vs H Q _ => ∃ (p : Addr) (u v : Int), vs = [.ref p] ∧ H p = some (.tup [.int u, .int v]) ∧ (0 ≤ u ∧ u ≤ 10 ^ 30) ∧ (0 ≤ v ∧ v ≤ 10 ^ 30) ∧ ∀ H', Same H H' → Q (.bl true) H'
theorem cal_is_point (Tx : Gm K mg) : C8.Cal P w K mg base 3 "is_point" spIsPoint [] := by
  have c_is_between : C8.Cal P w K mg base 2 "is_between" spIsBetween [] := cal_is_between Tx
  refine cal_of Tx.f_is_point sc_is_point (fun _ _ _ _ _ _ us hl => match us, hl with | [_], _ => rfl) (fun vs H Q E h => ?_) (fun f cdv A outer s H vs Q E hr h => ?_)
  · obtain ⟨p, u, v, rfl, _⟩ := h
    rfl
  · obtain ⟨p, u, v, rfl, hp, hu, hv, q⟩ := h
    refine ⟨_, (pss_cons (ps_if (PW.pt (pw_or (pt_not (pt_val (pe_callB call_isi (by rfl) Tx.n_isinstance (by decide +kernel) (pa_cons (pv 0) (pa_cons (pe_bltn (v := .ty "tuple") (by rfl) Tx.n_tuple (by decide +kernel) rfl) pa_nil))))) (pw_or1 (pt_cmpR op_ne (pe_callB call_len_seq (by rfl) Tx.n_len (by decide +kernel) (pa_cons (pv 0) pa_nil)) pe_int (nomark _))))) (pss_one (ps_ret pe_bl)) pss_nil)
      (pss_one (ps_ret (pe_callB (cr_all rfl) (by rfl) Tx.n_all (by decide +kernel) (pa_cons (pe_lc (own := [("part", 1)]) (by rfl) sc_is_point.nd (pi_tup (pv 0)) (blkOk_by (own := [("part", 1)]) (N := ["value", "part"]) (sc := defScope st_is_point) (by decide +kernel)) (fun _ _ _ _ _ => (pg_name (i := 1) sc_is_point.nd rfl (Or.inl rfl))) (fun _ _ _ _ _ => pts_nil) (fun _ _ _ _ _ => (C8.pe_c c_is_between hr (by decide) rfl (pa_cons (pv 1) (pa_cons (pe_un un_neg (C8.pe_gc rfl Tx.cNumber)) (pa_cons (C8.pe_gc rfl Tx.cNumber) pa_nil)))))) pa_nil))))), ?_⟩
    refine ⟨_, rfl, _, _, _, _, true, rfl, .ty "tuple", .base (.tup hp), kit_ty (by decide +kernel), true, rfl, iteF ?_⟩
    refine ⟨_, rfl, p, _, rfl, .inr (SqT.of hp), rfl, _, rfl, iteNS rfl ?_⟩
    refine ⟨_, rfl, p, rfl, ⟨_, SqT.of hp⟩, fun D nD => ?_⟩
    refine lc_tup (K := K) (a := p) (xs := ([u, v] : List Int).map V.int) (fun i H' => Same H H' ∧ H' D = some (.lst ((List.replicate i true).map V.bl))) ⟨same_new nD, upd_same⟩ (fun i H' _ ⟨s1, _⟩ => SqT.of (s1 _ _ hp)) ?_ ?_
    · rintro i y H' hy ⟨s1, hD⟩
      obtain ⟨n, hn, rfl⟩ := map_get hy
      have il : i < 2 := (List.getElem?_eq_some_iff.mp hn).1
      have hb : 0 ≤ n ∧ n ≤ 10 ^ 30 := by
        have := List.mem_of_getElem? hn
        rcases List.mem_cons.mp this with e | this
        · rw [e]
          exact hu
        · rw [List.mem_singleton.mp this]
          exact hv
      have lo : (-(10 ^ 30) : Int) ≤ n := by
        have := p30.2
        omega
      refine ⟨rfl, ?_⟩
      refine ⟨_, rfl, _, rfl, n, -(10 ^ 30), 10 ^ 30, rfl, lo, hb.2, _, hD, ?_, same_own s1 nD, ?_⟩
      · rw [List.length_map, List.length_replicate]
        exact szlt (by omega)
      · rw [upd_same, List.replicate_succ']
        rw [List.map_append]
        rfl
    · rintro H' ⟨s1, hD⟩
      exact ⟨D, [true, true], rfl, SqL.of hD, q H' s1⟩
def spCheckPoint : Sp := fun vs H Q _ => ∃ (p : Addr) (u v : Int), vs = [.ref p] ∧ H p = some (.tup [.int u, .int v]) ∧ (0 ≤ u ∧ u ≤ 10 ^ 30) ∧ (0 ≤ v ∧ v ≤ 10 ^ 30) ∧ ∀ H', Same H H' → Q .non H'
theorem cal_check_point (Tx : Gm K mg) : C8.Cal P w K mg base 4 "check_point" spCheckPoint [] := by
  have c_is_point : C8.Cal P w K mg base 3 "is_point" spIsPoint [] := cal_is_point Tx
  refine cal_of Tx.f_check_point sc_check_point (fun _ _ _ _ _ _ us hl => match us, hl with | [_], _ => rfl) (fun vs H Q E h => ?_) (fun f cdv A outer s H vs Q E hr h => ?_)
  · obtain ⟨p, u, v, rfl, _⟩ := h
    rfl
  · obtain ⟨p, u, v, rfl, hp, hu, hv, q⟩ := h
    refine ⟨_, (pss_one (ps_if (pt_not (pt_val (C8.pe_c c_is_point hr (by decide) rfl (pa_cons (pv 0) pa_nil)))) (pss_one ps_never) pss_nil)), ?_⟩
    exact ⟨_, rfl, p, u, v, rfl, hp, hu, hv, fun H' s1 => ⟨true, rfl, iteF (q H' s1)⟩⟩
def spMultipleAt (K : PySem.W.Frag) : Sp := fun vs H Q _ => ∃ (x : V) (a : Nat → Int) (n : Int), vs = [x, .int n] ∧ SlAt K H x a ∧ 1 ≤ n ∧ n ≤ 10 ^ 61 ∧ ∀ H' z, Same H H' → Q (.int z) H'
theorem cal_multiple_at (Tx : Gm K mg) : C8.Cal P w K mg base 3 "multiple_at" (spMultipleAt K) [] := by
  have c_neighbours_past : C8.Cal P w K mg base 2 "neighbours_past" (spNbPast K) [] := cal_neighbours_past Tx
  refine cal_of Tx.f_multiple_at sc_multiple_at (fun _ _ _ _ _ _ us hl => match us, hl with | [_, _], _ => rfl) (fun vs H Q E h => ?_) (fun f cdv A outer s H vs Q E hr h => ?_)
  · obtain ⟨x, a, n, rfl, _⟩ := h
    rfl
  · obtain ⟨x, a, n, rfl, sl, h1, h2, q⟩ := h
    have ok := sl.ok
    obtain ⟨m, past⟩ := past_ex ok h1
    have q60 := p60
    have hm := past_m ok past (by omega)
    have hB := B_up3 ok past
    have hm2 := past.1
    refine ⟨_, (pss_cons (ps_if (pt_cmpR op_lt (pv 1) pe_int (nomark _)) (pss_one ps_never) pss_nil)
      (pss_cons (ps_set (i := 2) sc_multiple_at.nd rfl (Or.inl rfl) (C8.pe_c c_neighbours_past hr (by decide) rfl (pa_cons (pv 0) (pa_cons (pv 1) pa_nil))))
      (pss_cons (ps_set (i := 3) sc_multiple_at.nd rfl (Or.inl rfl) (pe_ifExp (pt_cmpR op_eq (pe_op op_mod (pe_callB call_len_seq (by rfl) Tx.n_len (by decide +kernel) (pa_cons (pv 2) pa_nil)) pe_int) pe_int (nomark _)) (pe_op op_sub (pe_callB call_len_seq (by rfl) Tx.n_len (by decide +kernel) (pa_cons (pv 2) pa_nil)) pe_int) (pe_op op_sub (pe_callB call_len_seq (by rfl) Tx.n_len (by decide +kernel) (pa_cons (pv 2) pa_nil)) pe_int)))
      (pss_one (ps_ret (pe_op op_fdivW (pe_op op_mulW (pv 1) (pe_ix ix_tup (pe_ix ix_list (pv 2) (pv 3) (fun _ _ => rfl)) pe_int (fun _ _ => rfl))) (pe_ix ix_tup (pe_ix ix_list (pv 2) (pv 3) (fun _ _ => rfl)) pe_int (fun _ _ => rfl)))))))), ?_⟩
    refine ⟨_, rfl, _, _, rfl, rfl, _, rfl, ite2 (fun e => absurd (of_decide_eq_true e) (by omega)) (fun _ => ?_)⟩
    refine ⟨_, rfl, _, rfl, x, a, n, m, rfl, sl, past, by omega, fun H' L s1 ⟨xs, hL, len, prs⟩ => ?_⟩
    have go : ∀ (j : Nat), j < m + 2 → ∀ z : Int, z = (j : Int) → tRet (tOp (rI CDivW fun i j => .int (i / j)) (tOp (rI CMulW fun i j => .int (i * j)) (tVar 1) (tOp (rIxT K) (tOp (rIxL K) (tVar 2) (tVar 3)) (tC (.int 0)))) (tOp (rIxT K) (tOp (rIxL K) (tVar 2) (tVar 3)) (tC (.int 1))))
        { nx := fun _ H' => Q .non H', rt := Q } [some x, some (.int n), some (.ref L), some (.int z)] H' := fun j hj z ez => by
      obtain ⟨p, e1, e2⟩ := prs.get (i := j) (by omega)
      have mono := B_mono0 ok (i := j + 1) (j := m + 2) (by omega)
      have b0 := B_pos ok (i := j + 1) (by omega)
      have t0 := T_nn ok (i := j + 1) (by omega)
      have t1 := T_le ok (i := j + 1) (by omega)
      refine ⟨_, rfl, _, rfl, _, rfl, L, _, _, _, rfl, rfl, SqL.of hL, at_of ez e1, p, _, 0, _, rfl, rfl, SqT.of e2, atI_nat (j := 0) rfl, _, _, rfl, rfl, wmul (by omega) (by omega) t0 (by omega), ?_⟩
      exact ⟨_, rfl, _, rfl, L, _, _, _, rfl, rfl, SqL.of hL, at_of ez e1, p, _, 1, _, rfl, rfl, SqT.of e2, atI_nat (j := 1) rfl, _, _, rfl, rfl, wdiv b0 (by omega), q H' _ s1⟩
    refine ⟨_, rfl, L, _, rfl, .inl (SqL.of hL), _, _, rfl, rfl, (by show (0 : Int) < 2; decide), rfl, _, rfl, ite2 (fun _ => ?_) (fun _ => ?_)⟩
    · exact ⟨_, rfl, L, _, rfl, .inl (SqL.of hL), _, _, rfl, rfl, go (m + 1) (by omega) _ (by rw [len]; omega)⟩
    · exact ⟨_, rfl, L, _, rfl, .inl (SqL.of hL), _, _, rfl, rfl, go m (by omega) _ (by rw [len]; omega)⟩
def spWholeAt (K : PySem.W.Frag) : Sp := fun vs H Q _ => ∃ (x : V) (a : Nat → Int) (p : Addr) (u v : Int), vs = [x, .ref p] ∧ SlAt K H x a ∧ H p = some (.tup [.int u, .int v]) ∧ 1 ≤ v ∧ v ≤ 10 ^ 61 ∧ ∀ H' z, Same H H' → Q (.int z) H'
theorem cal_whole_at (Tx : Gm K mg) : C8.Cal P w K mg base 4 "whole_at" (spWholeAt K) [] := by
  have c_multiple_at : C8.Cal P w K mg base 3 "multiple_at" (spMultipleAt K) [] := cal_multiple_at Tx
  refine cal_of Tx.f_whole_at sc_whole_at (fun _ _ _ _ _ _ us hl => match us, hl with | [_, _], _ => rfl) (fun vs H Q E h => ?_) (fun f cdv A outer s H vs Q E hr h => ?_)
  · obtain ⟨x, a, p, u, v, rfl, _⟩ := h
    rfl
  · obtain ⟨x, a, p, u, v, rfl, sl, hp, h1, h2, q⟩ := h
    refine ⟨_, (pss_one (ps_ret (pe_op op_add (pe_ix ix_tup (pv 1) pe_int (fun _ _ => rfl)) (pe_ifExp (pt_cmpR op_ne (pe_ix ix_tup (pv 1) pe_int (fun _ _ => rfl)) pe_int (nomark _)) (C8.pe_c c_multiple_at hr (by decide) rfl (pa_cons (pv 0) (pa_cons (pe_ix ix_tup (pv 1) pe_int (fun _ _ => rfl)) pa_nil))) pe_int)))), ?_⟩
    refine ⟨_, rfl, p, _, 0, _, rfl, rfl, SqT.of hp, atI_nat (j := 0) rfl, _, rfl, p, _, 1, _, rfl, rfl, SqT.of hp, atI_nat (j := 1) rfl, rfl, _, rfl, ?_⟩
    have ne : decide (V.int v = V.int 0) = false := decide_eq_false fun z => by
      have := V.int.inj z
      omega
    rw [ne]
    exact iteT ⟨_, rfl, _, rfl, p, _, 1, _, rfl, rfl, SqT.of hp, atI_nat (j := 1) rfl, x, a, v, rfl, sl, h1, h2, fun H' z s1 => ⟨_, _, rfl, rfl, q H' _ s1⟩⟩
def spSignAt (K : PySem.W.Frag) : Sp := fun vs H Q _ => ∃ (x : V) (a : Nat → Int) (p : Addr) (u v : Int), vs = [x, .ref p] ∧ SlAt K H x a ∧ H p = some (.tup [.int u, .int v]) ∧ 1 ≤ v ∧ v ≤ 10 ^ 61 ∧ ∀ H' z, Same H H' → Q (.int z) H'
theorem cal_sign_at (Tx : Gm K mg) : C8.Cal P w K mg base 5 "sign_at" (spSignAt K) [] := by
  have c_whole_at : C8.Cal P w K mg base 4 "whole_at" (spWholeAt K) [] := cal_whole_at Tx
  refine cal_of Tx.f_sign_at sc_sign_at (fun _ _ _ _ _ _ us hl => match us, hl with | [_, _], _ => rfl) (fun vs H Q E h => ?_) (fun f cdv A outer s H vs Q E hr h => ?_)
  · obtain ⟨x, a, p, u, v, rfl, _⟩ := h
    rfl
  · obtain ⟨x, a, p, u, v, rfl, sl, hp, h1, h2, q⟩ := h
    refine ⟨_, (pss_cons (ps_if (pt_cmpR (op_eqD hr.units) (pv 1) (pe_tup (pa_cons pe_int (pa_cons pe_int pa_nil))) (nomark _)) (pss_one (ps_ret pe_int)) pss_nil)
      (pss_one (ps_ret (pe_ifExp (pt_cmpR op_ge (C8.pe_c c_whole_at hr (by decide) rfl (pa_cons (pv 0) (pa_cons (pv 1) pa_nil))) pe_int (nomark _)) pe_int (pe_un un_neg pe_int))))), ?_⟩
    refine ⟨_, rfl, sz2, fun z nz => ⟨.tuple (dI [u, v]), .tuple (dI [0, 0]), .tup (SqT.of (same_new nz _ _ hp)) (dp_ints _ _ [u, v]), .tup (SqT.of upd_same) (dp_ints _ _ [0, 0]), shaped_tup _, shaped_tup [0, 0], _, rfl, ?_⟩⟩
    have s0 := same_new (H := H) (o := .tup [.int 0, .int 0]) nz
    refine ite2 (fun _ => q _ _ s0) (fun _ => ?_)
    refine ⟨_, rfl, _, rfl, x, a, p, u, v, rfl, sl.same s0, s0 _ _ hp, h1, h2, fun H' z s1 => ⟨_, _, rfl, rfl, _, rfl, ite2 (fun _ => q _ _ (s0.trans s1)) (fun _ => ⟨_, rfl, q _ _ (s0.trans s1)⟩)⟩⟩
end
end K48
set_option Elab.async false
set_option linter.all false
set_option maxRecDepth 100000
set_option maxHeartbeats 4000000
/-! The nearest fractions of both sides. -/
namespace K48
open PySem PySem.Spec PyProof.Rows L2
theorem wid_hgt_bd {a : Nat → Int} (ok : Ok a) {bd : Int} {e s : Nat} (h : Side a bd e s) (h1 : 1 ≤ bd) : 1 ≤ wid a bd s ∧ wid a bd s ≤ bd ∧ 0 ≤ hgt a bd s ∧ hgt a bd s ≤ bd + 1 := by
  have c := (cnt_bd ok h).2.1
  have p := wid_pos ok h h1
  have g := hgt_bd ok h h1
  omega
theorem side_low {a : Nat → Int} (ok : Ok a) {bd : Int} {e s : Nat} (h : Side a bd e s) (h1 : 1 ≤ bd) : B a (s + 1) ≤ 21 * bd ∧ 0 ≤ T a (s + 1) ∧ T a (s + 1) ≤ 21 * bd := by
  have l := h.2.1
  have t0 := T_nn ok (i := s + 1) (by omega)
  have t1 := T_le ok (i := s + 1) (by omega)
  have b : B a (s + 1) ≤ 21 * bd := by
    by_cases z : 1 ≤ s
    · have u := B_up ok z
      omega
    · have e0 : s = 0 := by omega
      subst e0
      have e1 : B a (0 + 1) = 1 := rfl
      omega
  omega
/-- a pair of the side's height and width -/
abbrev FrAt (H : Hp) (p : Addr) (a : Nat → Int) (bd : Int) (s : Nat) : Prop := H p = some (.tup [.int (hgt a bd s), .int (wid a bd s)])
theorem sc_side_of : FnScope ["slope", "bound", "is_above", "some", "start", "p", "q", "near", "low", "many"] ["slope", "bound", "is_above"] (defScope st_side_of) := ⟨rfl, rfl, rfl, by decide +kernel, rfl, by decide +kernel, by decide +kernel⟩
theorem sc_below_to : FnScope ["slope", "bound"] ["slope", "bound"] (defScope st_below_to) := ⟨rfl, rfl, rfl, by decide +kernel, rfl, by decide +kernel, by decide +kernel⟩
theorem sc_above_to : FnScope ["slope", "bound"] ["slope", "bound"] (defScope st_above_to) := ⟨rfl, rfl, rfl, by decide +kernel, rfl, by decide +kernel, by decide +kernel⟩
theorem sc_nearer : FnScope ["slope", "low", "high", "top"] ["slope", "low", "high"] (defScope st_nearer) := ⟨rfl, rfl, rfl, by decide +kernel, rfl, by decide +kernel, by decide +kernel⟩
theorem sc_best_to : FnScope ["slope", "bound"] ["slope", "bound"] (defScope st_best_to) := ⟨rfl, rfl, rfl, by decide +kernel, rfl, by decide +kernel, by decide +kernel⟩
section
variable {P : Program} {w : World} {K : PySem.W.Frag} {mg : Str → Option Value} {base : Heap}
def spSideOf (K : PySem.W.Frag) : Sp := fun vs H Q _ => ∃ (x : V) (a : Nat → Int) (bd : Int) (up : Bool) (s : Nat), vs = [x, .int bd, .bl up] ∧ SlAt K H x a ∧ 1 ≤ bd ∧ bd ≤ 10 ^ 30 ∧ Side a bd (if up = true then 0 else 1) s ∧ ∀ H' p, Same H H' → FrAt H' p a bd s → Q (.ref p) H'
theorem cal_side_of (Tx : Gm K mg) : C8.Cal P w K mg base 3 "side_of" (spSideOf K) [] := by
  have c_neighbours_past : C8.Cal P w K mg base 2 "neighbours_past" (spNbPast K) [] := cal_neighbours_past Tx
  refine cal_of Tx.f_side_of sc_side_of (fun _ _ _ _ _ _ us hl => match us, hl with | [_, _, _], _ => rfl) (fun vs H Q E h => ?_) (fun f cdv A outer st H vs Q E hr h => ?_)
  · obtain ⟨x, a, bd, up, s, rfl, _⟩ := h
    rfl
  · obtain ⟨x, a, bd, up, s, rfl, sl, h1, h2, side, q⟩ := h
    have ok := sl.ok
    have q30 := p30
    obtain ⟨m, past⟩ := past_ex ok h1
    have hm := past_m ok past (by omega)
    have sm := side_past ok side past
    have low := side_low ok side h1
    have cb := cnt_bd ok side
    refine ⟨_, (pss_cons (ps_set (i := 3) sc_side_of.nd rfl (Or.inl rfl) (pe_op op_cat (pe_lst (pa_cons (pe_tup (pa_cons pe_int (pa_cons pe_int pa_nil))) pa_nil)) (C8.pe_c c_neighbours_past hr (by decide) rfl (pa_cons (pv 0) (pa_cons (pv 1) pa_nil)))))
      (pss_cons (ps_set (i := 4) sc_side_of.nd rfl (Or.inl rfl) (pe_ifExp (pt_val (pv 2)) pe_int pe_int))
      (pss_cons (ps_while PassesOwn.never (pt_cmpR op_le (pe_ix ix_tup (pe_ix ix_list (pv 3) (pe_op op_add (pv 4) pe_int) (fun _ _ => rfl)) pe_int (fun _ _ => rfl)) (pv 1) (nomark _)) (pss_one (ps_aug (i := 4) sc_side_of.nd rfl (Or.inl rfl) pe_int ip_add)))
      (pss_cons (ps_asg (pe_tup (pa_cons (pe_ix ix_list (pv 3) (pv 4) (fun _ _ => rfl)) (pa_cons (pe_ix ix_list (pv 3) (pe_op op_add (pv 4) pe_int) (fun _ _ => rfl)) pa_nil))) (pg_tup rfl (pgs_cons (pg_tup rfl (pgs_cons (pg_name (i := 5) sc_side_of.nd rfl (Or.inl rfl)) (pgs_cons (pg_name (i := 6) sc_side_of.nd rfl (Or.inl rfl)) pgs_nil))) (pgs_cons (pg_tup rfl (pgs_cons (pg_name (i := 7) sc_side_of.nd rfl (Or.inl rfl)) (pgs_cons (pg_name (i := 8) sc_side_of.nd rfl (Or.inl rfl)) pgs_nil))) pgs_nil))))
      (pss_cons (ps_set (i := 9) sc_side_of.nd rfl (Or.inl rfl) (pe_op op_fdivW (pe_op op_sub (pv 1) (pv 6)) (pv 8)))
      (pss_one (ps_ret (pe_tup (pa_cons (pe_op op_add (pv 5) (pe_op op_mulW (pv 9) (pv 7))) (pa_cons (pe_op op_add (pv 6) (pe_op op_mulW (pv 9) (pv 8))) pa_nil)))))))))), ?_⟩
    -- some = [(1, 0)] + neighbours_past(slope, bound)
    refine ⟨sz2, fun u nu => ⟨(by show 1 ≤ sizeLine; decide), fun v nv => ?_⟩⟩
    have s1 := (same_new (H := H) (o := .tup [.int 1, .int 0]) nu).trans (same_new (o := .lst [.ref u]) nv)
    have hu0 : (upd (upd H u (.tup [.int 1, .int 0])) v (.lst [.ref u])) u = some (.tup [.int 1, .int 0]) := same_new nv _ _ upd_same
    refine ⟨_, rfl, _, rfl, x, a, bd, m, rfl, sl.same s1, past, by omega, fun H1 L s2 ⟨xs, hL, len, prs⟩ => ?_⟩
    refine ⟨v, L, _, _, rfl, rfl, s2 _ _ upd_same, hL, szle (by rw [len]; show 1 + (m + 2) ≤ _; omega), fun c nc => ?_⟩
    have s3 := (s1.trans s2).trans (same_new (o := .lst ([.ref u] ++ xs)) nc)
    generalize eG : upd H1 c (.lst ([.ref u] ++ xs)) = G at s3 ⊢
    have hc : G c = some (.lst ([.ref u] ++ xs)) := by rw [← eG, upd_same]
    have cl : ([V.ref u] ++ xs).length = m + 3 := by
      rw [List.length_append, len]
      show 1 + (m + 2) = m + 3
      omega
    have pr : Prs G ([.ref u] ++ xs) (fun i => T a i) (fun i => B a i) := by
      rw [← eG]
      exact (Prs.cons (f := fun i => T a i) (g := fun i => B a i) prs (s2 _ _ hu0) (fun _ => rfl) (fun _ => rfl)).same (same_new nc)
    clear eG
    -- start = 0 if is_above else 1
    have st : ∀ e0 : Nat, e0 = (if up = true then 0 else 1) → tSeq (tWhile (tTest (tOp (rI0 fun i j => .bl (decide (i ≤ j))) (tOp (rIxT K) (tOp (rIxL K) (tVar 3) (tOp (rI0 fun i j => .int (i + j)) (tVar 4) (tC (.int 2)))) (tC (.int 1))) (tVar 1))) (tAug 4 (tC (.int 2)) (ipI fun i j => i + j)))
        (tSeq (tAsg (tTup (tCons (tOp (rIxL K) (tVar 3) (tVar 4)) (tCons (tOp (rIxL K) (tVar 3) (tOp (rI0 fun i j => .int (i + j)) (tVar 4) (tC (.int 1)))) tNil))) (gTup K 2 (gCons (gTup K 2 (gCons (gName 5) (gCons (gName 6) gNil))) (gCons (gTup K 2 (gCons (gName 7) (gCons (gName 8) gNil))) gNil))))
        (tSeq (tAsg (tOp (rI CDivW fun i j => .int (i / j)) (tOp (rI0 fun i j => .int (i - j)) (tVar 1) (tVar 6)) (tVar 8)) (gName 9))
        (tRet (tTup (tCons (tOp (rI0 fun i j => .int (i + j)) (tVar 5) (tOp (rI CMulW fun i j => .int (i * j)) (tVar 9) (tVar 7))) (tCons (tOp (rI0 fun i j => .int (i + j)) (tVar 6) (tOp (rI CMulW fun i j => .int (i * j)) (tVar 9) (tVar 8))) tNil))))))
        { nx := fun _ H' => Q .non H', rt := Q } [some x, some (.int bd), some (.bl up), some (.ref c), some (.int (e0 : Nat)), none, none, none, none, none] G := fun e0 ee => by
      have e2 : e0 < 2 := by
        rw [ee]
        split <;> omega
      have par := side.1
      rw [← ee] at par
      refine ⟨fun k σ H' => ∃ j : Nat, σ = [some x, some (.int bd), some (.bl up), some (.ref c), some (.int (j : Nat)), none, none, none, none, none] ∧ H' = G ∧ j % 2 = e0 ∧ j ≤ s ∧ k = s - j, ⟨_, e0, rfl, rfl, by omega, by omega, rfl⟩, ?_⟩
      rintro k σ H' ⟨j, rfl, rfl, jp, js, rfl⟩
      obtain ⟨p, e1, e2'⟩ := pr.get (i := j + 2) (by omega)
      refine ⟨_, rfl, _, rfl, _, _, rfl, rfl, c, _, _, _, rfl, rfl, SqL.of hc, at_of (j := j + 2) (by omega) e1, p, _, 1, _, rfl, rfl, SqT.of e2', atI_nat (j := 1) rfl, _, rfl, _, _, rfl, rfl, _, rfl, ite2 (fun e => ?_) (fun e => ?_)⟩
      · have le : B a (j + 2) ≤ bd := of_decide_eq_true e
        have lt : j < s := by
          refine Nat.lt_of_le_of_ne js fun z => ?_
          have := side.2.2
          rw [← z] at this
          omega
        refine ⟨fun σ' H2 => σ' = [some x, some (.int bd), some (.bl up), some (.ref c), some (.int ((j + 2 : Nat) : Int)), none, none, none, none, none] ∧ H2 = H', fun σ' H2 ⟨y1, y2⟩ => ⟨s - (j + 2), by omega, j + 2, y1, y2, by omega, by omega, rfl⟩, ?_⟩
        exact ⟨_, rfl, _, _, rfl, rfl, rfl, rfl⟩
      · have gt : ¬ B a (j + 2) ≤ bd := fun z => e (decide_eq_true z)
        have ej : j = s := by
          refine Nat.le_antisymm js (Nat.le_of_not_lt fun z => ?_)
          exact gt (side_below ok side (i := j + 2) (by omega))
        subst ej
        obtain ⟨p0, f1, f2⟩ := pr.get (i := j) (by omega)
        obtain ⟨p1, g1, g2⟩ := pr.get (i := j + 1) (by omega)
        refine ⟨_, rfl, _, rfl, c, _, _, _, rfl, rfl, SqL.of hc, at_of rfl f1, _, rfl, _, rfl, _, _, rfl, rfl, c, _, _, _, rfl, rfl, SqL.of hc, at_of (j := j + 1) (by omega) g1, sz2, fun z nz => ?_⟩
        have s4 := same_new (H := H') (o := .tup [.ref p0, .ref p1]) nz
        refine ⟨z, _, rfl, SqT.of upd_same, rfl, _, _, rfl, p0, _, rfl, SqT.of (s4 _ _ f2), rfl, _, _, rfl, _, _, rfl, rfl, _, _, rfl, p1, _, rfl, SqT.of (s4 _ _ g2), rfl, _, _, rfl, _, _, rfl, rfl, rfl, ?_⟩
        have b1 := B_pos ok (i := j + 1) (by omega)
        have tb := T_bd ok j
        have cle : cnt a bd j ≤ 20 := by
          have := (ok (j + 1) (by omega)).2
          omega
        refine ⟨_, rfl, _, rfl, _, _, rfl, rfl, _, rfl, _, _, rfl, rfl, wdiv b1 (by omega), ?_⟩
        refine ⟨_, rfl, _, rfl, _, rfl, _, _, rfl, rfl, wmul cb.1 (by show cnt a bd j ≤ _; omega) low.2.1 (by omega), _, _, rfl, rfl, _, rfl, _, rfl, _, rfl, _, _, rfl, rfl, wmul cb.1 (by show cnt a bd j ≤ _; omega) (by omega) (by omega), _, _, rfl, rfl, sz2, fun r nr => ?_⟩
        exact q _ r (s3.trans (s4.trans (same_new nr))) upd_same
    refine ⟨_, rfl, up, rfl, ?_⟩
    cases up with
    | true => exact st 0 rfl
    | false => exact st 1 rfl
def spSideTo (K : PySem.W.Frag) (e : Nat) : Sp := fun vs H Q _ => ∃ (x : V) (a : Nat → Int) (bd : Int) (s : Nat), vs = [x, .int bd] ∧ SlAt K H x a ∧ 1 ≤ bd ∧ bd ≤ 10 ^ 30 ∧ Side a bd e s ∧ ∀ H' p, Same H H' → FrAt H' p a bd s → Q (.ref p) H'
theorem cal_below_to (Tx : Gm K mg) : C8.Cal P w K mg base 4 "below_to" (spSideTo K 1) [] := by
  have c_side_of : C8.Cal P w K mg base 3 "side_of" (spSideOf K) [] := cal_side_of Tx
  refine cal_of Tx.f_below_to sc_below_to (fun _ _ _ _ _ _ us hl => match us, hl with | [_, _], _ => rfl) (fun vs H Q E h => ?_) (fun f cdv A outer st H vs Q E hr h => ?_)
  · obtain ⟨x, a, bd, s, rfl, _⟩ := h
    rfl
  · obtain ⟨x, a, bd, s, rfl, sl, h1, h2, side, q⟩ := h
    refine ⟨_, (pss_one (ps_ret (C8.pe_c c_side_of hr (by decide) rfl (pa_cons (pv 0) (pa_cons (pv 1) (pa_cons pe_bl pa_nil)))))), ?_⟩
    exact ⟨_, rfl, _, rfl, x, a, bd, false, s, rfl, sl, h1, h2, side, q⟩
theorem cal_above_to (Tx : Gm K mg) : C8.Cal P w K mg base 4 "above_to" (spSideTo K 0) [] := by
  have c_side_of : C8.Cal P w K mg base 3 "side_of" (spSideOf K) [] := cal_side_of Tx
  refine cal_of Tx.f_above_to sc_above_to (fun _ _ _ _ _ _ us hl => match us, hl with | [_, _], _ => rfl) (fun vs H Q E h => ?_) (fun f cdv A outer st H vs Q E hr h => ?_)
  · obtain ⟨x, a, bd, s, rfl, _⟩ := h
    rfl
  · obtain ⟨x, a, bd, s, rfl, sl, h1, h2, side, q⟩ := h
    refine ⟨_, (pss_one (ps_ret (C8.pe_c c_side_of hr (by decide) rfl (pa_cons (pv 0) (pa_cons (pv 1) (pa_cons pe_bl pa_nil)))))), ?_⟩
    exact ⟨_, rfl, _, rfl, x, a, bd, true, s, rfl, sl, h1, h2, side, q⟩
def spNearer (K : PySem.W.Frag) : Sp := fun vs H Q _ => ∃ (x : V) (a : Nat → Int) (p1 p2 : Addr) (t1 b1 t2 b2 : Int), vs = [x, .ref p1, .ref p2] ∧ SlAt K H x a ∧ H p1 = some (.tup [.int t1, .int b1]) ∧ H p2 = some (.tup [.int t2, .int b2]) ∧
  (0 ≤ t1 ∧ t1 ≤ 10 ^ 30 + 1) ∧ (1 ≤ b1 ∧ b1 ≤ 10 ^ 30) ∧ (0 ≤ t2 ∧ t2 ≤ 10 ^ 30 + 1) ∧ (1 ≤ b2 ∧ b2 ≤ 10 ^ 30) ∧ ∀ H' r, Same H H' → (r = p1 ∨ r = p2) → Q (.ref r) H'
theorem cal_nearer (Tx : Gm K mg) : C8.Cal P w K mg base 6 "nearer" (spNearer K) [] := by
  have c_sign_at : C8.Cal P w K mg base 5 "sign_at" (spSignAt K) [] := cal_sign_at Tx
  refine cal_of Tx.f_nearer sc_nearer (fun _ _ _ _ _ _ us hl => match us, hl with | [_, _, _], _ => rfl) (fun vs H Q E h => ?_) (fun f cdv A outer st H vs Q E hr h => ?_)
  · obtain ⟨x, a, p1, p2, t1, b1, t2, b2, rfl, _⟩ := h
    rfl
  · obtain ⟨x, a, p1, p2, t1, b1, t2, b2, rfl, sl, h1, h2, ⟨k1, k2⟩, ⟨k3, k4⟩, ⟨k5, k6⟩, ⟨k7, k8⟩, q⟩ := h
    have q30 := p30
    refine ⟨_, (pss_cons (ps_set (i := 3) sc_nearer.nd rfl (Or.inl rfl) (pe_op op_add (pe_op op_mulW (pe_ix ix_tup (pv 1) pe_int (fun _ _ => rfl)) (pe_ix ix_tup (pv 2) pe_int (fun _ _ => rfl))) (pe_op op_mulW (pe_ix ix_tup (pv 2) pe_int (fun _ _ => rfl)) (pe_ix ix_tup (pv 1) pe_int (fun _ _ => rfl)))))
      (pss_one (ps_ret (pe_ifExp (pt_cmpR op_lt (C8.pe_c c_sign_at hr (by decide) rfl (pa_cons (pv 0) (pa_cons (pe_tup (pa_cons (pe_un un_neg (pv 3)) (pa_cons (pe_op op_mulW (pe_op op_mul pe_int (pe_ix ix_tup (pv 1) pe_int (fun _ _ => rfl))) (pe_ix ix_tup (pv 2) pe_int (fun _ _ => rfl))) pa_nil))) pa_nil))) pe_int (nomark _)) (pv 1) (pv 2))))), ?_⟩
    refine ⟨_, rfl, p1, _, 0, _, rfl, rfl, SqT.of h1, atI_nat (j := 0) rfl, _, rfl, p2, _, 1, _, rfl, rfl, SqT.of h2, atI_nat (j := 1) rfl, _, _, rfl, rfl, wmul k1 (by omega) (by omega) (by omega), ?_⟩
    refine ⟨_, rfl, p2, _, 0, _, rfl, rfl, SqT.of h2, atI_nat (j := 0) rfl, _, rfl, p1, _, 1, _, rfl, rfl, SqT.of h1, atI_nat (j := 1) rfl, _, _, rfl, rfl, wmul k5 (by omega) (by omega) (by omega), _, _, rfl, rfl, ?_⟩
    have bb : 2 * b1 * b2 ≤ 10 ^ 61 := by
      have m1 := Int.mul_le_mul k4 k8 (by omega) (by omega)
      have e1 : 2 * b1 * b2 = 2 * (b1 * b2) := Int.mul_assoc ..
      have e2 : (2 : Int) * (10 ^ 30 * 10 ^ 30) ≤ 10 ^ 61 := by decide +kernel
      omega
    have b0 : 1 ≤ 2 * b1 * b2 := by
      have m1 := Int.mul_le_mul k3 k7 (by omega) (by omega)
      have e1 : 2 * b1 * b2 = 2 * (b1 * b2) := Int.mul_assoc ..
      omega
    refine ⟨_, rfl, _, rfl, _, rfl, _, rfl, p1, _, 1, _, rfl, rfl, SqT.of h1, atI_nat (j := 1) rfl, _, _, rfl, rfl, small_mul (by decide) (by decide), _, rfl, p2, _, 1, _, rfl, rfl, SqT.of h2, atI_nat (j := 1) rfl, _, _, rfl, rfl, wmul (by omega) (by omega) (by omega) (by omega), sz2, fun z nz => ?_⟩
    have s1 := same_new (H := H) (o := .tup [.int (-(t1 * b2 + t2 * b1)), .int (2 * b1 * b2)]) nz
    refine ⟨x, a, z, _, _, rfl, sl.same s1, upd_same, b0, bb, fun H' y s2 => ⟨_, _, rfl, rfl, _, rfl, ite2 (fun _ => ?_) (fun _ => ?_)⟩⟩
    · exact ⟨_, rfl, q H' p1 (s1.trans s2) (.inl rfl)⟩
    · exact ⟨_, rfl, q H' p2 (s1.trans s2) (.inr rfl)⟩
def spBestTo (K : PySem.W.Frag) : Sp := fun vs H Q _ => ∃ (x : V) (a : Nat → Int) (bd : Int) (s1 s0 : Nat), vs = [x, .int bd] ∧ SlAt K H x a ∧ 1 ≤ bd ∧ bd ≤ 10 ^ 30 ∧ Side a bd 1 s1 ∧ Side a bd 0 s0 ∧ ∀ H' p, Same H H' → (FrAt H' p a bd s1 ∨ FrAt H' p a bd s0) → Q (.ref p) H'
theorem cal_best_to (Tx : Gm K mg) : C8.Cal P w K mg base 7 "best_to" (spBestTo K) [] := by
  have c_nearer : C8.Cal P w K mg base 6 "nearer" (spNearer K) [] := cal_nearer Tx
  have c_below_to : C8.Cal P w K mg base 4 "below_to" (spSideTo K 1) [] := cal_below_to Tx
  have c_above_to : C8.Cal P w K mg base 4 "above_to" (spSideTo K 0) [] := cal_above_to Tx
  refine cal_of Tx.f_best_to sc_best_to (fun _ _ _ _ _ _ us hl => match us, hl with | [_, _], _ => rfl) (fun vs H Q E h => ?_) (fun f cdv A outer st H vs Q E hr h => ?_)
  · obtain ⟨x, a, bd, s1, s0, rfl, _⟩ := h
    rfl
  · obtain ⟨x, a, bd, s1, s0, rfl, sl, h1, h2, d1, d0, q⟩ := h
    have ok := sl.ok
    have w1 := wid_hgt_bd ok d1 h1
    have w0 := wid_hgt_bd ok d0 h1
    refine ⟨_, (pss_one (ps_ret (C8.pe_c c_nearer hr (by decide) rfl (pa_cons (pv 0) (pa_cons (C8.pe_c c_below_to hr (by decide) rfl (pa_cons (pv 0) (pa_cons (pv 1) pa_nil))) (pa_cons (C8.pe_c c_above_to hr (by decide) rfl (pa_cons (pv 0) (pa_cons (pv 1) pa_nil))) pa_nil)))))), ?_⟩
    refine ⟨_, rfl, _, rfl, _, rfl, x, a, bd, s1, rfl, sl, h1, h2, d1, fun H1 p1 e1 f1 => ?_⟩
    refine ⟨_, rfl, _, rfl, x, a, bd, s0, rfl, sl.same e1, h1, h2, d0, fun H2 p0 e2 f0 => ?_⟩
    refine ⟨x, a, p1, p0, _, _, _, _, rfl, sl.same (e1.trans e2), e2 _ _ f1, f0, ⟨w1.2.2.1, by omega⟩, ⟨w1.1, by omega⟩, ⟨w0.2.2.1, by omega⟩, ⟨w0.1, by omega⟩, fun H3 r e3 er => ?_⟩
    refine q H3 r ((e1.trans e2).trans e3) ?_
    rcases er with rfl | rfl
    · exact .inl (e3 _ _ (e2 _ _ f1))
    · exact .inr (e3 _ _ f0)
end
end K48
set_option Elab.async false
set_option linter.all false
set_option maxRecDepth 100000
set_option maxHeartbeats 4000000
/-! The package's own doors: greatest_below .. is_corner. -/
namespace K48
open PySem PySem.Spec PyProof.Rows L2
/-! ### data of pairs -/
theorem dp_pair {K : PySem.W.Frag} {H : Hp} {p : Addr} {i j : Int} (h : H p = some (.tup [.int i, .int j])) : Dp K H (.ref p) (.tuple (dI [i, j])) := .tup (SqT.of h) (dp_ints K H [i, j])
def dPs (n : Nat) (f g : Nat → Int) : List PyData := (List.range n).map fun i => .tuple (dI [f i, g i])
theorem dPs_succ (n : Nat) (f g : Nat → Int) : dPs (n + 1) f g = .tuple (dI [f 0, g 0]) :: dPs n (fun i => f (i + 1)) (fun i => g (i + 1)) := by
  unfold dPs
  rw [List.range_succ_eq_map, List.map_cons, List.map_map]
  rfl
theorem dp_prs {K : PySem.W.Frag} {H : Hp} : ∀ {xs : List V} {f g : Nat → Int}, Prs H xs f g → DpAll K H xs (dPs xs.length f g)
  | [], _, _, _ => .nil
  | x :: xs, f, g, h => by
    obtain ⟨p, e1, e2⟩ := h 0 (Nat.succ_pos _)
    have ex : x = .ref p := Option.some.inj e1
    rw [List.length_cons, dPs_succ, ex]
    exact .cons (dp_pair e2) (dp_prs fun i hi => h (i + 1) (Nat.succ_lt_succ hi))
theorem lay_prs : ∀ (n : Nat) (f g : Nat → Int), PyData.canLayAll0 (dPs n f g) = true ∧ PyData.depthAll (dPs n f g) ≤ 1
  | 0, _, _ => ⟨rfl, Nat.zero_le _⟩
  | n + 1, f, g => by
    have ih := lay_prs n (fun i => f (i + 1)) (fun i => g (i + 1))
    rw [dPs_succ]
    refine ⟨?_, ?_⟩
    · show (PyData.canLayAll0 (dI [f 0, g 0]) && PyData.canLayAll0 (dPs n _ _)) = true
      rw [lay_ints, ih.1]
      rfl
    · show max (PyData.depthAll (dI [f 0, g 0]) + 1) (PyData.depthAll (dPs n _ _)) ≤ 1
      rw [depth_ints]
      exact Nat.max_le.mpr ⟨Nat.le_refl _, ih.2⟩
theorem shaped_prs (n : Nat) (f g : Nat → Int) : SeqAt.shaped (.list (dPs n f g)) = true := by
  unfold SeqAt.shaped
  have l := lay_prs n f g
  have e1 : PyData.canLay0 (.list (dPs n f g)) = true := l.1
  have e2 : PyData.depth (.list (dPs n f g)) = PyData.depthAll (dPs n f g) + 1 := rfl
  have e3 := l.2
  rw [e1, Bool.true_and, e2]
  exact decide_eq_true (by omega)
theorem any_prs {n : Nat} {f g : Nat → Int} {i j : Int} (h : ∃ k, k < n ∧ f k = i ∧ g k = j) : ((dPs n f g).any fun z => PyData.eqv z (.tuple (dI [i, j]))) = true := by
  obtain ⟨k, hk, e1, e2⟩ := h
  refine List.any_eq_true.mpr ⟨.tuple (dI [f k, g k]), List.mem_map.mpr ⟨k, List.mem_range.mpr hk, rfl⟩, ?_⟩
  rw [eqv_tups, e1, e2]
  exact decide_eq_true rfl
/-! ### every second one -/
theorem pickV_map {α : Type} {xs : List α} : ∀ {is : List Nat}, (∀ j ∈ is, j < xs.length) → (pickV xs is).length = is.length ∧ ∀ i j : Nat, is[i]? = some j → (pickV xs is)[i]? = xs[j]?
  | [], _ => ⟨rfl, fun i j h => by simp at h⟩
  | k :: is, h => by
    have ih := pickV_map (xs := xs) (is := is) fun j hj => h j (List.mem_cons_of_mem _ hj)
    have hk := h k List.mem_cons_self
    have e : pickV xs (k :: is) = xs[k] :: pickV xs is := by
      unfold pickV
      rw [List.filterMap_cons, List.getElem?_eq_getElem hk]
    rw [e]
    refine ⟨by rw [List.length_cons, ih.1, List.length_cons], fun i j hij => ?_⟩
    cases i with
    | zero =>
      have ej : k = j := Option.some.inj hij
      rw [← ej, List.getElem?_eq_getElem hk]
      rfl
    | succ i => exact ih.2 i j hij
theorem ix_odd : pickIx 42 (some 1) none (some 2) = (List.range 21).map fun i => 2 * i + 1 := by decide +kernel
theorem ix_even : pickIx 42 (some 0) none (some 2) = (List.range 21).map fun i => 2 * i := by decide +kernel
theorem second {H : Hp} {xs : List V} {f g : Nat → Int} (h : Prs H xs f g) (hl : xs.length = 42) (e : Nat) (he : e = 0 ∨ e = 1) :
    (pickV xs (pickIx xs.length (some (e : Int)) none (some 2))).length = 21 ∧ Prs H (pickV xs (pickIx xs.length (some (e : Int)) none (some 2))) (fun i => f (2 * i + e)) (fun i => g (2 * i + e)) := by
  have ei : pickIx xs.length (some (e : Int)) none (some 2) = (List.range 21).map fun i => 2 * i + e := by
    rw [hl]
    rcases he with rfl | rfl
    · exact ix_even
    · exact ix_odd
  have q := pickV_map (xs := xs) (is := (List.range 21).map fun i => 2 * i + e) fun j hj => by
    obtain ⟨i, hi, rfl⟩ := List.mem_map.mp hj
    have := List.mem_range.mp hi
    omega
  rw [ei]
  have n1 : (pickV xs ((List.range 21).map fun i => 2 * i + e)).length = 21 := by
    rw [q.1, List.length_map, List.length_range]
  refine ⟨n1, fun i hi => ?_⟩
  rw [n1] at hi
  obtain ⟨p, e1, e2⟩ := h (2 * i + e) (by omega)
  refine ⟨p, ?_, e2⟩
  rw [q.2 i (2 * i + e) (by rw [List.getElem?_map, List.getElem?_range hi]; rfl)]
  exact e1
theorem Prs.take {H : Hp} {xs : List V} {f g : Nat → Int} (h : Prs H xs f g) (n : Nat) : Prs H (xs.take n) f g := fun i hi => by
  rw [List.length_take] at hi
  obtain ⟨p, e1, e2⟩ := h i (by omega)
  exact ⟨p, by rw [List.getElem?_take_of_lt (by omega)]; exact e1, e2⟩
theorem sc_records_to : FnScope ["slope", "bound", "bottoms", "p", "q"] ["slope", "bound"] (defScope st_records_to) := ⟨rfl, rfl, rfl, by decide +kernel, rfl, by decide +kernel, by decide +kernel⟩
theorem sc_greatest_below : FnScope ["slope", "bound"] ["slope", "bound"] (defScope st_greatest_below) := ⟨rfl, rfl, rfl, by decide +kernel, rfl, by decide +kernel, by decide +kernel⟩
theorem sc_least_above : FnScope ["slope", "bound"] ["slope", "bound"] (defScope st_least_above) := ⟨rfl, rfl, rfl, by decide +kernel, rfl, by decide +kernel, by decide +kernel⟩
theorem sc_best : FnScope ["slope", "bound"] ["slope", "bound"] (defScope st_best) := ⟨rfl, rfl, rfl, by decide +kernel, rfl, by decide +kernel, by decide +kernel⟩
theorem sc_records : FnScope ["slope", "bound"] ["slope", "bound"] (defScope st_records) := ⟨rfl, rfl, rfl, by decide +kernel, rfl, by decide +kernel, by decide +kernel⟩
theorem sc_nearest_point : FnScope ["slope", "side", "bound", "top", "bottom"] ["slope", "side", "bound"] (defScope st_nearest_point) := ⟨rfl, rfl, rfl, by decide +kernel, rfl, by decide +kernel, by decide +kernel⟩
theorem sc_is_corner : FnScope ["slope", "point"] ["slope", "point"] (defScope st_is_corner) := ⟨rfl, rfl, rfl, by decide +kernel, rfl, by decide +kernel, by decide +kernel⟩
theorem sc_corners : FnScope ["slope", "side", "count", "some", "own", "top", "bottom"] ["slope", "side", "count"] (defScope st_corners) := ⟨rfl, rfl, rfl, by decide +kernel, rfl, by decide +kernel, by decide +kernel⟩
section
variable {P : Program} {w : World} {K : PySem.W.Frag} {mg : Str → Option Value} {base : Heap}
theorem cal_greatest_below (Tx : Gm K mg) : C8.Cal P w K mg base 5 "greatest_below" (spSideTo K 1) [] := by
  have c_check_slope : C8.Cal P w K mg base 1 "check_slope" (spCheckSlope K) [] := cal_check_slope Tx
  have c_check_bound : C8.Cal P w K mg base 3 "check_bound" spCheckBound [] := cal_check_bound Tx
  have c_below_to : C8.Cal P w K mg base 4 "below_to" (spSideTo K 1) [] := cal_below_to Tx
  refine cal_of Tx.f_greatest_below sc_greatest_below (fun _ _ _ _ _ _ us hl => match us, hl with | [_, _], _ => rfl) (fun vs H Q E h => ?_) (fun f cdv A outer st H vs Q E hr h => ?_)
  · obtain ⟨x, a, bd, s, rfl, _⟩ := h
    rfl
  · obtain ⟨x, a, bd, s, rfl, sl, h1, h2, side, q⟩ := h
    refine ⟨_, (pss_cons (ps_expr (C8.pe_c c_check_slope hr (by decide) rfl (pa_cons (pv 0) pa_nil)))
      (pss_cons (ps_expr (C8.pe_c c_check_bound hr (by decide) rfl (pa_cons (pv 1) pa_nil)))
      (pss_one (ps_ret (C8.pe_c c_below_to hr (by decide) rfl (pa_cons (pv 0) (pa_cons (pv 1) pa_nil))))))), ?_⟩
    exact ⟨_, rfl, x, a, rfl, sl, _, rfl, bd, rfl, h1, h2, _, rfl, _, rfl, x, a, bd, s, rfl, sl, h1, h2, side, q⟩
theorem cal_least_above (Tx : Gm K mg) : C8.Cal P w K mg base 5 "least_above" (spSideTo K 0) [] := by
  have c_check_slope : C8.Cal P w K mg base 1 "check_slope" (spCheckSlope K) [] := cal_check_slope Tx
  have c_check_bound : C8.Cal P w K mg base 3 "check_bound" spCheckBound [] := cal_check_bound Tx
  have c_above_to : C8.Cal P w K mg base 4 "above_to" (spSideTo K 0) [] := cal_above_to Tx
  refine cal_of Tx.f_least_above sc_least_above (fun _ _ _ _ _ _ us hl => match us, hl with | [_, _], _ => rfl) (fun vs H Q E h => ?_) (fun f cdv A outer st H vs Q E hr h => ?_)
  · obtain ⟨x, a, bd, s, rfl, _⟩ := h
    rfl
  · obtain ⟨x, a, bd, s, rfl, sl, h1, h2, side, q⟩ := h
    refine ⟨_, (pss_cons (ps_expr (C8.pe_c c_check_slope hr (by decide) rfl (pa_cons (pv 0) pa_nil)))
      (pss_cons (ps_expr (C8.pe_c c_check_bound hr (by decide) rfl (pa_cons (pv 1) pa_nil)))
      (pss_one (ps_ret (C8.pe_c c_above_to hr (by decide) rfl (pa_cons (pv 0) (pa_cons (pv 1) pa_nil))))))), ?_⟩
    exact ⟨_, rfl, x, a, rfl, sl, _, rfl, bd, rfl, h1, h2, _, rfl, _, rfl, x, a, bd, s, rfl, sl, h1, h2, side, q⟩
theorem cal_best (Tx : Gm K mg) : C8.Cal P w K mg base 8 "best" (spBestTo K) [] := by
  have c_check_slope : C8.Cal P w K mg base 1 "check_slope" (spCheckSlope K) [] := cal_check_slope Tx
  have c_check_bound : C8.Cal P w K mg base 3 "check_bound" spCheckBound [] := cal_check_bound Tx
  have c_best_to : C8.Cal P w K mg base 7 "best_to" (spBestTo K) [] := cal_best_to Tx
  refine cal_of Tx.f_best sc_best (fun _ _ _ _ _ _ us hl => match us, hl with | [_, _], _ => rfl) (fun vs H Q E h => ?_) (fun f cdv A outer st H vs Q E hr h => ?_)
  · obtain ⟨x, a, bd, s1, s0, rfl, _⟩ := h
    rfl
  · obtain ⟨x, a, bd, s1, s0, rfl, sl, h1, h2, d1, d0, q⟩ := h
    refine ⟨_, (pss_cons (ps_expr (C8.pe_c c_check_slope hr (by decide) rfl (pa_cons (pv 0) pa_nil)))
      (pss_cons (ps_expr (C8.pe_c c_check_bound hr (by decide) rfl (pa_cons (pv 1) pa_nil)))
      (pss_one (ps_ret (C8.pe_c c_best_to hr (by decide) rfl (pa_cons (pv 0) (pa_cons (pv 1) pa_nil))))))), ?_⟩
    exact ⟨_, rfl, x, a, rfl, sl, _, rfl, bd, rfl, h1, h2, _, rfl, _, rfl, x, a, bd, s1, s0, rfl, sl, h1, h2, d1, d0, q⟩
/-- all of them are bottoms, of the places 1 to 9 -/
def Small (a : Nat → Int) (ns : List Int) : Prop := ∀ k ∈ ns, ∃ i, 1 ≤ i ∧ i ≤ 9 ∧ k = B a i
def spRecordsTo (K : PySem.W.Frag) (mk : List V → HO) : Sp := fun vs H Q _ => ∃ (x : V) (a : Nat → Int) (bd : Int), vs = [x, .int bd] ∧ SlAt K H x a ∧ 1 ≤ bd ∧ bd ≤ 40 ∧ ∀ H' p ns, Same H H' → H' p = some (mk (ns.map V.int)) → ns.length ≤ 1000 → Small a ns → Q (.ref p) H'
theorem cal_records_to (Tx : Gm K mg) : C8.Cal P w K mg base 3 "records_to" (spRecordsTo K .lst) [] := by
  have c_neighbours_past : C8.Cal P w K mg base 2 "neighbours_past" (spNbPast K) [] := cal_neighbours_past Tx
  refine cal_of Tx.f_records_to sc_records_to (fun _ _ _ _ _ _ us hl => match us, hl with | [_, _], _ => rfl) (fun vs H Q E h => ?_) (fun f cdv A outer st H vs Q E hr h => ?_)
  · obtain ⟨x, a, bd, rfl, _⟩ := h
    rfl
  · obtain ⟨x, a, bd, rfl, sl, h1, h2, q⟩ := h
    have ok := sl.ok
    obtain ⟨m, past⟩ := past_ex ok h1
    have b10 := big10 ok
    have hm : m ≤ 10 := (past_iff ok past).mp (by omega)
    refine ⟨_, (pss_cons (ps_setLc (i := 2) (own := [("p", 3), ("q", 4)]) (g := gTup K 2 (gCons (gName 3) (gCons (gName 4) gNil))) (by rfl) sc_records_to.nd rfl rfl (sw_true rfl rfl rfl (by decide +kernel)) (pi_list (C8.pe_c c_neighbours_past hr (by decide) rfl (pa_cons (pv 0) (pa_cons (pv 1) pa_nil)))) (blkOk_by (own := [("p", 3), ("q", 4)]) (N := ["slope", "bound", "bottoms", "p", "q"]) (sc := defScope st_records_to) (by decide +kernel)) (fun _ _ _ _ _ => (pg_tup rfl (pgs_cons (pg_name (i := 3) sc_records_to.nd rfl (Or.inl rfl)) (pgs_cons (pg_name (i := 4) sc_records_to.nd rfl (Or.inl rfl)) pgs_nil)))) (fun _ _ _ _ _ => (pts_one (pt_cmpR op_le (pv 4) (pv 1) (nomark _)))) (fun _ _ _ _ _ => (pv 4)))
      (pss_one (ps_ret (pe_callB (cr_sortedSet rfl) (by rfl) Tx.n_sorted (by decide +kernel) (pa_cons (pe_callTy (cr_setL rfl) (by rfl) Tx.n_set (by decide +kernel) (pa_cons (pv 2) pa_nil)) pa_nil))))), ?_⟩
    refine ⟨_, rfl, _, rfl, x, a, bd, m, rfl, sl, past, by omega, fun H1 L s1 ⟨xs, hL, len, prs⟩ => ⟨L, rfl, ⟨_, SqL.of hL⟩, fun D nD => ?_⟩⟩
    refine lc_list (K := K) (a := L) (xs := xs) (fun i H' => Same H1 H' ∧ ∃ ks : List Int, H' D = some (.lst (ks.map V.int)) ∧ ks.length ≤ i ∧ Small a ks) ⟨same_new nD, [], upd_same, Nat.le_refl _, fun k hk => nomatch hk⟩ (fun i H' _ ⟨s2, _⟩ => SqL.of (s2 _ _ hL)) ?_ ?_
    · rintro i y H' hy ⟨s2, ks, hD, lk, sm⟩
      have il : i < xs.length := (List.getElem?_eq_some_iff.mp hy).1
      obtain ⟨p, e1, e2⟩ := prs.get il
      obtain rfl : y = .ref p := Option.some.inj (hy.symm.trans e1)
      refine ⟨p, _, rfl, SqT.of (s2 _ _ e2), rfl, _, _, rfl, _, _, rfl, rfl, rfl, ?_⟩
      refine ⟨_, rfl, _, rfl, _, _, rfl, rfl, _, rfl, ite2 (fun e => ?_) (fun _ => ⟨s2, ks, hD, by omega, sm⟩)⟩
      have le : B a (i + 1) ≤ bd := of_decide_eq_true e
      have i9 : i + 1 ≤ 9 := by
        refine Nat.le_of_not_lt fun z => ?_
        have := B_mono ok (i := 10) (j := i + 1) (by omega) (by omega)
        omega
      refine ⟨_, rfl, _, hD, ?_, same_own s2 nD, ks ++ [B a (i + 1)], ?_, ?_, ?_⟩
      · rw [List.length_map]
        exact szlt (by omega)
      · rw [upd_same, List.map_append]
        rfl
      · rw [List.length_append]
        show ks.length + 1 ≤ i + 1
        omega
      · intro k hk
        rcases List.mem_append.mp hk with hk | hk
        · exact sm k hk
        · exact ⟨i + 1, by omega, i9, List.mem_singleton.mp hk⟩
    · rintro H' ⟨s2, ks, hD, lk, sm⟩
      rw [len] at lk
      refine ⟨_, rfl, D, ks, rfl, SqL.of hD, by omega, fun p c np hc => ?_⟩
      have s3 := same_new (H := H') (o := SetO w p (fun j => decide (j ∈ ks)) c) np
      refine ⟨p, _, c, rfl, upd_same, by omega, fun ns r pw mem ln nr => ?_⟩
      refine q _ r ns (((s1.trans s2).trans s3).trans (same_new nr)) upd_same (by omega) fun k hk => sm k ?_
      exact of_decide_eq_true ((mem k).mp hk)
theorem cal_records (Tx : Gm K mg) : C8.Cal P w K mg base 4 "records" (spRecordsTo K .tup) [] := by
  have c_check_slope : C8.Cal P w K mg base 1 "check_slope" (spCheckSlope K) [] := cal_check_slope Tx
  have c_check_bound : C8.Cal P w K mg base 3 "check_bound" spCheckBound [] := cal_check_bound Tx
  have c_records_to : C8.Cal P w K mg base 3 "records_to" (spRecordsTo K .lst) [] := cal_records_to Tx
  refine cal_of Tx.f_records sc_records (fun _ _ _ _ _ _ us hl => match us, hl with | [_, _], _ => rfl) (fun vs H Q E h => ?_) (fun f cdv A outer st H vs Q E hr h => ?_)
  · obtain ⟨x, a, bd, rfl, _⟩ := h
    rfl
  · obtain ⟨x, a, bd, rfl, sl, h1, h2, q⟩ := h
    have h3 : bd ≤ 10 ^ 30 := Int.le_trans h2 (by decide +kernel)
    refine ⟨_, (pss_cons (ps_expr (C8.pe_c c_check_slope hr (by decide) rfl (pa_cons (pv 0) pa_nil)))
      (pss_cons (ps_expr (C8.pe_c c_check_bound hr (by decide) rfl (pa_cons (pv 1) pa_nil)))
      (pss_one (ps_ret (pe_tupleOf (by rfl) Tx.n_tuple (C8.pe_c c_records_to hr (by decide) rfl (pa_cons (pv 0) (pa_cons (pv 1) pa_nil)))))))), ?_⟩
    refine ⟨_, rfl, x, a, rfl, sl, _, rfl, bd, rfl, h1, h3, _, rfl, _, rfl, x, a, bd, rfl, sl, h1, h2, fun H1 p ns s1 hp ln sm => ?_⟩
    exact .inl ⟨p, _, rfl, SqL.of hp, fun r nr => q _ r ns (s1.trans (same_new nr)) upd_same ln sm⟩
def spNearestPoint (K : PySem.W.Frag) : Sp := fun vs H Q _ => ∃ (x : V) (a : Nat → Int) (bd : Int) (up : Bool) (s : Nat), vs = [x, .str (sideW up), .int bd] ∧ SlAt K H x a ∧ 1 ≤ bd ∧ bd ≤ 10 ^ 30 ∧ Side a bd (if up = true then 0 else 1) s ∧
  ∀ H' p, Same H H' → H' p = some (.tup [.int (wid a bd s), .int (hgt a bd s)]) → Q (.ref p) H'
theorem side_eq (up : Bool) : decide (V.str (sideW up) = V.str "below") = !up := by cases up <;> decide +kernel
/-- a def's promise, with its own function object -/
theorem fn_of {x : Str} {st : Stmt} {N ps : List Str} {k : Nat} {sp : Sp} (F : Dn K mg x st) (S : FnScope N ps (defScope st)) (len : ∀ vs H Q E, sp vs H Q E → vs.length = ps.length)
    (hbody : ∀ (f : Addr) (cdv : Value) (A : Around) (outer : List Env) (s : Shared) (H : Hp) (vs : List V) (Q : VK) (E : XK), Room k (A.deeper (envOfC x (defScope st) s.heap.objs.size f cdv)) → sp vs H Q E →
      ∃ t, PSs (cxOf CX0 P w K mg base N x (defScope st) f cdv A outer s H E).nox (defBody st) t ∧ t { nx := fun _ H' => Q .non H', rt := Q } (start N vs) H) :
    ∃ f fd, FunD K x x (defArgs st) (defBody st) (defScope st) [] [] f fd ∧ mg x = some (.ref f) ∧ FnOk P w K mg base CX0 (k + 1) f fd ps sp := by
  obtain ⟨f, fd, FD, hm⟩ := F.ex
  refine ⟨f, fd, FD, hm, FD.ok S len (fun cdv A outer s H vs Q E hr h => ?_)⟩
  obtain ⟨t, h1, h2⟩ := hbody f cdv A outer s H vs Q E hr h
  exact ⟨t, PSs.nox h1, h2⟩
theorem fn_nearest_point (Tx : Gm K mg) : ∃ f fd, FunD K "nearest_point" "nearest_point" (defArgs st_nearest_point) (defBody st_nearest_point) (defScope st_nearest_point) [] [] f fd ∧ mg "nearest_point" = some (.ref f) ∧ FnOk P w K mg base CX0 5 f fd ["slope", "side", "bound"] (spNearestPoint K) := by
  have c_check_slope : C8.Cal P w K mg base 1 "check_slope" (spCheckSlope K) [] := cal_check_slope Tx
  have c_check_side : C8.Cal P w K mg base 1 "check_side" spCheckSide [] := cal_check_side Tx
  have c_check_bound : C8.Cal P w K mg base 3 "check_bound" spCheckBound [] := cal_check_bound Tx
  have c_below_to : C8.Cal P w K mg base 4 "below_to" (spSideTo K 1) [] := cal_below_to Tx
  have c_above_to : C8.Cal P w K mg base 4 "above_to" (spSideTo K 0) [] := cal_above_to Tx
  refine fn_of Tx.f_nearest_point sc_nearest_point (fun vs H Q E h => ?_) (fun f cdv A outer st H vs Q E hr h => ?_)
  · obtain ⟨x, a, bd, up, s, rfl, _⟩ := h
    rfl
  · obtain ⟨x, a, bd, up, s, rfl, sl, h1, h2, side, q⟩ := h
    refine ⟨_, (pss_cons (ps_expr (C8.pe_c c_check_slope hr (by decide) rfl (pa_cons (pv 0) pa_nil)))
      (pss_cons (ps_expr (C8.pe_c c_check_side hr (by decide) rfl (pa_cons (pv 1) pa_nil)))
      (pss_cons (ps_expr (C8.pe_c c_check_bound hr (by decide) rfl (pa_cons (pv 2) pa_nil)))
      (pss_cons (ps_asg (pe_ifExp (pt_cmpR op_eq (pv 1) pe_str (nomark _)) (C8.pe_c c_below_to hr (by decide) rfl (pa_cons (pv 0) (pa_cons (pv 2) pa_nil))) (C8.pe_c c_above_to hr (by decide) rfl (pa_cons (pv 0) (pa_cons (pv 2) pa_nil)))) (pg_tup rfl (pgs_cons (pg_name (i := 3) sc_nearest_point.nd rfl (Or.inl rfl)) (pgs_cons (pg_name (i := 4) sc_nearest_point.nd rfl (Or.inl rfl)) pgs_nil))))
      (pss_one (ps_ret (pe_tup (pa_cons (pv 4) (pa_cons (pv 3) pa_nil))))))))), ?_⟩
    refine ⟨_, rfl, x, a, rfl, sl, _, rfl, up, rfl, fun H1 s1 => ⟨_, rfl, bd, rfl, h1, h2, _, rfl, rfl, _, rfl, ?_⟩⟩
    rw [side_eq]
    cases up with
    | false =>
      refine iteT ⟨_, rfl, _, rfl, x, a, bd, s, rfl, sl.same s1, h1, h2, side, fun H2 p s2 fr => ?_⟩
      exact ⟨p, _, rfl, SqT.of fr, rfl, _, _, rfl, _, _, rfl, rfl, _, rfl, _, rfl, sz2, fun r nr => q _ r ((s1.trans s2).trans (same_new nr)) upd_same⟩
    | true =>
      refine iteF ⟨_, rfl, _, rfl, x, a, bd, s, rfl, sl.same s1, h1, h2, side, fun H2 p s2 fr => ?_⟩
      exact ⟨p, _, rfl, SqT.of fr, rfl, _, _, rfl, _, _, rfl, rfl, _, rfl, _, rfl, sz2, fun r nr => q _ r ((s1.trans s2).trans (same_new nr)) upd_same⟩
theorem cal_nearest_point (Tx : Gm K mg) : C8.Cal P w K mg base 5 "nearest_point" (spNearestPoint K) [] := by
  obtain ⟨f, fd, FD, hm, F⟩ := fn_nearest_point (P := P) (w := w) (base := base) Tx
  exact ⟨f, fd, _, [], F, hm, FD.kp, FD.bindsN (fun _ _ _ _ _ _ us hl => match us, hl with | [_, _, _], _ => rfl), .nil⟩
def spIsCorner (K : PySem.W.Frag) : Sp := fun vs H Q _ => ∃ (x : V) (a : Nat → Int) (p : Addr) (i : Nat), vs = [x, .ref p] ∧ SlAt K H x a ∧ 1 ≤ i ∧ B a i ≤ 10 ^ 30 ∧ H p = some (.tup [.int (B a i), .int (T a i)]) ∧ ∀ H', Same H H' → Q (.bl true) H'
theorem cal_is_corner (Tx : Gm K mg) : C8.Cal P w K mg base 5 "is_corner" (spIsCorner K) [] := by
  have c_check_slope : C8.Cal P w K mg base 1 "check_slope" (spCheckSlope K) [] := cal_check_slope Tx
  have c_check_point : C8.Cal P w K mg base 4 "check_point" spCheckPoint [] := cal_check_point Tx
  have c_neighbours_past : C8.Cal P w K mg base 2 "neighbours_past" (spNbPast K) [] := cal_neighbours_past Tx
  refine cal_of Tx.f_is_corner sc_is_corner (fun _ _ _ _ _ _ us hl => match us, hl with | [_, _], _ => rfl) (fun vs H Q E h => ?_) (fun f cdv A outer st H vs Q E hr h => ?_)
  · obtain ⟨x, a, p, i, rfl, _⟩ := h
    rfl
  · obtain ⟨x, a, p, i, rfl, sl, hi, hb, hp, q⟩ := h
    have ok := sl.ok
    have q30 := p30
    have b1 := B_pos ok hi
    have t0 := T_nn ok hi
    have t1 := T_le ok hi
    obtain ⟨m, past⟩ := past_ex ok b1
    have hm := past_m ok past (by omega)
    have im : i < m := Nat.lt_of_not_le fun z => by
      have := past_gt ok past z
      omega
    refine ⟨_, (pss_cons (ps_expr (C8.pe_c c_check_slope hr (by decide) rfl (pa_cons (pv 0) pa_nil)))
      (pss_cons (ps_expr (C8.pe_c c_check_point hr (by decide) rfl (pa_cons (pv 1) pa_nil)))
      (pss_cons (ps_if (pt_cmpR op_lt (pe_ix ix_tup (pv 1) pe_int (fun _ _ => rfl)) pe_int (nomark _)) (pss_one (ps_ret (pe_cmpR (op_eqD hr.units) (pv 1) (pe_tup (pa_cons pe_int (pa_cons pe_int pa_nil))) (nomark _)))) pss_nil)
      (pss_one (ps_ret (pe_cmpR (op_inD (hu65 hr)) (pe_tup (pa_cons (pe_ix ix_tup (pv 1) pe_int (fun _ _ => rfl)) (pa_cons (pe_ix ix_tup (pv 1) pe_int (fun _ _ => rfl)) pa_nil))) (C8.pe_c c_neighbours_past hr (by decide) rfl (pa_cons (pv 0) (pa_cons (pe_ix ix_tup (pv 1) pe_int (fun _ _ => rfl)) pa_nil))) (by rfl))))))), ?_⟩
    refine ⟨_, rfl, x, a, rfl, sl, _, rfl, p, _, _, rfl, hp, ⟨by omega, hb⟩, ⟨t0, by omega⟩, fun H1 s1 => ?_⟩
    have hp1 := s1 _ _ hp
    refine ⟨_, rfl, p, _, 0, _, rfl, rfl, SqT.of hp1, atI_nat (j := 0) rfl, _, _, rfl, rfl, _, rfl, ite2 (fun e => absurd (of_decide_eq_true e) (by omega)) (fun _ => ?_)⟩
    refine ⟨_, rfl, p, _, 1, _, rfl, rfl, SqT.of hp1, atI_nat (j := 1) rfl, _, rfl, p, _, 0, _, rfl, rfl, SqT.of hp1, atI_nat (j := 0) rfl, sz2, fun z nz => ?_⟩
    have s2 := same_new (H := H1) (o := .tup [.int (T a i), .int (B a i)]) nz
    refine ⟨_, rfl, _, rfl, p, _, 0, _, rfl, rfl, SqT.of (s2 _ _ hp1), atI_nat (j := 0) rfl, x, a, B a i, m, rfl, (sl.same s1).same s2, past, by omega, fun H2 L s3 ⟨xs, hL, len, prs⟩ => ?_⟩
    refine ⟨.tuple (dI [T a i, B a i]), dPs xs.length _ _, dp_pair (s3 _ _ upd_same), .lst (SqL.of hL) (dp_prs prs), shaped_tup _, shaped_prs _ _ _, ?_⟩
    rw [any_prs ⟨i - 1, by omega, by rw [show i - 1 + 1 = i by omega], by rw [show i - 1 + 1 = i by omega]⟩]
    exact q H2 ((s1.trans s2).trans s3)
def spCorners (K : PySem.W.Frag) : Sp := fun vs H Q _ => ∃ (x : V) (a : Nat → Int) (up : Bool), vs = [x, .str (sideW up), .int 20] ∧ SlAt K H x a ∧
  ∀ H' p ys, Same H H' → H' p = some (.tup ys) → ys.length = 20 → Prs H' ys (fun i => B a (2 * i + (if up = true then 0 else 1))) (fun i => T a (2 * i + (if up = true then 0 else 1))) → Q (.ref p) H'
theorem cal_corners (Tx : Gm K mg) : C8.Cal P w K mg base 3 "corners" (spCorners K) [] := by
  have c_check_slope : C8.Cal P w K mg base 1 "check_slope" (spCheckSlope K) [] := cal_check_slope Tx
  have c_check_side : C8.Cal P w K mg base 1 "check_side" spCheckSide [] := cal_check_side Tx
  have c_is_between : C8.Cal P w K mg base 2 "is_between" spIsBetween [] := cal_is_between Tx
  have c_neighbours_to : C8.Cal P w K mg base 2 "neighbours_to" (spNbTo K) [] := cal_neighbours_to Tx
  refine cal_of Tx.f_corners sc_corners (fun _ _ _ _ _ _ us hl => match us, hl with | [_, _, _], _ => rfl) (fun vs H Q E h => ?_) (fun f cdv A outer st H vs Q E hr h => ?_)
  · obtain ⟨x, a, up, rfl, _⟩ := h
    rfl
  · obtain ⟨x, a, up, rfl, sl, q⟩ := h
    refine ⟨_, (pss_cons (ps_expr (C8.pe_c c_check_slope hr (by decide) rfl (pa_cons (pv 0) pa_nil)))
      (pss_cons (ps_expr (C8.pe_c c_check_side hr (by decide) rfl (pa_cons (pv 1) pa_nil)))
      (pss_cons (ps_if (pt_not (pt_val (C8.pe_c c_is_between hr (by decide) rfl (pa_cons (pv 2) (pa_cons pe_int (pa_cons (C8.pe_gc rfl Tx.cCorners) pa_nil)))))) (pss_one ps_never) pss_nil)
      (pss_cons (ps_set (i := 3) sc_corners.nd rfl (Or.inl rfl) (pe_op op_cat (pe_lst (pa_cons (pe_tup (pa_cons pe_int (pa_cons pe_int pa_nil))) pa_nil)) (C8.pe_c c_neighbours_to hr (by decide) rfl (pa_cons (pv 0) (pa_cons (pe_op op_mul pe_int (pv 2)) pa_nil)))))
      (pss_cons (ps_set (i := 4) sc_corners.nd rfl (Or.inl rfl) (pe_ifExp (pt_cmpR op_eq (pv 1) pe_str (nomark _)) (pe_sliceSt (pv 3) (by decide)) (pe_sliceSt (pv 3) (by decide))))
      (pss_one (ps_ret (pe_tupleOf (by rfl) Tx.n_tuple (pe_lc (own := [("top", 5), ("bottom", 6)]) (g := gTup K 2 (gCons (gName 5) (gCons (gName 6) gNil))) (by rfl) sc_corners.nd (pi_list (pe_slice sl_list (pv 4) po_none (po_some (pv 2)))) (blkOk_by (own := [("top", 5), ("bottom", 6)]) (N := ["slope", "side", "count", "some", "own", "top", "bottom"]) (sc := defScope st_corners) (by decide +kernel)) (fun _ _ _ _ _ => (pg_tup rfl (pgs_cons (pg_name (i := 5) sc_corners.nd rfl (Or.inl rfl)) (pgs_cons (pg_name (i := 6) sc_corners.nd rfl (Or.inl rfl)) pgs_nil)))) (fun _ _ _ _ _ => pts_nil) (fun _ _ _ _ _ => (pe_tup (pa_cons (pv 6) (pa_cons (pv 5) pa_nil))))))))))))), ?_⟩
    refine ⟨_, rfl, x, a, rfl, sl, _, rfl, up, rfl, fun H1 s1 => ?_⟩
    refine ⟨_, rfl, 20, 1, 30, rfl, by decide, by decide, true, rfl, iteF ?_⟩
    -- some
    refine ⟨sz2, fun u nu => ⟨(by show 1 ≤ sizeLine; decide), fun v nv => ?_⟩⟩
    have s2 := (same_new (H := H1) (o := .tup [.int 1, .int 0]) nu).trans (same_new (o := .lst [.ref u]) nv)
    have hu0 : (upd (upd H1 u (.tup [.int 1, .int 0])) v (.lst [.ref u])) u = some (.tup [.int 1, .int 0]) := same_new nv _ _ upd_same
    refine ⟨_, rfl, _, rfl, _, _, rfl, rfl, small_mul (by decide) (by decide), x, a, 40, rfl, (sl.same s1).same s2, by decide, fun H2 L s3 ⟨xs, hL, len, prs⟩ => ?_⟩
    refine ⟨v, L, _, _, rfl, rfl, s3 _ _ upd_same, hL, szle (by rw [len]; show 1 + (40 + 1) ≤ 1000000; decide), fun c nc => ?_⟩
    have s4 := ((s1.trans s2).trans s3).trans (same_new (o := .lst ([.ref u] ++ xs)) nc)
    generalize eG : upd H2 c (.lst ([.ref u] ++ xs)) = G at s4 ⊢
    have hc : G c = some (.lst ([.ref u] ++ xs)) := by rw [← eG, upd_same]
    have cl : ([V.ref u] ++ xs).length = 42 := by
      rw [List.length_append, len]
      rfl
    have pr : Prs G ([.ref u] ++ xs) (fun i => T a i) (fun i => B a i) := by
      rw [← eG]
      exact (Prs.cons (f := fun i => T a i) (g := fun i => B a i) prs (s3 _ _ hu0) (fun _ => rfl) (fun _ => rfl)).same (same_new nc)
    clear eG
    generalize [V.ref u] ++ xs = zs at hc cl pr
    -- own, and behind it
    have go : ∀ (e : Nat), e = (if up = true then 0 else 1) → ∀ d, G d = none →
        tRet (tThen (tLc (iList K (tSl (rSlL K) (tVar 4) tNoPart (tPart (tVar 2)))) (gTup K 2 (gCons (gName 5) (gCons (gName 6) gNil))) tYes (tTup (tCons (tVar 6) (tCons (tVar 5) tNil))) [5, 6]) (kTup K))
          { nx := fun _ H' => Q .non H', rt := Q } [some x, some (.str (sideW up)), some (.int 20), some (.ref c), some (.ref d), none, none] (upd G d (.lst (pickV zs (pickIx zs.length (some (e : Int)) none (some 2))))) := fun e ee d nd => by
      have se := second pr cl e (by rw [ee]; split <;> simp)
      have s5 := same_new (H := G) (o := .lst (pickV zs (pickIx zs.length (some (e : Int)) none (some 2)))) nd
      refine ⟨_, rfl, _, rfl, 20, rfl, d, _, rfl, SqL.of upd_same, fun r nr => ?_⟩
      have ec : cutV (pickV zs (pickIx zs.length (some (e : Int)) none (some 2))) none (some 20) = (pickV zs (pickIx zs.length (some (e : Int)) none (some 2))).take 20 := cut_to (s := 20) (by rw [se.1]; decide)
      rw [ec]
      generalize eh : (pickV zs (pickIx zs.length (some (e : Int)) none (some 2))).take 20 = hs
      have hl : hs.length = 20 := by
        rw [← eh, List.length_take, se.1]
        rfl
      have s6 := s5.trans (same_new (o := .lst hs) nr)
      have hp : Prs (upd (upd G d (.lst (pickV zs (pickIx zs.length (some (e : Int)) none (some 2))))) r (.lst hs)) hs (fun i => T a (2 * i + e)) (fun i => B a (2 * i + e)) := by
        rw [← eh]
        exact (se.2.take 20).same (by rw [eh]; exact s6)
      generalize eM : upd (upd G d (.lst (pickV zs (pickIx zs.length (some (e : Int)) none (some 2))))) r (.lst hs) = M at s6 hp
      have hr0 : M r = some (.lst hs) := by rw [← eM, upd_same]
      clear eM
      refine ⟨r, rfl, ⟨_, SqL.of hr0⟩, fun D nD => ?_⟩
      refine lc_list (K := K) (a := r) (xs := hs) (fun i H' => Same M H' ∧ ∃ ys : List V, H' D = some (.lst ys) ∧ ys.length = i ∧ Prs H' ys (fun i => B a (2 * i + e)) (fun i => T a (2 * i + e))) ⟨same_new nD, [], upd_same, rfl, Prs.nil⟩ (fun i H' _ ⟨s7, _⟩ => SqL.of (s7 _ _ hr0)) ?_ ?_
      · rintro i y H' hy ⟨s7, ys, hD, ly, py⟩
        have il : i < hs.length := (List.getElem?_eq_some_iff.mp hy).1
        obtain ⟨p, e1, e2⟩ := hp.get il
        obtain rfl : y = .ref p := Option.some.inj (hy.symm.trans e1)
        refine ⟨p, _, rfl, SqT.of (s7 _ _ e2), rfl, _, _, rfl, _, _, rfl, rfl, rfl, ?_⟩
        refine ⟨_, rfl, _, rfl, sz2, fun z nz => ?_⟩
        have s8 := same_new (H := H') (o := .tup [.int (B a (2 * i + e)), .int (T a (2 * i + e))]) nz
        refine ⟨ys, s8 _ _ hD, szlt (by omega), same_own (s7.trans s8) nD, ys ++ [.ref z], upd_same, by rw [List.length_append, ly]; rfl, ?_⟩
        refine ((py.same s8).push ?_).other (s8 _ _ hD)
        rw [ly]
        exact upd_same
      · rintro H' ⟨s7, ys, hD, ly, py⟩
        refine .inl ⟨D, ys, rfl, SqL.of hD, fun t nt => ?_⟩
        have s9 := same_new (H := H') (o := .tup ys) nt
        refine q _ t ys (((s4.trans s6).trans s7).trans s9) upd_same (by rw [ly, hl]) ?_
        rw [← ee]
        exact py.same s9
    refine ⟨_, rfl, rfl, _, rfl, ?_⟩
    rw [side_eq]
    cases up with
    | false => exact iteT ⟨_, rfl, c, zs, rfl, SqL.of hc, fun d nd => go 1 rfl d nd⟩
    | true => exact iteF ⟨_, rfl, c, zs, rfl, SqL.of hc, fun d nd => go 0 rfl d nd⟩
end
end K48
set_option Elab.async false
set_option linter.all false
set_option maxRecDepth 100000
set_option maxHeartbeats 4000000
/-! The purse of the law, and what is drawn from it. -/
namespace K48
open PySem PySem.Spec PyProof.Rows L2
theorem sc_law_purse : FnScope ["_law_script", "_law_k", "_law_cell", "_law_more", "_law_figures"] ["_law_script", "_law_k"] (defScope st_law_purse) := ⟨rfl, rfl, rfl, by decide +kernel, rfl, by decide +kernel, by decide +kernel⟩
theorem sc_law_take : FnScope ["_law_purse_here", "_law_upto", "_law_digit", "_law_seed", "_law_laps", "_law_factor"] ["_law_purse_here", "_law_upto"] (defScope st_law_take) := ⟨rfl, rfl, rfl, by decide +kernel, rfl, by decide +kernel, by decide +kernel⟩
theorem sc_law_one : FnScope ["_law_purse_here", "_law_things"] ["_law_purse_here", "_law_things"] (defScope st_law_one) := ⟨rfl, rfl, rfl, by decide +kernel, rfl, by decide +kernel, by decide +kernel⟩
theorem sc_law_parts : FnScope ["_law_purse_here", "_law_menu", "_law_lead_here", "_law_k"] ["_law_purse_here"] (defScope st_law_parts) := ⟨rfl, rfl, rfl, by decide +kernel, rfl, by decide +kernel, by decide +kernel⟩
/-- the purse: three ints, the laps at most n -/
def Pu (H : Hp) (pu : Addr) (n : Int) : Prop := ∃ p0 p1 p2 : Int, H pu = some (.lst [.int p0, .int p1, .int p2]) ∧ 0 ≤ p2 ∧ p2 ≤ n
theorem Pu.same {H H' : Hp} {pu : Addr} {n : Int} (h : Pu H pu n) (s : Same H H') : Pu H' pu n := by
  obtain ⟨p0, p1, p2, e, h⟩ := h
  exact ⟨p0, p1, p2, s _ _ e, h⟩
theorem Pu.le {H : Hp} {pu : Addr} {n m : Int} (h : Pu H pu n) (l : n ≤ m) : Pu H pu m := by
  obtain ⟨p0, p1, p2, e, h1, h2⟩ := h
  exact ⟨p0, p1, p2, e, h1, Int.le_trans h2 l⟩
/-- nothing but the purse has changed -/
def Kept (pu : Addr) (H H' : Hp) : Prop := ∀ b o, b ≠ pu → H b = some o → H' b = some o
theorem Kept.trans {pu : Addr} {H H' H'' : Hp} (h : Kept pu H H') (h' : Kept pu H' H'') : Kept pu H H'' := fun b o n e => h' b o n (h b o n e)
theorem kept_same {pu : Addr} {H H' : Hp} (h : Same H H') : Kept pu H H' := fun b o _ e => h b o e
theorem kept_upd {pu : Addr} {H : Hp} {o : HO} : Kept pu H (upd H pu o) := fun b x n e => by
  rw [upd_ne n]
  exact e
/-- all that is no list stands -/
theorem Kept.tup {pu p : Addr} {H H' : Hp} {n : Int} {xs : List V} (k : Kept pu H H') (h : Pu H pu n) (e : H p = some (.tup xs)) : H' p = some (.tup xs) := by
  obtain ⟨p0, p1, p2, e2, _⟩ := h
  exact k p _ (ne_of e e2 (fun z => by cases z)) e
theorem pM1 : (0 : Int) < 2147483399 := by decide
theorem pM2 : (0 : Int) < 2147483423 := by decide
theorem pM3 : (0 : Int) < 39979 := by decide
abbrev sz3 : (3 : Nat) ≤ sizeLine := by decide
section
variable {P : Program} {w : World} {K : PySem.W.Frag} {mg : Str → Option Value} {base : Heap}
def spPurse (K : PySem.W.Frag) : Sp := fun vs H Q _ => ∃ (sc : Addr) (ns : List Int) (k : Nat), vs = [.ref sc, .int (k : Nat)] ∧ SqL K H sc (ns.map V.int) ∧ k ≤ 1000 ∧ ∀ H' pu, Same H H' → H pu = none → Pu H' pu 0 → Q (.ref pu) H'
theorem cal_law_purse (Tx : Gm K mg) : C8.Cal P w K mg base 1 "_law_purse" (spPurse K) [] := by
  refine cal_of Tx.f_law_purse sc_law_purse (fun _ _ _ _ _ _ us hl => match us, hl with | [_, _], _ => rfl) (fun vs H Q E h => ?_) (fun f cdv A outer st H vs Q E hr h => ?_)
  · obtain ⟨sc, ns, k, rfl, _⟩ := h
    rfl
  · obtain ⟨sc, ns, k, rfl, hs, hk, q⟩ := h
    refine ⟨_, (pss_cons (ps_set (i := 2) sc_law_purse.nd rfl (Or.inl rfl) (pe_ifExp (pt_cmpR op_lt (pv 1) (pe_callB call_len_seq (by rfl) Tx.n_len (by decide +kernel) (pa_cons (pv 0) pa_nil)) (nomark _)) (pe_ix ix_list (pv 0) (pv 1) (fun _ _ => rfl)) (pe_op op_add (pe_op op_mul pe_int (pv 1)) pe_int)))
      (pss_cons (ps_if (pt_cmpR op_ge (pv 1) (pe_callB call_len_seq (by rfl) Tx.n_len (by decide +kernel) (pa_cons (pv 0) pa_nil)) (nomark _)) (pss_one (ps_for PassesOwn.never rfl (pi_list (pe_slice sl_list (pv 0) po_none (po_some pe_int))) (pg_name (i := 3) sc_law_purse.nd rfl (Or.inl rfl)) (pss_one (ps_set (i := 2) sc_law_purse.nd rfl (Or.inl rfl) (pe_op op_mod (pe_callTy call_int1 (by rfl) Tx.n_int (by decide +kernel) (pa_cons (pe_op op_add (pe_op op_mul (pv 2) pe_int) (pe_op op_mul (pv 3) (pe_op op_add (pv 1) pe_int))) pa_nil)) pe_int))))) pss_nil)
      (pss_cons (ps_set (i := 4) sc_law_purse.nd rfl (Or.inl rfl) (pe_ifExp (PW.pt (pw_or (pt_cmpR op_lt (pv 2) pe_int (nomark _)) (pw_or1 (pt_cmpR op_ge (pv 2) (pe_op op_pow pe_int pe_int) (nomark _))))) (pe_callB call_abs (by rfl) Tx.n_abs (by decide +kernel) (pa_cons (pv 2) pa_nil)) pe_int))
      (pss_one (ps_ret (pe_lst (pa_cons (pe_op op_mod (pe_callTy call_int1 (by rfl) Tx.n_int (by decide +kernel) (pa_cons (pv 2) pa_nil)) pe_int) (pa_cons (pv 4) (pa_cons pe_int pa_nil))))))))), ?_⟩
    have lm : (ns.map V.int).length = ns.length := List.length_map ..
    by_cases c : k < ns.length
    · have c1 : (k : Int) < ((ns.map V.int).length : Int) := by
        rw [lm]
        omega
      have g : (ns.map V.int)[k]? = some (.int ns[k]) := by
        rw [List.getElem?_map, List.getElem?_eq_getElem c]
        rfl
      refine ⟨_, rfl, _, rfl, sc, _, rfl, .inl hs, _, _, rfl, rfl, _, rfl, ite2 (fun _ => ?_) (fun e => absurd (decide_eq_true c1) e)⟩
      refine ⟨_, rfl, _, rfl, sc, _, _, _, rfl, rfl, hs, atI_nat (j := k) g, ?_⟩
      refine ⟨_, rfl, _, rfl, sc, _, rfl, .inl hs, _, _, rfl, rfl, _, rfl, ite2 (fun e => absurd (of_decide_eq_true e) (by omega)) (fun _ => ?_)⟩
      have s1 := Same.refl H
      exact ⟨_, rfl, _, _, rfl, rfl, _, rfl, ite2 (fun _ => iteT ⟨_, rfl, _, rfl, ⟨_, rfl, .inl ⟨_, rfl, _, _, rfl, rfl, pM1, _, rfl, sz3, fun pu np => q _ pu (s1.trans (same_new np)) (s1.free np) ⟨_, _, _, upd_same, Int.le_refl _, Int.le_refl _⟩⟩⟩⟩) (fun _ => ⟨_, rfl, _, _, rfl, rfl, ⟨by decide, by decide, by decide⟩, _, _, rfl, rfl, _, rfl, ite2 (fun _ => ⟨_, rfl, _, rfl, ⟨_, rfl, .inl ⟨_, rfl, _, _, rfl, rfl, pM1, _, rfl, sz3, fun pu np => q _ pu (s1.trans (same_new np)) (s1.free np) ⟨_, _, _, upd_same, Int.le_refl _, Int.le_refl _⟩⟩⟩⟩) (fun _ => ⟨_, rfl, .inl ⟨_, rfl, _, _, rfl, rfl, pM1, _, rfl, sz3, fun pu np => q _ pu (s1.trans (same_new np)) (s1.free np) ⟨_, _, _, upd_same, Int.le_refl _, Int.le_refl _⟩⟩⟩)⟩)⟩
    · have c1 : ¬ (k : Int) < ((ns.map V.int).length : Int) := by
        rw [lm]
        omega
      refine ⟨_, rfl, _, rfl, sc, _, rfl, .inl hs, _, _, rfl, rfl, _, rfl, ite2 (fun e => absurd (of_decide_eq_true e) c1) (fun _ => ?_)⟩
      refine ⟨_, rfl, _, _, rfl, rfl, .inl ⟨by decide, by decide⟩, _, _, rfl, rfl, ?_⟩
      refine ⟨_, rfl, _, rfl, sc, _, rfl, .inl hs, _, _, rfl, rfl, _, rfl, ite2 (fun _ => ?_) (fun e => absurd (decide_eq_true (Int.not_lt.mp c1)) e)⟩
      refine ⟨_, rfl, 4, rfl, sc, _, rfl, hs, fun d nd => ⟨d, rfl, ⟨_, SqL.of upd_same⟩, ?_⟩⟩
      have s1 := same_new (H := H) (o := .lst (cutV (ns.map V.int) none (some 4))) nd
      refine for_list (K := K) (a := d) (xs := cutV (ns.map V.int) none (some 4)) (fun i σ H' => ∃ (c : Int) (v3 : Option V), σ = [some (.ref sc), some (.int (k : Nat)), some (.int c), v3, none] ∧ H' = upd H d (.lst (cutV (ns.map V.int) none (some 4)))) ⟨_, none, rfl, rfl⟩
        (fun i σ H' _ ⟨_, _, _, e⟩ => by rw [e]; exact SqL.of upd_same) ?_ ?_
      · rintro i x σ H' hx ⟨c, v3, rfl, rfl⟩
        have hx2 : x ∈ ns.map V.int := by
          have := List.mem_of_getElem? hx
          unfold cutV at this
          exact List.mem_of_mem_drop (List.mem_of_mem_take this)
        obtain ⟨n, _, rfl⟩ := List.mem_map.mp hx2
        refine ⟨_, rfl, _, _, rfl, rfl, .inr ⟨by decide, by decide⟩, _, rfl, _, rfl, _, _, rfl, rfl, _, _, rfl, rfl, .inr ⟨by omega, by omega⟩, _, _, rfl, rfl, .inl ⟨_, rfl, _, _, rfl, rfl, pM2, ?_⟩⟩
        exact ⟨_, _, rfl, rfl⟩
      · rintro σ H' ⟨c, v3, rfl, rfl⟩
        exact ⟨_, rfl, _, _, rfl, rfl, _, rfl, ite2 (fun _ => iteT ⟨_, rfl, _, rfl, ⟨_, rfl, .inl ⟨_, rfl, _, _, rfl, rfl, pM1, _, rfl, sz3, fun pu np => q _ pu (s1.trans (same_new np)) (s1.free np) ⟨_, _, _, upd_same, Int.le_refl _, Int.le_refl _⟩⟩⟩⟩) (fun _ => ⟨_, rfl, _, _, rfl, rfl, ⟨by decide, by decide, by decide⟩, _, _, rfl, rfl, _, rfl, ite2 (fun _ => ⟨_, rfl, _, rfl, ⟨_, rfl, .inl ⟨_, rfl, _, _, rfl, rfl, pM1, _, rfl, sz3, fun pu np => q _ pu (s1.trans (same_new np)) (s1.free np) ⟨_, _, _, upd_same, Int.le_refl _, Int.le_refl _⟩⟩⟩⟩) (fun _ => ⟨_, rfl, .inl ⟨_, rfl, _, _, rfl, rfl, pM1, _, rfl, sz3, fun pu np => q _ pu (s1.trans (same_new np)) (s1.free np) ⟨_, _, _, upd_same, Int.le_refl _, Int.le_refl _⟩⟩⟩)⟩)⟩
def spTake : Sp := fun vs H Q _ => ∃ (pu : Addr) (upto n : Int), vs = [.ref pu, .int upto] ∧ Pu H pu n ∧ n ≤ 1000000 ∧ 1 ≤ upto ∧ upto ≤ 1000000 ∧ ∀ H' r, Kept pu H H' → Pu H' pu (n + 1) → 0 ≤ r → r < upto → Q (.int r) H'
theorem cal_law_take (Tx : Gm K mg) : C8.Cal P w K mg base 1 "_law_take" spTake [] := by
  refine cal_of Tx.f_law_take sc_law_take (fun _ _ _ _ _ _ us hl => match us, hl with | [_, _], _ => rfl) (fun vs H Q E h => ?_) (fun f cdv A outer st H vs Q E hr h => ?_)
  · obtain ⟨pu, upto, n, rfl, _⟩ := h
    rfl
  · obtain ⟨pu, upto, n, rfl, ⟨p0, p1, p2, hp, h0, h1⟩, hn, u1, u2, q⟩ := h
    refine ⟨_, (pss_cons (ps_asg (pe_op op_add (pe_ix ix_list (pv 0) pe_int (fun _ _ => rfl)) pe_int) (pg_sub (pv 0) pe_int set_list))
      (pss_cons (ps_if (pt_cmpR op_gt (pe_ix ix_list (pv 0) pe_int (fun _ _ => rfl)) pe_int (nomark _)) (pss_cons (ps_asg (pe_callB call_divmodW (by rfl) Tx.n_divmod (by decide +kernel) (pa_cons (pe_ix ix_list (pv 0) pe_int (fun _ _ => rfl)) (pa_cons (pv 1) pa_nil))) (pg_tup rfl (pgs_cons (pg_sub (pv 0) pe_int set_list) (pgs_cons (pg_name (i := 2) sc_law_take.nd rfl (Or.inl rfl)) pgs_nil))))
      (pss_one (ps_ret (pv 2)))) pss_nil)
      (pss_cons (ps_par (i := 3) (j := 4) rfl sc_law_take.nd rfl rfl (by decide) rfl rfl (pa_cons (pe_callTy call_int1 (by rfl) Tx.n_int (by decide +kernel) (pa_cons (pe_ix ix_list (pv 0) pe_int (fun _ _ => rfl)) pa_nil)) (pa_cons (pe_ix ix_list (pv 0) pe_int (fun _ _ => rfl)) pa_nil)) (by rfl))
      (pss_cons (ps_set (i := 5) sc_law_take.nd rfl (Or.inl rfl) (pe_op op_add (pe_op op_mod (pe_callTy call_int1 (by rfl) Tx.n_int (by decide +kernel) (pa_cons (pe_op op_fdiv (pv 3) pe_int) pa_nil)) pe_int) pe_int))
      (pss_cons (ps_asg (pe_op op_mod (pe_callTy call_int1 (by rfl) Tx.n_int (by decide +kernel) (pa_cons (pe_op op_add (pe_op op_add (pe_op op_mul (pv 3) (pv 5)) (pe_op op_mul (pe_op op_mul pe_int (pv 4)) (pv 4))) pe_int) pa_nil)) pe_int) (pg_sub (pv 0) pe_int set_list))
      (pss_one (ps_ret (pe_op op_mod (pe_callTy call_int1 (by rfl) Tx.n_int (by decide +kernel) (pa_cons (pe_op op_fdiv (pe_ix ix_list (pv 0) pe_int (fun _ _ => rfl)) pe_int) pa_nil)) (pv 1))))))))), ?_⟩
    refine ⟨_, rfl, pu, _, 2, _, rfl, rfl, SqL.of hp, atI_nat (j := 2) rfl, _, _, rfl, rfl, _, rfl, pu, _, 2, 2, rfl, rfl, hp, rfl, ?_⟩
    have k1 : Kept pu H (upd H pu (.lst [.int p0, .int p1, .int (p2 + 1)])) := kept_upd
    have e1 : upd H pu (.lst [.int p0, .int p1, .int (p2 + 1)]) pu = some (.lst [.int p0, .int p1, .int (p2 + 1)]) := upd_same
    show (_ : Hp → Prop) (upd H pu (.lst [.int p0, .int p1, .int (p2 + 1)]))
    generalize upd H pu (.lst [.int p0, .int p1, .int (p2 + 1)]) = G at k1 e1 ⊢
    refine ⟨_, rfl, pu, _, 1, _, rfl, rfl, SqL.of e1, atI_nat (j := 1) rfl, _, _, rfl, rfl, _, rfl, ite2 (fun _ => ?_) (fun _ => ?_)⟩
    · refine ⟨_, rfl, pu, _, 1, _, rfl, rfl, SqL.of e1, atI_nat (j := 1) rfl, _, rfl, _, _, rfl, ⟨by omega, PyProof.noPylong_small (by omega)⟩, fun t nt => ?_⟩
      have tp : t ≠ pu := (ne_of_none e1 nt).symm
      refine ⟨t, _, rfl, SqT.of upd_same, rfl, _, _, rfl, _, rfl, pu, _, 1, 1, rfl, rfl, same_new nt _ _ e1, rfl, _, _, rfl, rfl, ?_⟩
      refine ⟨_, rfl, q _ _ ?_ ⟨_, _, _, upd_same, by omega, by omega⟩ (Int.emod_nonneg _ (by omega)) (Int.emod_lt_of_pos _ (by omega))⟩
      exact (k1.trans (kept_same (same_new nt))).trans kept_upd
    · refine ⟨_, rfl, pu, _, 0, _, rfl, rfl, SqL.of e1, atI_nat (j := 0) rfl, .inl ⟨_, rfl, _, rfl, pu, _, 2, _, rfl, rfl, SqL.of e1, atI_nat (j := 2) rfl, ?_⟩⟩
      refine ⟨_, _, rfl, ?_⟩
      refine ⟨_, rfl, _, _, rfl, rfl, ⟨by decide, by decide⟩, .inl ⟨_, rfl, _, _, rfl, rfl, pM3, _, _, rfl, rfl, ?_⟩⟩
      have f1 := Int.emod_nonneg (p0 / 13) (show (39979 : Int) ≠ 0 by decide)
      have f2 := Int.emod_lt_of_pos (p0 / 13) pM3
      refine ⟨_, rfl, _, rfl, _, _, rfl, rfl, .inr ⟨by omega, by omega⟩, _, rfl, _, _, rfl, rfl, .inl ⟨by decide, by decide⟩, _, rfl, _, _, rfl, rfl, .inr ⟨by omega, by omega⟩, _, _, rfl, rfl, _, _, rfl, rfl, .inl ⟨_, rfl, _, _, rfl, rfl, pM1, ?_⟩⟩
      refine ⟨_, rfl, pu, _, 0, 0, rfl, rfl, e1, rfl, ?_⟩
      refine ⟨_, rfl, pu, _, 0, _, rfl, rfl, SqL.of upd_same, atI_nat (j := 0) rfl, _, _, rfl, rfl, ⟨by decide, by decide⟩, .inl ⟨_, rfl, _, rfl, _, _, rfl, rfl, (by omega), ?_⟩⟩
      exact q _ _ (k1.trans kept_upd) ⟨_, _, _, upd_same, by omega, by omega⟩ (Int.emod_nonneg _ (by omega)) (Int.emod_lt_of_pos _ (by omega))
def spOne : Sp := fun vs H Q _ => ∃ (pu th : Addr) (n : Int) (ns : List Int), vs = [.ref pu, .ref th] ∧ Pu H pu n ∧ n ≤ 1000000 ∧ th ≠ pu ∧ H th = some (.lst (ns.map V.int)) ∧ ns ≠ [] ∧ ns.length ≤ 1000 ∧ ∀ H' i, Kept pu H H' → Pu H' pu (n + 1) → i ∈ ns → Q (.int i) H'
theorem cal_law_one (Tx : Gm K mg) : C8.Cal P w K mg base 2 "_law_one" spOne [] := by
  have c_law_take : C8.Cal P w K mg base 1 "_law_take" spTake [] := cal_law_take Tx
  refine cal_of Tx.f_law_one sc_law_one (fun _ _ _ _ _ _ us hl => match us, hl with | [_, _], _ => rfl) (fun vs H Q E h => ?_) (fun f cdv A outer st H vs Q E hr h => ?_)
  · obtain ⟨pu, th, n, ns, rfl, _⟩ := h
    rfl
  · obtain ⟨pu, th, n, ns, rfl, hp, hn, ne, ht, nn, nl, q⟩ := h
    have lm : (ns.map V.int).length = ns.length := List.length_map ..
    have n1 : 0 < ns.length := List.length_pos_iff.mpr nn
    refine ⟨_, (pss_one (ps_ret (pe_ix ix_list (pv 1) (C8.pe_c c_law_take hr (by decide) rfl (pa_cons (pv 0) (pa_cons (pe_callB call_len_seq (by rfl) Tx.n_len (by decide +kernel) (pa_cons (pv 1) pa_nil)) pa_nil))) (fun _ _ => rfl)))), ?_⟩
    refine ⟨_, rfl, _, rfl, _, rfl, th, _, rfl, .inl (SqL.of ht), pu, _, n, rfl, hp, hn, by omega, by omega, fun H1 r k1 pu1 r0 r1 => ?_⟩
    have rl : r.toNat < ns.length := by omega
    have g : (ns.map V.int)[r.toNat]? = some (.int ns[r.toNat]) := by
      rw [List.getElem?_map, List.getElem?_eq_getElem rl]
      rfl
    have g2 : atI (ns.map V.int) r = some (.int ns[r.toNat]) := by
      have := atI_nat g
      rwa [Int.toNat_of_nonneg r0] at this
    exact ⟨th, _, r, _, rfl, rfl, SqL.of (k1 _ _ ne ht), g2, q H1 _ k1 pu1 (List.getElem_mem rl)⟩
/-- i are drawn, the list at D grows -/
def Drawn (pu D : Addr) (H1 : Hp) (n : Int) (i : Nat) (H' : Hp) : Prop := (∀ b o, b ≠ pu → b ≠ D → H1 b = some o → H' b = some o) ∧ Pu H' pu (n + i) ∧ ∃ ns : List Int, H' D = some (.lst (ns.map V.int)) ∧ ns.length = i ∧ In20 ns
def spParts : Sp := fun vs H Q _ => ∃ (pu : Addr) (n : Int), vs = [.ref pu] ∧ Pu H pu n ∧ n ≤ 1000 ∧ ∀ H' r p1 p2 l t, Kept pu H H' → Pu H' pu (n + 7) → H' r = some (.tup [.ref p1, .ref p2]) → H' p1 = some (.tup (l.map V.int)) → H' p2 = some (.tup (t.map V.int)) →
  l.length ≤ 2 → t.length ≤ 3 → t ≠ [] → In20 l → In20 t → Q (.ref r) H'
def menu : List Int := [1, 1, 1, 2, 2, 3, 4, 7, 20]
theorem menu20 : In20 menu := by
  intro n hn
  have : menu.all (fun n => decide (1 ≤ n ∧ n ≤ 20)) = true := by decide
  exact of_decide_eq_true (List.all_eq_true.mp this n hn)
theorem Drawn.start {pu D : Addr} {H : Hp} {n : Int} (h : Pu H pu n) (nD : H D = none) : Drawn pu D H n 0 (upd H D (.lst [])) := by
  refine ⟨fun b o _ n2 e => by rw [upd_ne n2]; exact e, ?_, [], upd_same, rfl, fun n hn => nomatch hn⟩
  have := h.same (same_new (o := .lst []) nD)
  exact this.le (by omega)
theorem Drawn.step {pu D : Addr} {H1 H' H2 : Hp} {n z : Int} {i : Nat} (d : D ≠ pu) (h : Drawn pu D H1 n i H') (k : Kept pu H' H2) (p : Pu H2 pu (n + i + 1)) (hz : z ∈ menu) (hi : i ≤ 1000) : ∃ acc, H2 D = some (.lst acc) ∧ acc.length < sizeLine ∧ Drawn pu D H1 n (i + 1) (upd H2 D (.lst (acc ++ [.int z]))) := by
  obtain ⟨k1, _, ns, hD, ln, in20⟩ := h
  refine ⟨_, k _ _ d hD, by rw [List.length_map]; exact szlt (by omega), fun b o b1 b2 e => by rw [upd_ne b2]; exact k _ _ b1 (k1 b o b1 b2 e), ?_, ns ++ [z], ?_, by rw [List.length_append, ln]; rfl, ?_⟩
  · obtain ⟨p0, p1, p2, e, p⟩ := p
    refine ⟨p0, p1, p2, by rw [upd_ne (Ne.symm d)]; exact e, p.1, by omega⟩
  · rw [upd_same, List.map_append]
    rfl
  · intro m hm
    rcases List.mem_append.mp hm with hm | hm
    · exact in20 m hm
    · rw [List.mem_singleton.mp hm]
      exact menu20 z hz
theorem cal_law_parts (Tx : Gm K mg) : C8.Cal P w K mg base 3 "_law_parts" spParts [] := by
  have c_law_take : C8.Cal P w K mg base 1 "_law_take" spTake [] := cal_law_take Tx
  have c_law_one : C8.Cal P w K mg base 2 "_law_one" spOne [] := cal_law_one Tx
  refine cal_of Tx.f_law_parts sc_law_parts (fun _ _ _ _ _ _ us hl => match us, hl with | [_], _ => rfl) (fun vs H Q E h => ?_) (fun f cdv A outer st H vs Q E hr h => ?_)
  · obtain ⟨pu, n, rfl, _⟩ := h
    rfl
  · obtain ⟨pu, n, rfl, hp, hn, q⟩ := h
    refine ⟨_, (pss_cons (ps_set (i := 1) sc_law_parts.nd rfl (Or.inr rfl) (pe_lst (pa_cons pe_int (pa_cons pe_int (pa_cons pe_int (pa_cons pe_int (pa_cons pe_int (pa_cons pe_int (pa_cons pe_int (pa_cons pe_int (pa_cons pe_int pa_nil)))))))))))
      (pss_cons (ps_set (i := 2) sc_law_parts.nd rfl (Or.inl rfl) (pe_tupleOf (by rfl) Tx.n_tuple (pe_lc (own := [("_law_k", 3)]) (by rfl) sc_law_parts.nd (pi_range1 (by rfl) Tx.n_range (pa_cons (C8.pe_c c_law_take hr (by decide) rfl (pa_cons (pv 0) (pa_cons pe_int pa_nil))) pa_nil)) (blkOk_by (own := [("_law_k", 3)]) (N := ["_law_purse_here", "_law_menu", "_law_lead_here", "_law_k"]) (sc := defScope st_law_parts) (by decide +kernel)) (fun _ _ _ _ _ => (pg_name (i := 3) sc_law_parts.nd rfl (Or.inl rfl))) (fun _ _ _ _ _ => pts_nil) (fun _ _ _ _ _ => (C8.pe_c c_law_one hr (by decide) rfl (pa_cons (pv 0) (pa_cons (pv 1) pa_nil)))))))
      (pss_one (ps_ret (pe_tup (pa_cons (pv 2) (pa_cons (pe_tupleOf (by rfl) Tx.n_tuple (pe_lc (own := [("_law_k", 3)]) (by rfl) sc_law_parts.nd (pi_range1 (by rfl) Tx.n_range (pa_cons (pe_op op_add pe_int (C8.pe_c c_law_take hr (by decide) rfl (pa_cons (pv 0) (pa_cons pe_int pa_nil)))) pa_nil)) (blkOk_by (own := [("_law_k", 3)]) (N := ["_law_purse_here", "_law_menu", "_law_lead_here", "_law_k"]) (sc := defScope st_law_parts) (by decide +kernel)) (fun _ _ _ _ _ => (pg_name (i := 3) sc_law_parts.nd rfl (Or.inl rfl))) (fun _ _ _ _ _ => pts_nil) (fun _ _ _ _ _ => (C8.pe_c c_law_one hr (by decide) rfl (pa_cons (pv 0) (pa_cons (pv 1) pa_nil)))))) pa_nil))))))), ?_⟩
    refine ⟨(by show 9 ≤ sizeLine; decide), fun m nm => ?_⟩
    have mp : m ≠ pu := by
      obtain ⟨_, _, _, e, _⟩ := hp
      exact (ne_of_none e nm).symm
    have s0 := same_new (H := H) (o := .lst (menu.map V.int)) nm
    have hm0 : upd H m (.lst (menu.map V.int)) m = some (.lst (menu.map V.int)) := upd_same
    have hp0 := hp.same s0
    show (_ : Hp → Prop) (upd H m (.lst (menu.map V.int)))
    generalize upd H m (.lst (menu.map V.int)) = G at s0 hm0 hp0 ⊢
    refine ⟨_, rfl, pu, 3, n, rfl, hp0, by omega, by decide, by decide, fun H1 r k1 pu1 r0 r1 => ?_⟩
    have hm1 := k1 _ _ mp hm0
    refine ⟨r, rfl, by omega, by omega, fun D nD => ?_⟩
    have Dp : D ≠ pu := by
      obtain ⟨_, _, _, e, _⟩ := pu1
      exact (ne_of_none e nD).symm
    have Dm : m ≠ D := ne_of_none hm1 nD
    refine lc_range (lo := 0) (n := r.toNat) (Drawn pu D H1 (n + 1)) (Drawn.start pu1 nD) ?_ ?_
    · intro i H' hi dr
      exact ⟨rfl, _, rfl, _, rfl, pu, m, _, menu, rfl, dr.2.1, by omega, mp, dr.1 _ _ mp Dm hm1, (by decide), (by decide), fun H2 z k2 pu2 hz => dr.step Dp k2 pu2 hz (by omega)⟩
    rintro H2 ⟨k2, pu2, l, hD, ll, l20⟩
    refine .inl ⟨D, _, rfl, SqL.of hD, fun t1 nt => ?_⟩
    have s3 := same_new (H := H2) (o := .tup (l.map V.int)) nt
    have hm3 := s3 _ _ (k2 _ _ mp Dm hm1)
    have pu3 := pu2.same s3
    have k3 : Kept pu G (upd H2 t1 (.tup (l.map V.int))) := fun b o b1 e => s3 _ _ (k2 _ _ b1 (ne_of_none (k1 _ _ b1 e) nD) (k1 _ _ b1 e))
    have ht3 : upd H2 t1 (.tup (l.map V.int)) t1 = some (.tup (l.map V.int)) := upd_same
    generalize upd H2 t1 (.tup (l.map V.int)) = G3 at s3 hm3 pu3 k3 ht3 ⊢
    refine ⟨_, rfl, _, rfl, pu, 3, _, rfl, pu3, by omega, by decide, by decide, fun H4 r' k4 pu4 r0' r1' => ?_⟩
    have hm4 := k4 _ _ mp hm3
    have ht4 := k4.tup pu3 ht3
    refine ⟨_, _, rfl, rfl, 1 + r', rfl, by omega, by omega, fun D2 nD2 => ?_⟩
    have Dp2 : D2 ≠ pu := by
      obtain ⟨_, _, _, e, _⟩ := pu4
      exact (ne_of_none e nD2).symm
    have Dm2 : m ≠ D2 := ne_of_none hm4 nD2
    refine lc_range (lo := 0) (n := (1 + r').toNat) (Drawn pu D2 H4 (n + 1 + r.toNat + 1)) (Drawn.start pu4 nD2) ?_ ?_
    · intro i H' hi dr
      exact ⟨rfl, _, rfl, _, rfl, pu, m, _, menu, rfl, dr.2.1, by omega, mp, dr.1 _ _ mp Dm2 hm4, (by decide), (by decide), fun H2 z k2 pu2 hz => dr.step Dp2 k2 pu2 hz (by omega)⟩
    rintro H5 ⟨k5, pu5, t, hD5, lt, t20⟩
    refine .inl ⟨D2, _, rfl, SqL.of hD5, fun t2 nt2 => ⟨sz2, fun u nu => ?_⟩⟩
    have tp : t1 ≠ pu := by
      obtain ⟨_, _, _, e, _⟩ := pu4
      exact ne_of ht4 e (fun z => by cases z)
    have s6 := (same_new (H := H5) (o := .tup (t.map V.int)) nt2).trans (same_new (o := .tup [.ref t1, .ref t2]) nu)
    refine q _ u t1 t2 l t ?_ ((pu5.same s6).le (by omega)) upd_same (s6 _ _ (k5 _ _ tp (ne_of_none ht4 nD2) ht4)) (same_new nu _ _ upd_same) (by omega) (by omega) ?_ l20 t20
    · intro b o b1 e
      have e4 := k4 _ _ b1 (k3 _ _ b1 (s0 _ _ e))
      exact s6 _ _ (k5 _ _ b1 (ne_of_none e4 nD2) e4)
    · intro z
      rw [z] at lt
      have : (0 : Nat) = (1 + r').toNat := lt
      omega
end
end K48
set_option Elab.async false
set_option linter.all false
set_option maxRecDepth 100000
set_option maxHeartbeats 4000000
/-! The law's own rows, far fraction, and the trial of all widths. -/
namespace K48
open PySem PySem.Spec PyProof.Rows L2
theorem sc_law_rows : FnScope ["_law_lead_here", "_law_loop_here", "_law_most", "_law_found", "_law_k", "_law_at", "_law_part_here", "_law_top"] ["_law_lead_here", "_law_loop_here", "_law_most"] (defScope st_law_rows) := ⟨rfl, rfl, rfl, by decide +kernel, rfl, by decide +kernel, by decide +kernel⟩
theorem sc_law_far : FnScope ["_law_lead_here", "_law_loop_here"] ["_law_lead_here", "_law_loop_here"] (defScope st_law_far) := ⟨rfl, rfl, rfl, by decide +kernel, rfl, by decide +kernel, by decide +kernel⟩
theorem sc_law_size : FnScope ["_law_far_here", "_law_u", "_law_v"] ["_law_far_here", "_law_u", "_law_v"] (defScope st_law_size) := ⟨rfl, rfl, rfl, by decide +kernel, rfl, by decide +kernel, by decide +kernel⟩
theorem sc_law_whole : FnScope ["_law_far_here", "_law_u", "_law_v"] ["_law_far_here", "_law_u", "_law_v"] (defScope st_law_whole) := ⟨rfl, rfl, rfl, by decide +kernel, rfl, by decide +kernel, by decide +kernel⟩
theorem sc_law_tried : FnScope ["_law_far_here", "_law_word", "_law_most", "_law_found", "_law_at", "_law_high"] ["_law_far_here", "_law_word", "_law_most"] (defScope st_law_tried) := ⟨rfl, rfl, rfl, by decide +kernel, rfl, by decide +kernel, by decide +kernel⟩
theorem atI_end {α : Type} {xs : List α} {n j : Nat} {v : α} (hl : xs.length = n) (hj : 1 ≤ j) (hn : j ≤ n) (h : xs[n - j]? = some v) : atI xs (-(j : Int)) = some v := by
  have e : ixN xs.length (-(j : Int)) = some (n - j) := by
    unfold ixN
    rw [hl, if_neg (by omega), if_pos (by omega)]
    congr 1
    omega
  unfold atI
  rw [e]
  exact h
theorem CvAt.one {H : Hp} {L : Addr} {a : Nat → Int} {n : Nat} (h : CvAt H L a 1 n) {j : Nat} (hj : 1 ≤ j) (hn : j ≤ n) : ∃ xs p, H L = some (.lst xs) ∧ atI xs (-(j : Int)) = some (.ref p) ∧ H p = some (.tup [.int (T a (n - j + 1)), .int (B a (n - j + 1))]) := by
  obtain ⟨xs, h1, h2, h3⟩ := h
  obtain ⟨p, e1, e2⟩ := h3.get (i := n - j) (by omega)
  exact ⟨xs, p, h1, atI_end h2 hj hn e1, e2⟩
/-- the part at the place, out of both tuples put together -/
theorem part_both {l t : List Int} (nt : t ≠ []) (k : Nat) : (l ++ t)[if k < l.length then k else l.length + (k - l.length) % t.length]? = some (partOf l t (k + 1)) := by
  have tl : 0 < t.length := List.length_pos_iff.mpr nt
  unfold partOf
  by_cases c : k < l.length
  · rw [if_pos c, if_pos (by omega), List.getElem?_append_left c, Nat.add_sub_cancel, List.getElem?_eq_getElem c, List.getD_eq_getElem?_getD, List.getElem?_eq_getElem c]
    rfl
  · have m := Nat.mod_lt (k - l.length) tl
    have e : k + 1 - 1 - l.length = k - l.length := by omega
    rw [if_neg c, if_neg (by omega), List.getElem?_append_right (by omega), Nat.add_sub_cancel_left, e, List.getD_eq_getElem?_getD, List.getElem?_eq_getElem m]
    rfl
section
variable {P : Program} {w : World} {K : PySem.W.Frag} {mg : Str → Option Value} {base : Heap}
/-- + of two tuples, whatever they hold -/
theorem cat_any {H : Hp} {p1 p2 : Addr} {xs ys : List V} {Q : VK} (h1 : H p1 = some (.tup xs)) (h2 : H p2 = some (.tup ys)) (hl : xs.length + ys.length ≤ 1000) (q : ∀ H' r, Same H H' → H' r = some (.tup (xs ++ ys)) → Q (.ref r) H') : rCatA K (.ref p1) (.ref p2) H Q := by
  refine ⟨p1, p2, xs, ys, rfl, rfl, SqT.of h1, SqT.of h2, szle (by omega), fun e => ?_, fun _ e => ?_, fun _ _ r nr => q _ r (same_new nr) upd_same⟩
  · subst e
    exact q H p2 (Same.refl H) h2
  · subst e
    exact q H p1 (Same.refl H) (by rw [List.append_nil]; exact h1)
def spRows : Sp := fun vs H Q _ => ∃ (p1 p2 : Addr) (l t : List Int) (most : Int), vs = [.ref p1, .ref p2, .int most] ∧ H p1 = some (.tup (l.map V.int)) ∧ H p2 = some (.tup (t.map V.int)) ∧ l.length ≤ 8 ∧ t.length ≤ 12 ∧ t ≠ [] ∧ Ok (partOf l t) ∧ 1 ≤ most ∧ most ≤ 10 ^ 75 ∧
  ∀ H' L n, Same H H' → CvAt H' L (partOf l t) 1 n → 2 ≤ n → n ≤ 401 → most < B (partOf l t) n → (∀ j, j < n → B (partOf l t) j ≤ most) → Q (.ref L) H'
theorem cal_law_rows (Tx : Gm K mg) : C8.Cal P w K mg base 1 "_law_rows" spRows [] := by
  refine cal_of Tx.f_law_rows sc_law_rows (fun _ _ _ _ _ _ us hl => match us, hl with | [_, _, _], _ => rfl) (fun vs H Q E h => ?_) (fun f cdv A outer st H vs Q E hr h => ?_)
  · obtain ⟨p1, p2, l, t, most, rfl, _⟩ := h
    rfl
  · obtain ⟨p1, p2, l, t, most, rfl, h1, h2, hl, ht, nt, ok, m1, m2, q⟩ := h
    have tl : 0 < t.length := List.length_pos_iff.mpr nt
    have both := part_both (l := l) nt
    have big := big400 ok
    generalize ea : partOf l t = a at ok both big q
    have ll : (l.map V.int).length + (t.map V.int).length ≤ 1000 := by
      rw [List.length_map, List.length_map]
      omega
    have get : ∀ (k : Nat) (i : Int), i = ((if k < l.length then k else l.length + (k - l.length) % t.length : Nat) : Int) → atI (l.map V.int ++ t.map V.int) i = some (.int (a (k + 1))) := fun k i e => by
      rw [e, ← List.map_append]
      refine atI_nat ?_
      rw [List.getElem?_map, both k]
      rfl
    refine ⟨_, (pss_cons (ps_set (i := 3) sc_law_rows.nd rfl (Or.inl rfl) (pe_lst (pa_cons (pe_tup (pa_cons pe_int (pa_cons pe_int pa_nil))) (pa_cons (pe_tup (pa_cons pe_int (pa_cons (pe_ix ix_tup (pe_op op_catA (pv 0) (pv 1)) pe_int (fun _ _ => rfl)) pa_nil))) pa_nil))))
      (pss_cons (ps_for PassesOwn.never rfl (pi_range2 (by rfl) Tx.n_range (pa_cons pe_int (pa_cons pe_int pa_nil))) (pg_name (i := 4) sc_law_rows.nd rfl (Or.inl rfl)) (pss_cons (ps_if (pt_cmpR op_gt (pe_ix ix_tup (pe_ix ix_list (pv 3) (pe_un un_neg pe_int) (fun _ _ => rfl)) pe_int (fun _ _ => rfl)) (pv 2) (nomark _)) (pss_one ps_break) pss_nil)
      (pss_cons (ps_set (i := 5) sc_law_rows.nd rfl (Or.inl rfl) (pv 4))
      (pss_cons (ps_if (pt_cmpR op_ge (pv 4) (pe_callB call_len_seq (by rfl) Tx.n_len (by decide +kernel) (pa_cons (pv 0) pa_nil)) (nomark _)) (pss_one (ps_set (i := 5) sc_law_rows.nd rfl (Or.inl rfl) (pe_op op_add (pe_callB call_len_seq (by rfl) Tx.n_len (by decide +kernel) (pa_cons (pv 0) pa_nil)) (pe_op op_mod (pe_callTy call_int1 (by rfl) Tx.n_int (by decide +kernel) (pa_cons (pe_op op_sub (pv 4) (pe_callB call_len_seq (by rfl) Tx.n_len (by decide +kernel) (pa_cons (pv 0) pa_nil))) pa_nil)) (pe_callB call_len_seq (by rfl) Tx.n_len (by decide +kernel) (pa_cons (pv 1) pa_nil)))))) pss_nil)
      (pss_cons (ps_set (i := 6) sc_law_rows.nd rfl (Or.inl rfl) (pe_ix ix_tup (pe_op op_catA (pv 0) (pv 1)) (pv 5) (fun _ _ => rfl)))
      (pss_cons (ps_set (i := 7) sc_law_rows.nd rfl (Or.inl rfl) (pe_op op_add (pe_op op_mul (pv 6) (pe_ix ix_tup (pe_ix ix_list (pv 3) (pe_un un_neg pe_int) (fun _ _ => rfl)) pe_int (fun _ _ => rfl))) (pe_ix ix_tup (pe_ix ix_list (pv 3) (pe_un un_neg pe_int) (fun _ _ => rfl)) pe_int (fun _ _ => rfl))))
      (pss_one (ps_expr (pe_bm PySem.F.plainAttrs_list PySem.F.slot_list_append PySem.F.type_list_append mt_append (pv 3) (pa_cons (pe_tup (pa_cons (pv 7) (pa_cons (pe_op op_add (pe_op op_mul (pv 6) (pe_ix ix_tup (pe_ix ix_list (pv 3) (pe_un un_neg pe_int) (fun _ _ => rfl)) pe_int (fun _ _ => rfl))) (pe_ix ix_tup (pe_ix ix_list (pv 3) (pe_un un_neg pe_int) (fun _ _ => rfl)) pe_int (fun _ _ => rfl))) pa_nil))) pa_nil))))))))))
      (pss_one (ps_ret (pv 3))))), ?_⟩
    refine ⟨sz2, fun u nu => ?_⟩
    have s1 := same_new (H := H) (o := .tup [.int 0, .int 1]) nu
    refine ⟨_, rfl, _, rfl, cat_any (s1 _ _ h1) (s1 _ _ h2) ll fun H2 c s2 hc => ?_⟩
    refine ⟨c, _, 0, _, rfl, rfl, SqT.of hc, get 0 0 ?_, sz2, fun v nv => ⟨sz2, fun L nL => ?_⟩⟩
    · by_cases c : 0 < l.length
      · rw [if_pos c]
        rfl
      · rw [if_neg c, show l.length = 0 by omega, Nat.sub_self, Nat.zero_mod]
        rfl
    have s3 := (s1.trans s2).trans (same_new (o := .tup [.int 1, .int (a 1)]) nv)
    have nL0 : H L = none := s3.free nL
    have s4 := s3.trans (same_new (o := .lst [.ref u, .ref v]) nL)
    have cv : CvAt (upd (upd H2 v (.tup [.int 1, .int (a 1)])) L (.lst [.ref u, .ref v])) L a 1 2 := by
      refine ⟨_, upd_same, rfl, fun i hi => ?_⟩
      have c : i = 0 ∨ i = 1 := by
        have : i < 2 := hi
        omega
      rcases c with rfl | rfl
      · refine ⟨u, rfl, same_new nL _ _ (same_new nv _ _ (s2 _ _ upd_same))⟩
      · refine ⟨v, rfl, (same_new nL _ _ upd_same).trans ?_⟩
        have e1 : T a 2 = 1 := by
          rw [T_two]
          show a 1 * 0 + 1 = 1
          omega
        have e2 : B a 2 = a 1 := by
          rw [B_two]
          show a 1 * 1 + 0 = a 1
          omega
        show some (HO.tup [.int 1, .int (a 1)]) = some (HO.tup [.int (T a 2), .int (B a 2)])
        rw [e1, e2]
    generalize upd (upd H2 v (.tup [.int 1, .int (a 1)])) L (.lst [.ref u, .ref v]) = G at s4 cv ⊢
    refine ⟨_, _, rfl, ⟨by decide, by decide, by decide, by decide⟩, ?_⟩
    refine for_range (lo := 1) (n := 399) (fun i σ H' => ∃ v4 v5 v6 v7, σ = [some (.ref p1), some (.ref p2), some (.int most), some (.ref L), v4, v5, v6, v7] ∧ Same H H' ∧ CvAt H' L a 1 (i + 2) ∧ ∀ j, j < i + 2 → B a j ≤ most) ⟨none, none, none, none, rfl, s4, cv, fun j hj => ?_⟩ ?_ ?_
    · have c : j = 0 ∨ j = 1 := by omega
      rcases c with rfl | rfl
      · show (0 : Int) ≤ most
        omega
      · exact m1
    · rintro i σ H' hi ⟨v4, v5, v6, v7, rfl, s5, cv, le⟩
      obtain ⟨xs, z1, x1, x2, x3⟩ := cv.one (j := 1) (by decide) (by omega)
      obtain ⟨xs', z2, y1, y2, y3⟩ := cv.one (j := 2) (by decide) (by omega)
      obtain rfl : xs = xs' := HO.lst.inj (Option.some.inj (x1.symm.trans y1))
      rw [show i + 2 - 1 + 1 = i + 2 by omega] at x3
      rw [show i + 2 - 2 + 1 = i + 1 by omega] at y3
      have x2 : atI xs (-1) = some (.ref z1) := x2
      have y2 : atI xs (-2) = some (.ref z2) := y2
      refine ⟨_, rfl, 1, rfl, L, _, -1, _, rfl, rfl, SqL.of x1, x2, z1, _, 1, _, rfl, rfl, SqT.of x3, atI_nat (j := 1) rfl, _, rfl, _, _, rfl, rfl, _, rfl, ite2 (fun e => ?_) (fun hgt => ?_)⟩
      · exact ⟨_, rfl, q H' L (i + 2) s5 cv (by omega) (by omega) (of_decide_eq_true e) le⟩
      refine ⟨_, rfl, ?_⟩
      have g1 := s5 _ _ h1
      have g2 := s5 _ _ h2
      have e1 : (l.map V.int).length = l.length := List.length_map ..
      have e2 : (t.map V.int).length = t.length := List.length_map ..
      refine ⟨_, rfl, _, rfl, p1, _, rfl, .inr (SqT.of g1), _, _, rfl, rfl, _, rfl, ite2 (fun e => ?_) (fun e => ?_)⟩
      · have c1 : ((l.map V.int).length : Int) ≤ 1 + (i : Int) := of_decide_eq_true e
        rw [e1] at c1
        have tp : (0 : Int) < ((t.map V.int).length : Int) := by
          rw [e2]
          omega
        have ev : (((l.map V.int).length : Nat) : Int) + (1 + (i : Int) - ((l.map V.int).length : Int)) % ((t.map V.int).length : Int) = ((l.length + (i + 1 - l.length) % t.length : Nat) : Int) := by
          rw [e1, e2, show 1 + (i : Int) - (l.length : Int) = ((i + 1 - l.length : Nat) : Int) by omega]
          rfl
        refine ⟨_, rfl, p1, _, rfl, .inr (SqT.of g1), _, rfl, _, rfl, p1, _, rfl, .inr (SqT.of g1), _, _, rfl, rfl, .inl ⟨_, rfl, _, rfl, p2, _, rfl, .inr (SqT.of g2), _, _, rfl, rfl, tp, _, _, rfl, rfl, ?_⟩⟩
        refine ⟨_, rfl, _, rfl, cat_any g1 g2 ll fun H2 c s9 hc => ?_⟩
        have s6 := s5.trans s9
        have w1 := s9 _ _ x1
        have w3 := s9 _ _ x3
        have w4 := s9 _ _ y3
        refine ⟨_, rfl, c, _, _, _, rfl, rfl, SqT.of hc, get (i + 1) _ (by rw [if_neg (by omega)]; exact ev), ?_⟩
        have o1 : 1 ≤ a (i + 1 + 1) ∧ a (i + 1 + 1) ≤ 20 := ok (i + 2) (by omega)
        refine ⟨_, rfl, _, rfl, 1, rfl, L, _, -1, _, rfl, rfl, SqL.of w1, x2, z1, _, 0, _, rfl, rfl, SqT.of w3, atI_nat (j := 0) rfl, _, _, rfl, rfl, small_mul (by omega) (by omega), _, rfl, 2, rfl, L, _, -2, _, rfl, rfl, SqL.of w1, y2, z2, _, 0, _, rfl, rfl, SqT.of w4, atI_nat (j := 0) rfl, _, _, rfl, rfl, ?_⟩
        refine ⟨_, rfl, .inl ⟨rfl, _, SqL.of w1⟩, _, rfl, _, rfl, _, rfl, 1, rfl, L, _, -1, _, rfl, rfl, SqL.of w1, x2, z1, _, 1, _, rfl, rfl, SqT.of w3, atI_nat (j := 1) rfl, _, _, rfl, rfl, small_mul (by omega) (by omega), _, rfl, 2, rfl, L, _, -2, _, rfl, rfl, SqL.of w1, y2, z2, _, 1, _, rfl, rfl, SqT.of w4, atI_nat (j := 1) rfl, _, _, rfl, rfl, sz2, fun z nz => ?_⟩
        have s7 := same_new (H := H2) (o := .tup [.int (a (i + 2) * T a (i + 2) + T a (i + 1)), .int (a (i + 2) * B a (i + 2) + B a (i + 1))]) nz
        obtain ⟨xs9, f1, f2, f3⟩ := (cv.same s9).same s7
        obtain rfl : xs = xs9 := HO.lst.inj (Option.some.inj ((s7 _ _ w1).symm.trans f1))
        refine ⟨L, xs, _, rfl, rfl, f1, szlt (by omega), ?_⟩
        refine ⟨_, _, _, _, rfl, same_own (s6.trans s7) nL0, ⟨xs ++ [.ref z], upd_same, by rw [List.length_append, f2]; rfl, ?_⟩, ?_⟩
        · refine (f3.push ?_).other f1
          rw [f2]
          exact upd_same
        · intro j hj
          by_cases cj : j < i + 2
          · exact le j cj
          · rw [show j = i + 2 by omega]
            exact Int.not_lt.mp fun c => hgt (decide_eq_true c)
      · have c1 : ¬ ((l.map V.int).length : Int) ≤ 1 + (i : Int) := fun z => e (decide_eq_true z)
        rw [e1] at c1
        refine ⟨_, rfl, _, rfl, cat_any g1 g2 ll fun H2 c s9 hc => ?_⟩
        have s6 := s5.trans s9
        have w1 := s9 _ _ x1
        have w3 := s9 _ _ x3
        have w4 := s9 _ _ y3
        refine ⟨_, rfl, c, _, _, _, rfl, rfl, SqT.of hc, get (i + 1) _ (by rw [if_pos (by omega)]; omega), ?_⟩
        have o1 : 1 ≤ a (i + 1 + 1) ∧ a (i + 1 + 1) ≤ 20 := ok (i + 2) (by omega)
        refine ⟨_, rfl, _, rfl, 1, rfl, L, _, -1, _, rfl, rfl, SqL.of w1, x2, z1, _, 0, _, rfl, rfl, SqT.of w3, atI_nat (j := 0) rfl, _, _, rfl, rfl, small_mul (by omega) (by omega), _, rfl, 2, rfl, L, _, -2, _, rfl, rfl, SqL.of w1, y2, z2, _, 0, _, rfl, rfl, SqT.of w4, atI_nat (j := 0) rfl, _, _, rfl, rfl, ?_⟩
        refine ⟨_, rfl, .inl ⟨rfl, _, SqL.of w1⟩, _, rfl, _, rfl, _, rfl, 1, rfl, L, _, -1, _, rfl, rfl, SqL.of w1, x2, z1, _, 1, _, rfl, rfl, SqT.of w3, atI_nat (j := 1) rfl, _, _, rfl, rfl, small_mul (by omega) (by omega), _, rfl, 2, rfl, L, _, -2, _, rfl, rfl, SqL.of w1, y2, z2, _, 1, _, rfl, rfl, SqT.of w4, atI_nat (j := 1) rfl, _, _, rfl, rfl, sz2, fun z nz => ?_⟩
        have s7 := same_new (H := H2) (o := .tup [.int (a (i + 2) * T a (i + 2) + T a (i + 1)), .int (a (i + 2) * B a (i + 2) + B a (i + 1))]) nz
        obtain ⟨xs9, f1, f2, f3⟩ := (cv.same s9).same s7
        obtain rfl : xs = xs9 := HO.lst.inj (Option.some.inj ((s7 _ _ w1).symm.trans f1))
        refine ⟨L, xs, _, rfl, rfl, f1, szlt (by omega), ?_⟩
        refine ⟨_, _, _, _, rfl, same_own (s6.trans s7) nL0, ⟨xs ++ [.ref z], upd_same, by rw [List.length_append, f2]; rfl, ?_⟩, ?_⟩
        · refine (f3.push ?_).other f1
          rw [f2]
          exact upd_same
        · intro j hj
          by_cases cj : j < i + 2
          · exact le j cj
          · rw [show j = i + 2 by omega]
            exact Int.not_lt.mp fun c => hgt (decide_eq_true c)
    · rintro σ H' ⟨v4, v5, v6, v7, rfl, s5, cv, le⟩
      exact ⟨_, rfl, q H' L 401 s5 cv (by decide) (by decide) (Int.lt_of_le_of_lt m2 big) le⟩
theorem p75 : ((10 : Int) ^ (60 : Int).toNat) * ((10 : Int) ^ (15 : Int).toNat) = 10 ^ 75 ∧ (1 : Int) ≤ 10 ^ 75 ∧ (10 : Int) ^ 75 * 21 < 2 ^ 300 := by decide +kernel
/-- the far fraction of a -/
def FarN (a : Nat → Int) (n : Nat) : Prop := 2 ≤ n ∧ n ≤ 401 ∧ 10 ^ 75 < B a n ∧ B a n ≤ 21 * 10 ^ 75
def spFar : Sp := fun vs H Q _ => ∃ (p1 p2 : Addr) (l t : List Int), vs = [.ref p1, .ref p2] ∧ H p1 = some (.tup (l.map V.int)) ∧ H p2 = some (.tup (t.map V.int)) ∧ l.length ≤ 8 ∧ t.length ≤ 12 ∧ t ≠ [] ∧ Ok (partOf l t) ∧
  ∀ H' p n, Same H H' → FarN (partOf l t) n → H' p = some (.tup [.int (T (partOf l t) n), .int (B (partOf l t) n)]) → Q (.ref p) H'
theorem cal_law_far (Tx : Gm K mg) : C8.Cal P w K mg base 2 "_law_far" spFar [] := by
  have c_law_rows : C8.Cal P w K mg base 1 "_law_rows" spRows [] := cal_law_rows Tx
  refine cal_of Tx.f_law_far sc_law_far (fun _ _ _ _ _ _ us hl => match us, hl with | [_, _], _ => rfl) (fun vs H Q E h => ?_) (fun f cdv A outer st H vs Q E hr h => ?_)
  · obtain ⟨p1, p2, l, t, rfl, _⟩ := h
    rfl
  · obtain ⟨p1, p2, l, t, rfl, h1, h2, hl, ht, nt, ok, q⟩ := h
    refine ⟨_, (pss_one (ps_ret (pe_ix ix_list (C8.pe_c c_law_rows hr (by decide) rfl (pa_cons (pv 0) (pa_cons (pv 1) (pa_cons (pe_op op_mulW (pe_op op_pow pe_int pe_int) (pe_op op_pow pe_int pe_int)) pa_nil)))) (pe_un un_neg pe_int) (fun _ _ => rfl)))), ?_⟩
    refine ⟨_, rfl, _, rfl, _, _, rfl, rfl, ⟨by decide, by decide, by decide⟩, _, _, rfl, rfl, ⟨by decide, by decide, by decide⟩, _, _, rfl, rfl, wide_mul (a := 250) (b := 250) (by decide +kernel) (by decide +kernel) (by decide) (by decide) (by decide), p1, p2, l, t, _, rfl, h1, h2, hl, ht, nt, ok, ?_⟩
    rw [p75.1]
    refine ⟨p75.2.1, Int.le_refl _, fun H' L n s1 cv n2 n4 big le => ?_⟩
    obtain ⟨xs, z, x1, x2, x3⟩ := cv.one (j := 1) (by decide) (by omega)
    rw [show n - 1 + 1 = n by omega] at x3
    refine ⟨1, rfl, L, _, -1, _, rfl, rfl, SqL.of x1, x2, q H' z n s1 ⟨n2, n4, big, ?_⟩ x3⟩
    have b1 := B_up ok (i := n - 1) (by omega)
    have b2 := le (n - 1) (by omega)
    rw [show n - 1 + 1 = n by omega] at b1
    omega
abbrev Sm (i : Int) : Prop := -(2 ^ 64) < i ∧ i < 2 ^ 64
def spSize : Sp := fun vs H Q _ => ∃ (p : Addr) (x y u v : Int), vs = [.ref p, .int u, .int v] ∧ H p = some (.tup [.int x, .int y]) ∧ Sm u ∧ Sm v ∧ Q (.int (u * y + v * x)) H
theorem cal_law_size (Tx : Gm K mg) : C8.Cal P w K mg base 1 "_law_size" spSize [] := by
  refine cal_of Tx.f_law_size sc_law_size (fun _ _ _ _ _ _ us hl => match us, hl with | [_, _, _], _ => rfl) (fun vs H Q E h => ?_) (fun f cdv A outer st H vs Q E hr h => ?_)
  · obtain ⟨p, x, y, u, v, rfl, _⟩ := h
    rfl
  · obtain ⟨p, x, y, u, v, rfl, hp, hu, hv, q⟩ := h
    refine ⟨_, (pss_one (ps_ret (pe_op op_add (pe_op op_mul (pv 1) (pe_ix ix_tup (pv 0) pe_int (fun _ _ => rfl))) (pe_op op_mul (pv 2) (pe_ix ix_tup (pv 0) pe_int (fun _ _ => rfl)))))), ?_⟩
    exact ⟨_, rfl, _, rfl, p, _, 1, _, rfl, rfl, SqT.of hp, atI_nat (j := 1) rfl, _, _, rfl, rfl, .inl hu, _, rfl, _, rfl, p, _, 0, _, rfl, rfl, SqT.of hp, atI_nat (j := 0) rfl, _, _, rfl, rfl, .inl hv, _, _, rfl, rfl, q⟩
def spWhole : Sp := fun vs H Q _ => ∃ (p : Addr) (x y u v : Int), vs = [.ref p, .int u, .int v] ∧ H p = some (.tup [.int x, .int y]) ∧ Sm u ∧ Sm v ∧ 1 ≤ y ∧ y ≤ 21 * 10 ^ 75 ∧ Q (.int ((u * y + v * x) / y)) H
theorem cal_law_whole (Tx : Gm K mg) : C8.Cal P w K mg base 2 "_law_whole" spWhole [] := by
  have c_law_size : C8.Cal P w K mg base 1 "_law_size" spSize [] := cal_law_size Tx
  refine cal_of Tx.f_law_whole sc_law_whole (fun _ _ _ _ _ _ us hl => match us, hl with | [_, _, _], _ => rfl) (fun vs H Q E h => ?_) (fun f cdv A outer st H vs Q E hr h => ?_)
  · obtain ⟨p, x, y, u, v, rfl, _⟩ := h
    rfl
  · obtain ⟨p, x, y, u, v, rfl, hp, hu, hv, h1, h2, q⟩ := h
    refine ⟨_, (pss_one (ps_ret (pe_op op_fdivW (C8.pe_c c_law_size hr (by decide) rfl (pa_cons (pv 0) (pa_cons (pv 1) (pa_cons (pv 2) pa_nil)))) (pe_ix ix_tup (pv 0) pe_int (fun _ _ => rfl))))), ?_⟩
    have dv : CDivW (u * y + v * x) y := by
      refine wide_div (b := 300) (by omega) ?_ (by decide) (by decide)
      have := p75.2.2
      have e : ((y.natAbs : Nat) : Int) = y := by omega
      have z : ((y.natAbs : Nat) : Int) < ((2 ^ 300 : Nat) : Int) := by
        rw [e]
        have : ((2 ^ 300 : Nat) : Int) = 2 ^ 300 := by decide +kernel
        omega
      exact Int.ofNat_lt.mp z
    exact ⟨_, rfl, _, rfl, _, rfl, p, x, y, u, v, rfl, hp, hu, hv, _, rfl, p, _, 1, _, rfl, rfl, SqT.of hp, atI_nat (j := 1) rfl, _, _, rfl, rfl, dv, q⟩
/-- the first m trials stand in the list at L -/
def Trials (H : Hp) (L : Addr) (X Y e : Int) (m : Nat) : Prop := ∃ xs : List V, H L = some (.lst xs) ∧ xs.length = m ∧ ∀ k, k < m → ∃ t u, xs[k]? = some (.ref t) ∧ H t = some (.tup [.int (dd X Y e (1 + (k : Nat))), .ref u]) ∧ H u = some (.tup [.int (1 + (k : Nat)), .int (hi X Y e (1 + (k : Nat)))])
def spTried : Sp := fun vs H Q _ => ∃ (p : Addr) (a : Nat → Int) (n s : Nat) (bd : Int) (up : Bool), vs = [.ref p, .str (sideW up), .int bd] ∧ H p = some (.tup [.int (T a n), .int (B a n)]) ∧ Ok a ∧ FarN a n ∧ Side a bd (if up = true then 0 else 1) s ∧ 1 ≤ bd ∧ bd ≤ 40 ∧
  ∀ H' r, Same H H' → H' r = some (.tup [.int (wid a bd s), .int (hgt a bd s)]) → Q (.ref r) H'
theorem cal_law_tried (Tx : Gm K mg) : C8.Cal P w K mg base 3 "_law_tried" spTried [] := by
  have c_law_size : C8.Cal P w K mg base 1 "_law_size" spSize [] := cal_law_size Tx
  have c_law_whole : C8.Cal P w K mg base 2 "_law_whole" spWhole [] := cal_law_whole Tx
  refine cal_of Tx.f_law_tried sc_law_tried (fun _ _ _ _ _ _ us hl => match us, hl with | [_, _, _], _ => rfl) (fun vs H Q E h => ?_) (fun f cdv A outer st H vs Q E hr h => ?_)
  · obtain ⟨p, a, n, s, bd, up, rfl, _⟩ := h
    rfl
  · obtain ⟨p, a, n, s, bd, up, rfl, hp, ok, ⟨n2, n4, big, y2⟩, side, b1, b2, q⟩ := h
    have t0 := T_nn ok (i := n) (by omega)
    have t1 := T_le ok (i := n) (by omega)
    have y1 := B_pos ok (i := n) (by omega)
    have b40 : (40 : Int) < B a n := Int.lt_trans (by decide +kernel) big
    have sn : s + 2 ≤ n := by
      refine Nat.le_of_not_lt fun z => ?_
      have := side_below ok side (i := n - 1) (by omega)
      have := B_up ok (i := n - 1) (by omega)
      rw [show n - 1 + 1 = n by omega] at this
      have : (10 : Int) ^ 75 > 840 := by decide +kernel
      omega
    obtain ⟨e, he, side2, key⟩ : ∃ e : Int, (e = 0 ∨ e = 1) ∧ Side a bd (if e = 0 then 1 else 0) s ∧ ∀ (σ : L2.St) (H : Hp) (Q : VK), Q (.int e) H → if decide (V.str (sideW up) = V.str "below") = true then tC (.int 0) σ H Q else tC (.int 1) σ H Q := by
      rw [side_eq]
      cases up with
      | false => exact ⟨0, .inl rfl, side, fun σ H Q q => iteT q⟩
      | true => exact ⟨1, .inr rfl, side, fun σ H Q q => iteF q⟩
    obtain ⟨eh, least⟩ := tried ok side2 he b1 sn
    have w1 := wid_pos ok side b1
    have w2 := (cnt_bd ok side).2.1
    have ne := fun (w w' : Int) (hne : w ≠ w') h1 h2 => dd_ne ok (n := n) (by omega) he (w := w) (w' := w') hne h1 h2
    generalize T a n = x at *
    generalize B a n = y at *
    generalize wid a bd s = wd at *
    generalize hgt a bd s = hg at *
    refine ⟨_, (pss_cons (ps_set (i := 3) sc_law_tried.nd rfl (Or.inl rfl) (pe_lst pa_nil))
      (pss_cons (ps_for PassesOwn.never rfl (pi_range2 (by rfl) Tx.n_range (pa_cons pe_int (pa_cons (pe_op op_add (pv 2) pe_int) pa_nil))) (pg_name (i := 4) sc_law_tried.nd rfl (Or.inl rfl)) (pss_cons (ps_set (i := 5) sc_law_tried.nd rfl (Or.inl rfl) (pe_op op_add (C8.pe_c c_law_whole hr (by decide) rfl (pa_cons (pv 0) (pa_cons pe_int (pa_cons (pv 4) pa_nil)))) (pe_ifExp (pt_cmpR op_eq (pv 1) pe_str (nomark _)) pe_int pe_int)))
      (pss_one (ps_expr (pe_bm PySem.F.plainAttrs_list PySem.F.slot_list_append PySem.F.type_list_append mt_append (pv 3) (pa_cons (pe_tup (pa_cons (pe_callB call_abs (by rfl) Tx.n_abs (by decide +kernel) (pa_cons (C8.pe_c c_law_size hr (by decide) rfl (pa_cons (pv 0) (pa_cons (pv 5) (pa_cons (pe_op op_sub pe_int (pv 4)) pa_nil)))) pa_nil)) (pa_cons (pe_tup (pa_cons (pv 4) (pa_cons (pv 5) pa_nil))) pa_nil))) pa_nil))))))
      (pss_one (ps_ret (pe_ix ix_tup (pe_callB (cr_minT rfl (hu_of hr)) (by rfl) Tx.n_min (by decide +kernel) (pa_cons (pv 3) pa_nil)) pe_int (fun _ _ => rfl)))))), ?_⟩
    refine ⟨(by show 0 ≤ sizeLine; decide), fun L nL => ?_⟩
    have s1 := same_new (H := H) (o := .lst []) nL
    refine ⟨_, rfl, _, _, rfl, rfl, 1, _, rfl, ⟨by decide, by decide, by omega, by omega⟩, ?_⟩
    have en : (bd + 1 - 1).toNat = bd.toNat := by omega
    rw [en]
    refine for_range (lo := 1) (n := bd.toNat) (fun i σ H' => ∃ v4 v5, σ = [some (.ref p), some (.str (sideW up)), some (.int bd), some (.ref L), v4, v5] ∧ Same H H' ∧ Trials H' L x y e i) ⟨none, none, rfl, s1, [], upd_same, rfl, fun k hk => absurd hk (Nat.not_lt_zero k)⟩ ?_ ?_
    · rintro i σ H' hi ⟨v4, v5, rfl, s2, xs, hL, lx, tr⟩
      have hp2 := s2 _ _ hp
      have q0 : 0 ≤ (0 * y + (1 + (i : Int)) * x) / y ∧ (0 * y + (1 + (i : Int)) * x) / y ≤ 41 := by
        rw [Int.zero_mul, Int.zero_add]
        have m1 := Int.mul_le_mul_of_nonneg_left t1 (show 0 ≤ 1 + (i : Int) by omega)
        have m2 := Int.mul_nonneg (show 0 ≤ 1 + (i : Int) by omega) t0
        have m3 := Int.mul_le_mul_of_nonneg_right (show 1 + (i : Int) ≤ 40 by omega) (show 0 ≤ y by omega)
        refine ⟨Int.ediv_nonneg m2 (by omega), Int.le_of_lt (Int.ediv_lt_of_lt_mul (by omega) (by omega))⟩
      have ehi : (0 * y + (1 + (i : Int)) * x) / y + e = K48.hi x y e (1 + (i : Nat)) := by
        unfold K48.hi
        rw [Int.zero_mul, Int.zero_add]
      refine ⟨_, rfl, _, rfl, p, x, y, 0, 1 + (i : Int), rfl, hp2, ⟨by decide, by decide⟩, ⟨by omega, by omega⟩, y1, y2, _, rfl, rfl, _, rfl, key _ _ _ ?_⟩
      refine ⟨_, _, rfl, rfl, ?_⟩
      simp only [ehi]
      have hb : -1 ≤ K48.hi x y e (1 + (i : Nat)) ∧ K48.hi x y e (1 + (i : Nat)) ≤ 42 := by
        rw [← ehi]
        omega
      refine ⟨_, rfl, .inl ⟨rfl, _, SqL.of hL⟩, _, rfl, _, rfl, _, rfl, _, _, rfl, rfl, p, x, y, _, _, rfl, hp2, ⟨by omega, by omega⟩, ⟨by omega, by omega⟩, _, rfl, _, rfl, _, rfl, sz2, fun u nu => ⟨sz2, fun t nt => ?_⟩⟩
      have s3 := same_new (H := H') (o := .tup [.int (1 + (i : Int)), .int (K48.hi x y e (1 + (i : Nat)))]) nu
      have s4 := s3.trans (same_new (o := .tup [.int (dd x y e (1 + (i : Nat))), .ref u]) nt)
      have eu := same_new (o := .tup [.int (dd x y e (1 + (i : Nat))), .ref u]) nt u _ upd_same
      refine ⟨L, xs, _, rfl, rfl, s4 _ _ hL, szlt (by omega), ?_⟩
      refine ⟨_, _, rfl, same_own (s2.trans s4) nL, xs ++ [.ref t], upd_same, by rw [List.length_append, lx]; rfl, fun k hk => ?_⟩
      by_cases c : k < i
      · obtain ⟨t', u', g1, g2, g3⟩ := tr k c
        exact ⟨t', u', by rw [List.getElem?_append_left (by omega)]; exact g1, tup_other (s4 _ _ hL) (s4 _ _ g2), tup_other (s4 _ _ hL) (s4 _ _ g3)⟩
      · obtain rfl : k = i := by omega
        exact ⟨t, u, by rw [List.getElem?_append_right (by omega), lx, Nat.sub_self]; rfl, tup_other (s4 _ _ hL) upd_same, tup_other (s4 _ _ hL) eu⟩
    · rintro σ H' ⟨v4, v5, rfl, s2, xs, hL, lx, tr⟩
      obtain ⟨t, u, g1, g2, g3⟩ := tr (wd - 1).toNat (by omega)
      have ew : 1 + (((wd - 1).toNat : Nat) : Int) = wd := by omega
      refine ⟨_, rfl, L, xs, fun i => dd x y e (1 + (i : Nat)), (wd - 1).toNat, .ref t, rfl, SqL.of hL, g1, fun i z hz => ?_, fun i i' h1 h2 h3 => ?_, fun i h1 h2 => ?_, ?_⟩
      · have il : i < xs.length := (List.getElem?_eq_some_iff.mp hz).1
        obtain ⟨t', u', f1, f2, f3⟩ := tr i (by omega)
        exact ⟨t', _, Option.some.inj (hz.symm.trans f1), SqT.of f2⟩
      · exact ne _ _ (by omega) (by omega) (by omega)
      · show dd x y e (1 + (((wd - 1).toNat : Nat) : Int)) < dd x y e (1 + (i : Nat))
        rw [ew]
        exact least _ (by omega) (by omega) (by omega)
      · refine ⟨t, _, 1, _, rfl, rfl, SqT.of g2, atI_nat (j := 1) rfl, q H' u s2 ?_⟩
        rw [ew, eh] at g3
        exact g3
end
end K48
set_option Elab.async false
set_option linter.all false
set_option maxRecDepth 100000
set_option maxHeartbeats 4000000
/-! The law's judgement of one bound. -/
namespace K48
open PySem PySem.Spec PyProof.Rows L2
theorem sc_law_bound_right : FnScope ["_law_mine", "_law_most", "_law_below", "_law_above", "_law_told"] ["_law_mine", "_law_most"] (defScope st_law_bound_right) := ⟨rfl, rfl, rfl, by decide +kernel, rfl, by decide +kernel, by decide +kernel⟩
/-! ### nearest_point by keywords -/
def gN (us ws : List Value) : List Value := match us with
  | [] => (match ws with
    | [b, s, x] => [x, s, b]
    | _ => [])
  | _ => []
def gV (us ws : List V) : List V := match us with
  | [] => (match ws with
    | [b, s, x] => [x, s, b]
    | _ => [])
  | _ => []
theorem g_rel {vs zs : List V} {us ws : List Value} (r1 : Vals vs us) (r2 : Vals zs ws) : Vals (gV vs zs) (gN us ws) := by
  cases r1 with
  | cons a r => exact .nil
  | nil =>
    cases r2 with
    | nil => exact .nil
    | cons a r =>
      cases r with
      | nil => exact .nil
      | cons b r =>
        cases r with
        | nil => exact .nil
        | cons c r =>
          cases r with
          | nil => exact .cons c (.cons b (.cons a .nil))
          | cons d r => exact .nil
theorem kb_np {K : PySem.W.Frag} {f : Addr} {fd : FuncData} (FD : FunD K "nearest_point" "nearest_point" (defArgs st_nearest_point) (defBody st_nearest_point) (defScope st_nearest_point) [] [] f fd) : KBinds K fd ["slope", "side", "bound"] ["bound", "side", "slope"] gN gV := by
  obtain ⟨oc, od, dV, kV, doc, pm, an, cdv, ct, osl, rfl, lk, hcd, hD, hK⟩ := FD.ex
  rcases hD with ⟨_, rfl⟩ | ⟨e, _⟩
  · refine ⟨fun s us ws X l => BindsTo.of_eq ?_, g_rel⟩
    match us, ws, l with
    | [], [b, s, x], _ => rfl
    | [], [], l => exact absurd (show (0 : Nat) = 3 from l) (by decide)
    | [], [_], l => exact absurd (show (0 : Nat) = 3 from l) (by decide)
    | [], [_, _], l => exact absurd (show (0 : Nat) = 3 from l) (by decide)
    | [], _ :: _ :: _ :: _ :: _, l => exact absurd (show (0 : Nat) = 3 from l) (by decide)
    | _ :: _, _, l => exact absurd (show (0 : Nat) = 3 from l) (by decide)
  · exact absurd rfl e
theorem iteFE {c : Bool} {A B : Prop} (e : c = false) (h : B) : if c = true then A else B := by
  rw [e]
  exact iteF h
theorem iteTE {c : Bool} {A B : Prop} (e : c = true) (h : A) : if c = true then A else B := by
  rw [e]
  exact iteT h
/-! ### lists of two pairs -/
def two (i j k l : Int) : PyData := .list [.tuple (dI [i, j]), .tuple (dI [k, l])]
theorem shaped_two (i j k l : Int) : SeqAt.shaped (two i j k l) = true := shaped_prs 2 (fun n => if n = 0 then i else k) (fun n => if n = 0 then j else l)
theorem eqv_same (ns : List Int) : PyData.eqv (.tuple (dI ns)) (.tuple (dI ns)) = true := by
  rw [eqv_tups]
  exact decide_eq_true rfl
theorem eqv_two (i j k l : Int) : PyData.eqv (two i j k l) (two i j k l) = true := by
  show (PyData.eqv (.tuple (dI [i, j])) (.tuple (dI [i, j])) && (PyData.eqv (.tuple (dI [k, l])) (.tuple (dI [k, l])) && true)) = true
  rw [eqv_same, eqv_same]
  rfl
theorem dp_two {K : PySem.W.Frag} {H : Hp} {L p q : Addr} {i j k l : Int} (h : H L = some (.lst [.ref p, .ref q])) (hp : H p = some (.tup [.int i, .int j])) (hq : H q = some (.tup [.int k, .int l])) : Dp K H (.ref L) (two i j k l) := .lst (SqL.of h) (.cons (dp_pair hp) (.cons (dp_pair hq) .nil))
section
variable {P : Program} {w : World} {K : PySem.W.Frag} {mg : Str → Option Value} {base : Heap}
def spBr (K : PySem.W.Frag) : Sp := fun vs H Q _ => ∃ (x : V) (a : Nat → Int) (bd : Int), vs = [x, .int bd] ∧ SlAt K H x a ∧ 1 ≤ bd ∧ bd ≤ 10 ^ 30 ∧ ∀ H', Same H H' → Q (.bl true) H'
theorem cal_law_bound_right (Tx : Gm K mg) : C8.Cal P w K mg base 9 "_law_bound_right" (spBr K) [] := by
  have c_greatest_below : C8.Cal P w K mg base 5 "greatest_below" (spSideTo K 1) [] := cal_greatest_below Tx
  have c_least_above : C8.Cal P w K mg base 5 "least_above" (spSideTo K 0) [] := cal_least_above Tx
  have c_nearest_point : C8.Cal P w K mg base 5 "nearest_point" (spNearestPoint K) [] := cal_nearest_point Tx
  have c_best : C8.Cal P w K mg base 8 "best" (spBestTo K) [] := cal_best Tx
  refine cal_of Tx.f_law_bound_right sc_law_bound_right (fun _ _ _ _ _ _ us hl => match us, hl with | [_, _], _ => rfl) (fun vs H Q E h => ?_) (fun f cdv A outer st H vs Q E hr h => ?_)
  · obtain ⟨x, a, bd, rfl, _⟩ := h
    rfl
  · obtain ⟨x, a, bd, rfl, sl, h1, h2, q⟩ := h
    have ok := sl.ok
    obtain ⟨s1, d1⟩ := side_ex ok h1 (e := 1) (.inr rfl)
    obtain ⟨s0, d0⟩ := side_ex ok h1 (e := 0) (.inl rfl)
    refine ⟨_, (pss_cons (ps_par (i := 2) (j := 3) rfl sc_law_bound_right.nd rfl rfl (by decide) rfl rfl (pa_cons (C8.pe_c c_greatest_below hr (by decide) rfl (pa_cons (pv 0) (pa_cons (pv 1) pa_nil))) (pa_cons (C8.pe_c c_least_above hr (by decide) rfl (pa_cons (pv 0) (pa_cons (pv 1) pa_nil))) pa_nil)) (by rfl))
      (pss_cons (ps_set (i := 4) sc_law_bound_right.nd rfl (Or.inl rfl) (pe_lst (pa_cons (C8.pe_c c_nearest_point hr (by decide) rfl (pa_cons (pv 0) (pa_cons pe_str (pa_cons (pv 1) pa_nil)))) (pa_cons (C8.pe_c c_nearest_point hr (by decide) rfl (pa_cons (pv 0) (pa_cons pe_str (pa_cons (pv 1) pa_nil)))) pa_nil))))
      (pss_cons (ps_if (pt_cmpR (op_neD hr.units) (pv 4) (pe_lst (pa_cons (pe_tup (pa_cons (pe_ix ix_tup (pv 2) pe_int (fun _ _ => rfl)) (pa_cons (pe_ix ix_tup (pv 2) pe_int (fun _ _ => rfl)) pa_nil))) (pa_cons (pe_tup (pa_cons (pe_ix ix_tup (pv 3) pe_int (fun _ _ => rfl)) (pa_cons (pe_ix ix_tup (pv 3) pe_int (fun _ _ => rfl)) pa_nil))) pa_nil))) (nomark _)) (pss_one (ps_ret pe_bl)) pss_nil)
      (pss_one (ps_ret (pe_cmpR (op_inD (hu65 hr)) (C8.pe_c c_best hr (by decide) rfl (pa_cons (pv 0) (pa_cons (pv 1) pa_nil))) (pe_lst (pa_cons (pv 2) (pa_cons (pv 3) pa_nil))) (by rfl))))))), ?_⟩
    refine ⟨_, rfl, _, rfl, x, a, bd, s1, rfl, sl, h1, h2, d1, fun H1 p1 k1 f1 => ?_⟩
    refine ⟨_, rfl, _, rfl, x, a, bd, s0, rfl, sl.same k1, h1, h2, d0, fun H2 p0 k2 f0 => ⟨_, _, rfl, ?_⟩⟩
    have sl2 := (sl.same k1).same k2
    refine ⟨_, rfl, _, rfl, x, a, bd, false, s1, rfl, sl2, h1, h2, d1, fun H3 q1 k3 e1 => ?_⟩
    have sl3 := sl2.same k3
    refine ⟨_, rfl, _, rfl, x, a, bd, true, s0, rfl, sl3, h1, h2, d0, fun H4 q0 k4 e0 => ⟨sz2, fun L nL => ?_⟩⟩
    have k5 := same_new (H := H4) (o := .lst [.ref q1, .ref q0]) nL
    have g1 := k5 _ _ (k4 _ _ (k3 _ _ (k2 _ _ f1)))
    have g0 := k5 _ _ (k4 _ _ (k3 _ _ f0))
    have r1 := k5 _ _ (k4 _ _ e1)
    have r0 := k5 _ _ e0
    have sl5 := (sl3.same k4).same k5
    have kk := (((k1.trans k2).trans k3).trans k4).trans k5
    have hL : upd H4 L (.lst [.ref q1, .ref q0]) L = some (.lst [.ref q1, .ref q0]) := upd_same
    generalize upd H4 L (.lst [.ref q1, .ref q0]) = G at g1 g0 r1 r0 sl5 kk hL k5 ⊢
    refine ⟨_, rfl, _, rfl, p1, _, 1, _, rfl, rfl, SqT.of g1, atI_nat (j := 1) rfl, _, rfl, p1, _, 0, _, rfl, rfl, SqT.of g1, atI_nat (j := 0) rfl, sz2, fun u nu => ?_⟩
    have m1 := same_new (H := G) (o := .tup [.int (wid a bd s1), .int (hgt a bd s1)]) nu
    refine ⟨_, rfl, p0, _, 1, _, rfl, rfl, SqT.of (m1 _ _ g0), atI_nat (j := 1) rfl, _, rfl, p0, _, 0, _, rfl, rfl, SqT.of (m1 _ _ g0), atI_nat (j := 0) rfl, sz2, fun v nv => ⟨sz2, fun M nM => ?_⟩⟩
    have m2 := same_new (o := .tup [.int (wid a bd s0), .int (hgt a bd s0)]) nv
    have m3 := same_new (o := .lst [.ref u, .ref v]) nM
    have mm := (m1.trans m2).trans m3
    have z := eqv_two (wid a bd s1) (hgt a bd s1) (wid a bd s0) (hgt a bd s0)
    refine ⟨two (wid a bd s1) (hgt a bd s1) (wid a bd s0) (hgt a bd s0), two (wid a bd s1) (hgt a bd s1) (wid a bd s0) (hgt a bd s0), dp_two (mm _ _ hL) (mm _ _ r1) (mm _ _ r0), dp_two upd_same (m3 _ _ (m2 _ _ upd_same)) (m3 _ _ upd_same), shaped_two _ _ _ _, shaped_two _ _ _ _, _, rfl, iteFE (by rw [z]; rfl) ?_⟩
    refine ⟨_, rfl, _, rfl, x, a, bd, s1, s0, rfl, sl5.same mm, h1, h2, d1, d0, fun H6 b k6 fb => ⟨_, rfl, _, rfl, sz2, fun N nN => ?_⟩⟩
    have k7 := same_new (H := H6) (o := .lst [.ref p1, .ref p0]) nN
    have fb' : ∃ i j, upd H6 N (.lst [.ref p1, .ref p0]) b = some (.tup [.int i, .int j]) ∧ ((i = hgt a bd s1 ∧ j = wid a bd s1) ∨ (i = hgt a bd s0 ∧ j = wid a bd s0)) := by
      rcases fb with fb | fb
      · exact ⟨_, _, k7 _ _ fb, .inl ⟨rfl, rfl⟩⟩
      · exact ⟨_, _, k7 _ _ fb, .inr ⟨rfl, rfl⟩⟩
    obtain ⟨i, j, hb, hij⟩ := fb'
    refine ⟨.tuple (dI [i, j]), _, dp_pair hb, dp_two upd_same (k7 _ _ (k6 _ _ (mm _ _ g1))) (k7 _ _ (k6 _ _ (mm _ _ g0))), shaped_tup _, shaped_two _ _ _ _, ?_⟩
    have ev : ([PyData.tuple (dI [hgt a bd s1, wid a bd s1]), .tuple (dI [hgt a bd s0, wid a bd s0])].any fun z => PyData.eqv z (.tuple (dI [i, j]))) = true := by
      refine List.any_eq_true.mpr ?_
      rcases hij with ⟨rfl, rfl⟩ | ⟨rfl, rfl⟩
      · exact ⟨_, List.mem_cons_self, eqv_same _⟩
      · exact ⟨_, List.mem_cons_of_mem _ List.mem_cons_self, eqv_same _⟩
    rw [ev]
    exact q _ (((kk.trans mm).trans k6).trans k7)
end
end K48
set_option Elab.async false
set_option linter.all false
set_option maxRecDepth 100000
set_option maxHeartbeats 4000000
/-! The law's judgement of one purse, and the law. -/
namespace K48
open PySem PySem.Spec PyProof.Rows L2
theorem sc_law_right : FnScope ["_law_purse_here", "_law_lead_here", "_law_loop_here", "_law_mine", "_law_far_here", "_law_rows_here", "_law_small", "_law_great", "_law_word", "_law_due", "_law_k", "_law_at", "_law_widths_here", "_law_row", "_law_spot", "_law_each"] ["_law_purse_here"] (defScope st_law_right) := ⟨rfl, rfl, rfl, by decide +kernel, rfl, by decide +kernel, by decide +kernel⟩
theorem sc_law : FnScope ["_law_script", "_law_k"] ["_law_script"] (defScope st_law) := ⟨rfl, rfl, rfl, by decide +kernel, rfl, by decide +kernel, by decide +kernel⟩
/-- what stands after the first lines of the judgement -/
structure Stg (K : PySem.W.Frag) (H : Hp) (pu : Addr) (n : Int) (x : V) (a : Nat → Int) (pf : Addr) (nf : Nat) (D : Addr) (ys : List V) : Prop where
  pu_ : Pu H pu n
  sl : SlAt K H x a
  fa : H pf = some (.tup [.int (T a nf), .int (B a nf)])
  d : H D = some (.lst ys)
  dn : D ≠ pu
  pr : Prs H ys (fun i => T a (i + 1)) (fun i => B a (i + 1))
theorem not_purse {H : Hp} {pu b : Addr} {n : Int} {o : HO} (h : Pu H pu n) (e : H b = some o) (ne : ∀ xs, o ≠ .lst xs) : b ≠ pu := by
  obtain ⟨_, _, _, e2, _⟩ := h
  exact ne_of e e2 (ne _)
theorem SlAt.kept {K : PySem.W.Frag} {H H' : Hp} {x : V} {a : Nat → Int} {pu : Addr} {n : Int} (h : SlAt K H x a) (p : Pu H pu n) (k : Kept pu H H') : SlAt K H' x a := by
  obtain ⟨ok, o, dx, th, tl, tt, wd, lead, turn, e, h1, h2, h3, h4, r⟩ := h
  exact ⟨ok, o, dx, th, tl, tt, wd, lead, turn, e, k _ _ (not_purse p h1 fun _ z => by cases z) h1, k.tup p h2, k.tup p h3, k.tup p h4, r⟩
theorem Stg.same {K : PySem.W.Frag} {H H' : Hp} {pu : Addr} {n : Int} {x : V} {a : Nat → Int} {pf : Addr} {nf : Nat} {D : Addr} {ys : List V} (h : Stg K H pu n x a pf nf D ys) (s : Same H H') : Stg K H' pu n x a pf nf D ys :=
  ⟨h.pu_.same s, h.sl.same s, s _ _ h.fa, s _ _ h.d, h.dn, h.pr.same s⟩
theorem Stg.kept {K : PySem.W.Frag} {H H' : Hp} {pu : Addr} {n m : Int} {x : V} {a : Nat → Int} {pf : Addr} {nf : Nat} {D : Addr} {ys : List V} (h : Stg K H pu n x a pf nf D ys) (k : Kept pu H H') (p : Pu H' pu m) : Stg K H' pu m x a pf nf D ys :=
  ⟨p, h.sl.kept h.pu_ k, k.tup h.pu_ h.fa, k _ _ h.dn h.d, h.dn, fun i hi => by
    obtain ⟨q, e1, e2⟩ := h.pr i hi
    exact ⟨q, e1, k.tup h.pu_ e2⟩⟩
theorem sql_same {K : PySem.W.Frag} {H H' : Hp} {b : Addr} {xs : List V} (h : SqL K H b xs) (e : Same H H') : SqL K H' b xs :=
  h.elim (fun h => .inl (h.elim (fun h => .inl (e _ _ h)) fun ⟨o, h⟩ => .inr ⟨o, e _ _ h⟩)) fun h => .inr h
theorem pM4 : (0 : Int) < 2 := by decide
theorem two_words {i : Nat} {y : V} (h : [V.str "below", V.str "above"][i]? = some y) : ∃ up, y = .str (sideW up) := by
  match i, h with
  | 0, h => exact ⟨false, (Option.some.inj h).symm⟩
  | 1, h => exact ⟨true, (Option.some.inj h).symm⟩
  | n + 2, h => exact absurd h (fun z => nomatch z)
/-- the widths of the corners, below and then above -/
def widf (a : Nat → Int) (i : Nat) : Int := if i < 20 then B a (2 * i + 1) else B a (2 * (i - 20) + 0)
def wids (a : Nat → Int) (n : Nat) : List Int := (List.range n).map (widf a)
theorem wids_len (a : Nat → Int) (n : Nat) : (wids a n).length = n := by
  unfold wids
  rw [List.length_map, List.length_range]
theorem wids_succ (a : Nat → Int) (n : Nat) : wids a (n + 1) = wids a n ++ [widf a n] := by
  unfold wids
  rw [List.range_succ, List.map_append]
  rfl
theorem flat_ints (ns : List Int) : (ns.map V.int).all flatV = true := by
  refine List.all_eq_true.mpr fun x hx => ?_
  obtain ⟨n, _, rfl⟩ := List.mem_map.mp hx
  rfl
theorem in_wids {a : Nat → Int} {m : Nat} (h1 : 1 ≤ m) (h9 : m ≤ 9) : inV (.int (B a m)) ((wids a 40).map V.int) = true := by
  obtain ⟨i, hi, e⟩ : ∃ i, i < 40 ∧ widf a i = B a m := by
    unfold widf
    by_cases c : m % 2 = 1
    · exact ⟨m / 2, by omega, by rw [if_pos (by omega)]; congr 1; omega⟩
    · exact ⟨20 + m / 2, by omega, by rw [if_neg (by omega)]; congr 1; omega⟩
  refine List.any_eq_true.mpr ⟨.int (B a m), List.mem_map.mpr ⟨_, List.mem_map.mpr ⟨i, List.mem_range.mpr hi, e⟩, rfl⟩, ?_⟩
  exact beq_self_eq_true (B a m)
theorem p28 : ((10 : Int) ^ (28 : Int).toNat) = 10 ^ 28 ∧ (1 : Int) ≤ 10 ^ 28 ∧ (10 : Int) ^ 28 ≤ 10 ^ 75 ∧ (10 : Int) ^ 28 ≤ 10 ^ 30 := by decide +kernel
def greats : List Int := [(10 : Int) ^ (7 : Int).toNat, (10 : Int) ^ (19 : Int).toNat, (10 : Int) ^ (30 : Int).toNat]
theorem greats_bd {g : Int} (h : g ∈ greats) : 10000 ≤ g ∧ g ≤ 10 ^ 30 := by
  have : greats.all (fun n => decide (10000 ≤ n ∧ n ≤ 10 ^ 30)) = true := by decide +kernel
  exact of_decide_eq_true (List.all_eq_true.mp this g h)
section
variable {P : Program} {w : World} {K : PySem.W.Frag} {mg : Str → Option Value} {base : Heap}
def spRight : Sp := fun vs H Q _ => ∃ (pu : Addr) (n : Int), vs = [.ref pu] ∧ Pu H pu n ∧ n ≤ 100 ∧ ∀ H', Kept pu H H' → Q (.bl true) H'
theorem cal_law_right (Tx : Gm K mg) : C8.Cal P w K mg base 10 "_law_right" spRight [] := by
  have m_Slope : C8.Mak P w K mg base 4 "Slope" (CS K) (spInit K) [] := mak_slope Tx
  have c_law_take : C8.Cal P w K mg base 1 "_law_take" spTake [] := cal_law_take Tx
  have c_law_one : C8.Cal P w K mg base 2 "_law_one" spOne [] := cal_law_one Tx
  have c_law_parts : C8.Cal P w K mg base 3 "_law_parts" spParts [] := cal_law_parts Tx
  have c_law_rows : C8.Cal P w K mg base 1 "_law_rows" spRows [] := cal_law_rows Tx
  have c_law_far : C8.Cal P w K mg base 2 "_law_far" spFar [] := cal_law_far Tx
  have c_law_tried : C8.Cal P w K mg base 3 "_law_tried" spTried [] := cal_law_tried Tx
  have c_nearest_point : C8.Cal P w K mg base 5 "nearest_point" (spNearestPoint K) [] := cal_nearest_point Tx
  have c_law_bound_right : C8.Cal P w K mg base 9 "_law_bound_right" (spBr K) [] := cal_law_bound_right Tx
  have c_is_corner : C8.Cal P w K mg base 5 "is_corner" (spIsCorner K) [] := cal_is_corner Tx
  have c_corners : C8.Cal P w K mg base 3 "corners" (spCorners K) [] := cal_corners Tx
  have c_records : C8.Cal P w K mg base 4 "records" (spRecordsTo K .tup) [] := cal_records Tx
  obtain ⟨f_np, fd_np, FD_np, hm_np, F_np⟩ := fn_nearest_point (P := P) (w := w) (base := base) Tx
  refine cal_of Tx.f_law_right sc_law_right (fun _ _ _ _ _ _ us hl => match us, hl with | [_], _ => rfl) (fun vs H Q E h => ?_) (fun f cdv A outer st H vs Q E hr h => ?_)
  · obtain ⟨pu, n, rfl, _⟩ := h
    rfl
  · obtain ⟨pu, n, rfl, hp, hn, q⟩ := h
    refine ⟨_, (pss_cons (ps_asg (C8.pe_c c_law_parts hr (by decide) rfl (pa_cons (pv 0) pa_nil)) (pg_tup rfl (pgs_cons (pg_name (i := 1) sc_law_right.nd rfl (Or.inl rfl)) (pgs_cons (pg_name (i := 2) sc_law_right.nd rfl (Or.inl rfl)) pgs_nil))))
      (pss_cons (ps_par (i := 3) (j := 4) rfl sc_law_right.nd rfl rfl (by decide) rfl rfl (pa_cons (C8.pe_mk m_Slope hr (by decide) rfl (pa_cons (pv 1) (pa_cons (pv 2) pa_nil))) (pa_cons (C8.pe_c c_law_far hr (by decide) rfl (pa_cons (pv 1) (pa_cons (pv 2) pa_nil))) pa_nil)) (by rfl))
      (pss_cons (ps_setLc (i := 5) (own := [("_law_row", 13)]) (by rfl) sc_law_right.nd rfl rfl (sw_true rfl rfl rfl (by decide +kernel)) (pi_list (C8.pe_c c_law_rows hr (by decide) rfl (pa_cons (pv 1) (pa_cons (pv 2) (pa_cons (pe_op op_pow pe_int pe_int) pa_nil))))) (blkOk_by (own := [("_law_row", 13)]) (N := ["_law_purse_here", "_law_lead_here", "_law_loop_here", "_law_mine", "_law_far_here", "_law_rows_here", "_law_small", "_law_great", "_law_word", "_law_due", "_law_k", "_law_at", "_law_widths_here", "_law_row", "_law_spot", "_law_each"]) (sc := defScope st_law_right) (by decide +kernel)) (fun _ _ _ _ _ => (pg_name (i := 13) sc_law_right.nd rfl (Or.inl rfl))) (fun _ _ _ _ _ => (pts_one (pt_cmpR op_le (pe_ix (show IxR _ (rIxT K) from ix_tup) (pv 13) pe_int (fun _ _ => rfl)) (pe_op op_pow pe_int pe_int) (nomark _)))) (fun _ _ _ _ _ => (pv 13)))
      (pss_cons (ps_par (i := 6) (j := 7) rfl sc_law_right.nd rfl rfl (by decide) rfl rfl (pa_cons (pe_op op_add pe_int (C8.pe_c c_law_take hr (by decide) rfl (pa_cons (pv 0) (pa_cons pe_int pa_nil)))) (pa_cons (pe_op op_sub (C8.pe_c c_law_one hr (by decide) rfl (pa_cons (pv 0) (pa_cons (pe_lst (pa_cons (pe_op op_pow pe_int pe_int) (pa_cons (pe_op op_pow pe_int pe_int) (pa_cons (pe_op op_pow pe_int pe_int) pa_nil)))) pa_nil))) (C8.pe_c c_law_take hr (by decide) rfl (pa_cons (pv 0) (pa_cons pe_int pa_nil)))) pa_nil)) (by rfl))
      (pss_cons (ps_for PassesOwn.never rfl (pi_list (pe_lst (pa_cons pe_str (pa_cons pe_str pa_nil)))) (pg_name (i := 8) sc_law_right.nd rfl (Or.inl rfl)) (pss_cons (ps_set (i := 9) sc_law_right.nd rfl (Or.inl rfl) (C8.pe_c c_law_tried hr (by decide) rfl (pa_cons (pv 4) (pa_cons (pv 8) (pa_cons (pv 6) pa_nil)))))
      (pss_one (ps_if (PW.pt (pw_or (pt_cmpR (op_neD hr.units) (C8.pe_c c_nearest_point hr (by decide) rfl (pa_cons (pv 3) (pa_cons (pv 8) (pa_cons (pv 6) pa_nil)))) (pv 9) (nomark _)) (pw_or1 (pt_cmpR (op_neD hr.units) (pe_callK0 F_np (hr.mono (by decide)) rfl hm_np FD_np.kp (kb_np FD_np) pass0 (pk_cons (pv 6) (pk_cons (pv 8) (pk_cons (pv 3) pk_nil)))) (pv 9) (nomark _))))) (pss_one (ps_ret pe_bl)) pss_nil))))
      (pss_cons (ps_if (PW.pt (pw_or (pt_not (pt_val (C8.pe_c c_law_bound_right hr (by decide) rfl (pa_cons (pv 3) (pa_cons (pv 6) pa_nil))))) (pw_or1 (pt_not (pt_val (C8.pe_c c_law_bound_right hr (by decide) rfl (pa_cons (pv 3) (pa_cons (pv 7) pa_nil)))))))) (pss_one (ps_ret pe_bl)) pss_nil)
      (pss_cons (ps_set (i := 10) sc_law_right.nd rfl (Or.inl rfl) (C8.pe_c c_law_take hr (by decide) rfl (pa_cons (pv 0) (pa_cons (pe_callB call_len_seq (by rfl) Tx.n_len (by decide +kernel) (pa_cons (pv 5) pa_nil)) pa_nil))))
      (pss_cons (ps_set (i := 11) sc_law_right.nd rfl (Or.inl rfl) (C8.pe_c c_nearest_point hr (by decide) rfl (pa_cons (pv 3) (pa_cons (pe_ix ix_list (pe_lst (pa_cons pe_str (pa_cons pe_str pa_nil))) (pe_op op_mod (pe_callTy call_int1 (by rfl) Tx.n_int (by decide +kernel) (pa_cons (pv 10) pa_nil)) pe_int) (fun _ _ => rfl)) (pa_cons (pe_ix ix_tup (pe_ix ix_list (pv 5) (pv 10) (fun _ _ => rfl)) pe_int (fun _ _ => rfl)) pa_nil)))))
      (pss_cons (ps_if (PW.pt (pw_or (pt_cmpR (op_neD hr.units) (pv 11) (pe_tup (pa_cons (pe_ix ix_tup (pe_ix ix_list (pv 5) (pv 10) (fun _ _ => rfl)) pe_int (fun _ _ => rfl)) (pa_cons (pe_ix ix_tup (pe_ix ix_list (pv 5) (pv 10) (fun _ _ => rfl)) pe_int (fun _ _ => rfl)) pa_nil))) (nomark _)) (pw_or1 (pt_cmpR op_notBl (C8.pe_c c_is_corner hr (by decide) rfl (pa_cons (pv 3) (pa_cons (pv 11) pa_nil))) pe_bl (nomark _))))) (pss_one (ps_ret pe_bl)) pss_nil)
      (pss_cons (ps_set (i := 12) sc_law_right.nd rfl (Or.inr rfl) (pe_lc (own := [("_law_spot", 14)]) (by rfl) sc_law_right.nd (pi_tup (pe_op op_catA (C8.pe_c c_corners hr (by decide) rfl (pa_cons (pv 3) (pa_cons pe_str (pa_cons pe_int pa_nil)))) (C8.pe_c c_corners hr (by decide) rfl (pa_cons (pv 3) (pa_cons pe_str (pa_cons pe_int pa_nil)))))) (blkOk_by (own := [("_law_spot", 14)]) (N := ["_law_purse_here", "_law_lead_here", "_law_loop_here", "_law_mine", "_law_far_here", "_law_rows_here", "_law_small", "_law_great", "_law_word", "_law_due", "_law_k", "_law_at", "_law_widths_here", "_law_row", "_law_spot", "_law_each"]) (sc := defScope st_law_right) (by decide +kernel)) (fun _ _ _ _ _ => (pg_name (i := 14) sc_law_right.nd rfl (Or.inl rfl))) (fun _ _ _ _ _ => pts_nil) (fun _ _ _ _ _ => (pe_ix (show IxR _ (rIxT K) from ix_tup) (pv 14) pe_int (fun _ _ => rfl)))))
      (pss_one (ps_ret (pe_cmpR (op_eqD hr.units) (pe_lc (own := [("_law_each", 15)]) (by rfl) sc_law_right.nd (pi_tup (C8.pe_c c_records hr (by decide) rfl (pa_cons (pv 3) (pa_cons (pv 6) pa_nil)))) (blkOk_by (own := [("_law_each", 15)]) (N := ["_law_purse_here", "_law_lead_here", "_law_loop_here", "_law_mine", "_law_far_here", "_law_rows_here", "_law_small", "_law_great", "_law_word", "_law_due", "_law_k", "_law_at", "_law_widths_here", "_law_row", "_law_spot", "_law_each"]) (sc := defScope st_law_right) (by decide +kernel)) (fun _ _ _ _ _ => (pg_name (i := 15) sc_law_right.nd rfl (Or.inl rfl))) (fun _ _ _ _ _ => (pts_one (pt_cmpR (show OpR _ (compareOp .NotIn) (rIn K true) from op_notIn_seq) (pv 15) (pv 12) (by rfl)))) (fun _ _ _ _ _ => (pv 15))) (pe_lst pa_nil) (nomark _)))))))))))))), ?_⟩
    -- the parts
    refine ⟨_, rfl, pu, n, rfl, hp, by omega, fun H1 r p1 p2 l t k1 pu1 hr1 ht1 ht2 ll lt nt l20 t20 => ⟨r, _, rfl, SqT.of hr1, rfl, _, _, rfl, _, _, rfl, rfl, ?_⟩⟩
    -- the slope, the far fraction
    refine ⟨_, rfl, _, rfl, fun x dx nx ndx nxd => ?_⟩
    have b1 := same_new (H := H1) (o := .own x) ndx
    have nx2 : upd H1 dx (.own x) x = none := by
      rw [upd_ne (Ne.symm nxd)]
      exact nx
    have b2 := b1.trans (same_new (o := .ins (CS K) dx []) nx2)
    refine ⟨x, dx, p1, p2, l, t, rfl, upd_same, b2 _ _ ht1, b2 _ _ ht2, by omega, by omega, nt, l20, t20, fun H2 sl2 keep => ⟨rfl, ?_⟩⟩
    have s2 : Same H1 H2 := fun b o e => keep b o (b2 b o e) (ne_of_none e nx)
    have ok := sl2.ok
    refine ⟨_, rfl, _, rfl, p1, p2, l, t, rfl, s2 _ _ ht1, s2 _ _ ht2, by omega, by omega, nt, ok, fun H3 pf nf s3 far hf => ⟨_, _, rfl, ?_⟩⟩
    -- the rows
    have q28 := p28
    refine ⟨_, rfl, _, rfl, _, _, rfl, rfl, ⟨by decide, by decide, by decide⟩, p1, p2, l, t, _, rfl, s3 _ _ (s2 _ _ ht1), s3 _ _ (s2 _ _ ht2), by omega, by omega, nt, ok, ?_⟩
    rw [p28.1]
    refine ⟨p28.2.1, p28.2.2.1, fun H4 L n4 s4 ⟨xs, hL, len, prs⟩ n2 n401 big le => ⟨L, rfl, ⟨_, SqL.of hL⟩, fun D nD => ?_⟩⟩
    have s24 := (s2.trans s3).trans s4
    have pu4 : Pu H4 pu (n + 7) := pu1.same s24
    have Dp : D ≠ pu := by
      obtain ⟨_, _, _, e, _⟩ := pu4
      exact (ne_of_none e nD).symm
    generalize ea : partOf l t = a at *
    refine lc_list (K := K) (a := L) (xs := xs) (fun i H' => Same H4 H' ∧ ∃ ys : List V, H' D = some (.lst ys) ∧ ys.length = min i (n4 - 1) ∧ Prs H' ys (fun i => T a (i + 1)) (fun i => B a (i + 1))) ⟨same_new nD, [], upd_same, by rw [Nat.zero_min]; rfl, Prs.nil⟩ (fun i H' _ ⟨s5, _⟩ => SqL.of (s5 _ _ hL)) ?_ ?_
    · rintro i y H' hy ⟨s5, ys, hD, ly, py⟩
      have il : i < xs.length := (List.getElem?_eq_some_iff.mp hy).1
      obtain ⟨p, e1, e2⟩ := prs.get il
      obtain rfl : y = .ref p := Option.some.inj (hy.symm.trans e1)
      refine ⟨rfl, _, rfl, p, _, 1, _, rfl, rfl, SqT.of (s5 _ _ e2), atI_nat (j := 1) rfl, _, _, rfl, rfl, ⟨by decide, by decide, by decide⟩, _, _, rfl, rfl, _, rfl, ite2 (fun e => ?_) (fun e => ?_)⟩
      · have c : B a (i + 1) ≤ 10 ^ 28 := by
          have := of_decide_eq_true e
          rwa [p28.1] at this
        have i1 : i < n4 - 1 := by
          refine Nat.lt_of_not_le fun z => ?_
          rw [show i + 1 = n4 by omega] at c
          omega
        rw [Nat.min_eq_left (by omega)] at ly
        refine ⟨_, rfl, ys, hD, szlt (by omega), same_own s5 nD, ys ++ [.ref p], upd_same, ?_, ?_⟩
        · rw [List.length_append, ly, Nat.min_eq_left (by omega)]
          rfl
        · refine (py.push ?_).other hD
          rw [ly]
          exact s5 _ _ e2
      · have c : ¬ B a (i + 1) ≤ 10 ^ 28 := fun z => e (decide_eq_true (by rw [p28.1]; exact z))
        have i1 : i = n4 - 1 := by
          refine Nat.le_antisymm (by omega) (Nat.le_of_not_lt fun z => c (le _ (by omega)))
        exact ⟨s5, ys, hD, by rw [ly]; omega, py⟩
    rintro H5 ⟨s5, ys, hD, ly, py⟩
    have ly : ys.length = n4 - 1 := by
      rw [ly]
      omega
    have sg5 : Stg K H5 pu (n + 7) (.ref x) a pf nf D ys := ⟨pu4.same s5, ((sl2.same s3).same s4).same s5, s5 _ _ (s4 _ _ hf), hD, Dp, py⟩
    have k5 : Kept pu H H5 := k1.trans (kept_same (s24.trans s5))
    have bl : ∀ i, i < ys.length → B a (i + 1) ≤ 10 ^ 28 := fun i hi => le _ (by omega)
    clear s2 s3 s4 s5 hL prs keep b1 b2 hr1 ht1 ht2
    -- the two bounds
    refine ⟨_, rfl, pu, 40, _, rfl, sg5.pu_, by omega, by decide, by decide, fun H6 r6 k6 pu6 r60 r61 => ⟨_, _, rfl, rfl, ?_⟩⟩
    have sg6 := sg5.kept k6 pu6
    refine ⟨_, rfl, _, _, rfl, rfl, ⟨by decide, by decide, by decide⟩, _, _, rfl, rfl, ⟨by decide, by decide, by decide⟩, _, _, rfl, rfl, ⟨by decide, by decide, by decide⟩, sz3, fun M nM => ?_⟩
    have sM := same_new (H := H6) (o := .lst (greats.map V.int)) nM
    have Mp : M ≠ pu := by
      obtain ⟨_, _, _, e, _⟩ := pu6
      exact (ne_of_none e nM).symm
    have sg7 := sg6.same sM
    refine ⟨pu, M, _, greats, rfl, sg7.pu_, by omega, Mp, upd_same, by decide, by decide, fun H8 g k8 pu8 gm => ?_⟩
    have sg8 := sg7.kept k8 pu8
    refine ⟨_, rfl, pu, 1000, _, rfl, sg8.pu_, by omega, by decide, by decide, fun H9 r9 k9 pu9 r90 r91 => ⟨_, _, rfl, rfl, _, _, rfl, ?_⟩⟩
    have sg9 := sg8.kept k9 pu9
    have k9' : Kept pu H H9 := (((k5.trans k6).trans (kept_same sM)).trans k8).trans k9
    obtain ⟨g1, g2⟩ := greats_bd gm
    generalize esm : 1 + r6 = small
    generalize egr : g - r9 = great
    have sm1 : 1 ≤ small ∧ small ≤ 40 := by omega
    have gr1 : 1 ≤ great ∧ great ≤ 10 ^ 30 := by omega
    have sm30 : small ≤ 10 ^ 30 := Int.le_trans sm1.2 (by decide +kernel)
    have b30 : ∀ i, i < ys.length → B a (i + 1) ≤ 10 ^ 30 := fun i hi => Int.le_trans (bl i hi) p28.2.2.2
    clear k5 k6 k8 k9 sg5 sg6 sg7 sg8
    -- both sides, all widths tried
    refine ⟨sz2, fun W nW => ⟨W, rfl, ⟨_, SqL.of upd_same⟩, ?_⟩⟩
    have sW := same_new (H := H9) (o := .lst [.str "below", .str "above"]) nW
    have sg10 := sg9.same sW
    refine for_list (K := K) (a := W) (xs := [.str "below", .str "above"]) (fun i σ H' => ∃ v8 v9, σ = [some (.ref pu), some (.ref p1), some (.ref p2), some (.ref x), some (.ref pf), some (.ref D), some (.int small), some (.int great), v8, v9, none, none, none, none, none, none] ∧
      Same (upd H9 W (.lst [.str "below", .str "above"])) H') ⟨none, none, by rw [← esm, ← egr]; rfl, Same.refl _⟩ (fun i σ H' _ ⟨_, _, _, s⟩ => SqL.of (s _ _ upd_same)) ?_ ?_
    · rintro i y σ H' hy ⟨v8, v9, rfl, s11⟩
      obtain ⟨up, rfl⟩ : ∃ up, y = .str (sideW up) := two_words hy
      have sg11 := sg10.same s11
      obtain ⟨s, sd⟩ := side_ex ok sm1.1 (e := if up = true then 0 else 1) (by cases up with
        | false => exact .inr rfl
        | true => exact .inl rfl)
      refine ⟨_, rfl, _, rfl, _, rfl, pf, a, nf, s, small, up, rfl, sg11.fa, ok, far, sd, sm1.1, sm1.2, fun H12 r12 s12 e12 => ?_⟩
      have sg12 := sg11.same s12
      refine ⟨_, rfl, _, rfl, _, rfl, .ref x, a, small, up, s, rfl, sg12.sl, sm1.1, sm30, sd, fun H13 r13 s13 e13 => ?_⟩
      refine ⟨_, rfl, .tuple (dI [wid a small s, hgt a small s]), .tuple (dI [wid a small s, hgt a small s]), dp_pair e13, dp_pair (s13 _ _ e12), shaped_tup _, shaped_tup _, _, rfl, iteFE (by rw [eqv_same]; rfl) ?_⟩
      refine ⟨_, rfl, _, rfl, _, rfl, .ref x, a, small, up, s, rfl, (sg12.same s13).sl, sm1.1, sm30, sd, fun H14 r14 s14 e14 => ?_⟩
      refine ⟨_, rfl, .tuple (dI [wid a small s, hgt a small s]), .tuple (dI [wid a small s, hgt a small s]), dp_pair e14, dp_pair (s14 _ _ (s13 _ _ e12)), shaped_tup _, shaped_tup _, _, rfl, iteFE (by rw [eqv_same]; rfl) ?_⟩
      exact ⟨_, _, rfl, ((s11.trans s12).trans s13).trans s14⟩
    rintro σ H11 ⟨v8, v9, rfl, s11⟩
    have sg11 := sg10.same s11
    -- the two bounds
    refine ⟨_, rfl, _, rfl, .ref x, a, small, rfl, sg11.sl, sm1.1, sm30, fun H15 s15 => ⟨true, rfl, iteF ?_⟩⟩
    refine ⟨_, rfl, _, rfl, .ref x, a, great, rfl, (sg11.same s15).sl, gr1.1, gr1.2, fun H16 s16 => ⟨true, rfl, iteF ?_⟩⟩
    have sg16 := (sg11.same s15).same s16
    -- one of the rows
    have yl : 1 ≤ ys.length ∧ ys.length ≤ 400 := by omega
    refine ⟨_, rfl, _, rfl, D, ys, rfl, .inl (SqL.of sg16.d), pu, _, _, rfl, sg16.pu_, by omega, by omega, by omega, fun H17 rk k17 pu17 rk0 rk1 => ?_⟩
    have sg17 := sg16.kept k17 pu17
    obtain ⟨j, rfl⟩ : ∃ j : Nat, rk = (j : Nat) := ⟨rk.toNat, by omega⟩
    have jl : j < ys.length := by omega
    obtain ⟨pr, e1, e2⟩ := sg17.pr.get jl
    -- its point
    refine ⟨_, rfl, sz2, fun W2 nW2 => ?_⟩
    have sW2 := same_new (H := H17) (o := .lst [.str "below", .str "above"]) nW2
    have sg18 := sg17.same sW2
    have pick : atI [V.str "below", V.str "above"] ((j : Int) % 2) = some (.str (sideW (decide ((j : Int) % 2 = 1)))) := by
      have u2 : (j : Int) % 2 = 0 ∨ (j : Int) % 2 = 1 := by omega
      rcases u2 with e | e
      · rw [e]
        rfl
      · rw [e]
        rfl
    refine ⟨_, rfl, .inl ⟨_, rfl, _, _, rfl, rfl, pM4, W2, _, _, _, rfl, rfl, SqL.of upd_same, pick, ?_⟩⟩
    refine ⟨_, rfl, _, rfl, D, ys, _, _, rfl, rfl, SqL.of sg18.d, atI_nat e1, pr, _, 1, _, rfl, rfl, SqT.of (sW2 _ _ e2), atI_nat (j := 1) rfl, ?_⟩
    have sd : Side a (B a (j + 1)) (if decide ((j : Int) % 2 = 1) = true then 0 else 1) (j + 1) := by
      have e : (if decide ((j : Int) % 2 = 1) = true then 0 else 1) = (j + 1) % 2 := by
        by_cases c : (j : Int) % 2 = 1
        · rw [decide_eq_true c, if_pos rfl]
          omega
        · rw [decide_eq_false c, if_neg (by decide)]
          omega
      rw [e]
      exact side_self ok
    have bp := B_pos ok (i := j + 1) (by omega)
    refine ⟨.ref x, a, B a (j + 1), decide ((j : Int) % 2 = 1), j + 1, rfl, sg18.sl, bp, b30 j jl, sd, fun H19 pt s19 e19 => ?_⟩
    rw [wid_self ok, hgt_self ok] at e19
    have sg19 := sg18.same s19
    have e3 := s19 _ _ (sW2 _ _ e2)
    refine ⟨_, rfl, _, rfl, _, rfl, D, ys, _, _, rfl, rfl, SqL.of sg19.d, atI_nat e1, pr, _, 1, _, rfl, rfl, SqT.of e3, atI_nat (j := 1) rfl, _, rfl, _, rfl, D, ys, _, _, rfl, rfl, SqL.of sg19.d, atI_nat e1, pr, _, 0, _, rfl, rfl, SqT.of e3, atI_nat (j := 0) rfl, sz2, fun u nu => ?_⟩
    have su := same_new (H := H19) (o := .tup [.int (B a (j + 1)), .int (T a (j + 1))]) nu
    have sg20 := sg19.same su
    refine ⟨.tuple (dI [B a (j + 1), T a (j + 1)]), .tuple (dI [B a (j + 1), T a (j + 1)]), dp_pair (su _ _ e19), dp_pair upd_same, shaped_tup _, shaped_tup _, _, rfl, iteFE (by rw [eqv_same]; rfl) ?_⟩
    refine ⟨_, rfl, _, rfl, .ref x, a, pt, j + 1, rfl, sg20.sl, by omega, b30 j jl, su _ _ e19, fun H21 s21 => ⟨true, true, rfl, rfl, _, rfl, iteFE rfl ?_⟩⟩
    have sg21 := sg20.same s21
    -- the corners' widths
    refine ⟨_, rfl, .ref x, a, false, rfl, sg21.sl, fun H22 c1 ys1 s22 h22 l22 pr22 => ?_⟩
    refine ⟨_, rfl, .ref x, a, true, rfl, (sg21.same s22).sl, fun H23 c2 ys2 s23 h23 l23 pr23 => ?_⟩
    refine cat_any (s23 _ _ h22) h23 (by rw [l22, l23]; decide) fun H24 c3 s24 h24 => ⟨c3, rfl, ⟨_, SqT.of h24⟩, fun D2 nD2 => ?_⟩
    have lz : (ys1 ++ ys2).length = 40 := by rw [List.length_append, l22, l23]
    have pz : ∀ i, i < 40 → ∃ p y, (ys1 ++ ys2)[i]? = some (.ref p) ∧ H24 p = some (.tup [.int (widf a i), .int y]) := fun i hi => by
      unfold widf
      by_cases c : i < 20
      · obtain ⟨p, f1, f2⟩ := pr22.get (i := i) (by omega)
        exact ⟨p, _, by rw [List.getElem?_append_left (by omega)]; exact f1, by rw [if_pos c]; exact s24 _ _ (s23 _ _ f2)⟩
      · obtain ⟨p, f1, f2⟩ := pr23.get (i := i - 20) (by omega)
        exact ⟨p, _, by rw [List.getElem?_append_right (by omega), l22]; exact f1, by rw [if_neg c]; exact s24 _ _ f2⟩
    refine lc_tup (K := K) (a := c3) (xs := ys1 ++ ys2) (fun i H' => Same H24 H' ∧ H' D2 = some (.lst ((wids a i).map V.int))) ⟨same_new nD2, upd_same⟩ (fun i H' _ ⟨s, _⟩ => SqT.of (s _ _ h24)) ?_ ?_
    · rintro i y H' hy ⟨s25, hD2⟩
      have il : i < (ys1 ++ ys2).length := (List.getElem?_eq_some_iff.mp hy).1
      obtain ⟨p, z, f1, f2⟩ := pz i (by omega)
      obtain rfl : y = .ref p := Option.some.inj (hy.symm.trans f1)
      refine ⟨rfl, _, rfl, p, _, 0, _, rfl, rfl, SqT.of (s25 _ _ f2), atI_nat (j := 0) rfl, _, hD2, ?_, same_own s25 nD2, ?_⟩
      · rw [List.length_map, wids_len]
        exact szlt (by omega)
      · rw [upd_same, wids_succ, List.map_append]
        rfl
    rintro H25 ⟨s25, hD2⟩
    rw [lz] at hD2
    have sg25 := (((sg21.same s22).same s23).same s24).same s25
    -- the records
    refine ⟨_, rfl, _, rfl, .ref x, a, small, rfl, sg25.sl, sm1.1, sm1.2, fun H26 p26 ns s26 h26 ln26 smalls => ⟨p26, rfl, ⟨_, SqT.of h26⟩, fun D3 nD3 => ?_⟩⟩
    refine lc_tup (K := K) (a := p26) (xs := ns.map V.int) (fun i H' => Same H26 H' ∧ H' D3 = some (.lst [])) ⟨same_new nD3, upd_same⟩ (fun i H' _ ⟨s, _⟩ => SqT.of (s _ _ h26)) ?_ ?_
    · rintro i y H' hy ⟨s27, hD3⟩
      obtain ⟨k, hk, rfl⟩ := map_get hy
      obtain ⟨m, m1, m9, rfl⟩ := smalls k (List.mem_of_getElem? hk)
      have ev : (!inV (.int (B a m)) ((wids a 40).map V.int)) = false := by
        rw [in_wids m1 m9]
        rfl
      exact ⟨rfl, _, rfl, _, rfl, D2, _, rfl, .inl (SqL.of (s27 _ _ (s26 _ _ hD2))), rfl, flat_ints _, _, rfl, iteFE ev ⟨s27, hD3⟩⟩
    rintro H27 ⟨s27, hD3⟩
    refine ⟨(by show 0 ≤ sizeLine; decide), fun Z nZ => ?_⟩
    have sZ := same_new (H := H27) (o := .lst []) nZ
    refine ⟨.list [], .list [], .lst (SqL.of (sZ _ _ hD3)) .nil, .lst (SqL.of upd_same) .nil, by decide +kernel, by decide +kernel, ?_⟩
    have t1 : Same H9 H16 := ((sW.trans s11).trans s15).trans s16
    have t2 : Same H17 H21 := ((sW2.trans s19).trans su).trans s21
    have t3 : Same H21 (upd H27 Z (.lst [])) := (((((s22.trans s23).trans s24).trans s25).trans s26).trans s27).trans sZ
    exact q _ (((k9'.trans (kept_same t1)).trans k17).trans (kept_same (t2.trans t3)))
def spLaw (K : PySem.W.Frag) : Sp := fun vs H Q _ => ∃ (sc : Addr) (ns : List Int), vs = [.ref sc] ∧ SqL K H sc (ns.map V.int) ∧ ∀ H', Q (.bl true) H'
/-- a def's promise, from its own function object -/
theorem ok_fn {x : Str} {st : Stmt} {N ps : List Str} {k : Nat} {sp : Sp} {f : Addr} {fd : FuncData} (FD : FunD K x x (defArgs st) (defBody st) (defScope st) [] [] f fd) (S : FnScope N ps (defScope st)) (len : ∀ vs H Q E, sp vs H Q E → vs.length = ps.length)
    (hbody : ∀ (cdv : Value) (A : Around) (outer : List Env) (s : Shared) (H : Hp) (vs : List V) (Q : VK) (E : XK), Room k (A.deeper (envOfC x (defScope st) s.heap.objs.size f cdv)) → sp vs H Q E →
      ∃ t, PSs (cxOf CX0 P w K mg base N x (defScope st) f cdv A outer s H E).nox (defBody st) t ∧ t { nx := fun _ H' => Q .non H', rt := Q } (start N vs) H) : FnOk P w K mg base CX0 (k + 1) f fd ps sp := by
  refine FD.ok S len (fun cdv A outer s H vs Q E hr h => ?_)
  obtain ⟨t, h1, h2⟩ := hbody cdv A outer s H vs Q E hr h
  exact ⟨t, PSs.nox h1, h2⟩
theorem ok_law (Tx : Gm K mg) {f : Addr} {fd : FuncData} (FD : FunD K "law" "law" (defArgs st_law) (defBody st_law) (defScope st_law) [] [] f fd) : FnOk P w K mg base CX0 11 f fd ["_law_script"] (spLaw K) := by
  have c_law_purse : C8.Cal P w K mg base 1 "_law_purse" (spPurse K) [] := cal_law_purse Tx
  have c_law_right : C8.Cal P w K mg base 10 "_law_right" spRight [] := cal_law_right Tx
  refine ok_fn FD sc_law (fun vs H Q E h => ?_) (fun cdv A outer st H vs Q E hr h => ?_)
  · obtain ⟨sc, ns, rfl, _⟩ := h
    rfl
  · obtain ⟨sc, ns, rfl, hs, q⟩ := h
    refine ⟨_, (pss_one (ps_ret (pe_callB (cr_all rfl) (by rfl) Tx.n_all (by decide +kernel) (pa_cons (pe_lc (own := [("_law_k", 1)]) (by rfl) sc_law.nd (pi_range1 (by rfl) Tx.n_range (pa_cons (pe_callB (call_max2 rfl) (by rfl) Tx.n_max (by decide +kernel) (pa_cons pe_int (pa_cons (pe_callB (call_min2 rfl) (by rfl) Tx.n_min (by decide +kernel) (pa_cons (pe_callB call_len_seq (by rfl) Tx.n_len (by decide +kernel) (pa_cons (pv 0) pa_nil)) (pa_cons pe_int pa_nil))) pa_nil))) pa_nil)) (blkOk_by (own := [("_law_k", 1)]) (N := ["_law_script", "_law_k"]) (sc := defScope st_law) (by decide +kernel)) (fun _ _ _ _ _ => (pg_name (i := 1) sc_law.nd rfl (Or.inl rfl))) (fun _ _ _ _ _ => pts_nil) (fun _ _ _ _ _ => (C8.pe_c c_law_right hr (by decide) rfl (pa_cons (C8.pe_c c_law_purse hr (by decide) rfl (pa_cons (pv 0) (pa_cons (pv 1) pa_nil))) pa_nil)))) pa_nil)))), ?_⟩
    refine ⟨_, rfl, sc, _, rfl, .inl hs, _, _, rfl, _, _, rfl, _, rfl, ?_⟩
    have e1 : (ns.map V.int).length = ns.length := List.length_map ..
    generalize ((ns.map V.int).length : Int) = n at *
    generalize ez : (if (if (4 : Int) < n then (4 : Int) else n) > 2 then (if (4 : Int) < n then (4 : Int) else n) else 2) = z
    have hz : 2 ≤ z ∧ z ≤ 4 := by
      rw [← ez]
      by_cases c : (4 : Int) < n
      · rw [if_pos c]
        decide
      · rw [if_neg c]
        by_cases d : n > 2
        · rw [if_pos d]
          omega
        · rw [if_neg d]
          decide
    refine ⟨by omega, by omega, fun D nD => ?_⟩
    refine lc_range (lo := 0) (n := z.toNat) (fun i H' => Same H H' ∧ H' D = some (.lst ((List.replicate i true).map V.bl))) ⟨same_new nD, upd_same⟩ ?_ ?_
    · rintro i H' hi ⟨s1, hD⟩
      refine ⟨rfl, ?_⟩
      have e0 : (0 : Int) + (i : Int) = ((i : Nat) : Int) := by omega
      rw [e0]
      refine ⟨_, rfl, _, rfl, sc, ns, i, rfl, sql_same hs s1, by omega, fun H2 pu s2 np hp => ?_⟩
      refine ⟨pu, 0, rfl, hp, by decide, fun H3 k3 => ?_⟩
      have s3 : Same H' H3 := fun b o e => k3 b o (ne_of_none e np) (s2 b o e)
      refine ⟨_, s3 _ _ hD, ?_, same_own (s1.trans s3) nD, ?_⟩
      · rw [List.length_map, List.length_replicate]
        exact szlt (by omega)
      · rw [upd_same, List.replicate_succ', List.map_append]
        rfl
    · rintro H' ⟨s1, hD⟩
      refine ⟨D, _, rfl, SqL.of hD, ?_⟩
      have ev : ∀ m, (List.replicate m true).all id = true := fun m => by
        induction m with
        | zero => rfl
        | succ m ih => exact ih
      rw [ev]
      exact q _
end
end K48
set_option Elab.async false
set_option linter.all false
set_option maxRecDepth 100000
set_option maxHeartbeats 0
/-! The head's facts, and the row. -/
namespace K48
open PySem PySem.Spec PyProof.Rows L2
theorem dn_of {K : PySem.W.Frag} {mg : Str → Option Value} {x : Str} {st : Stmt} {f : Addr} (h : ∃ fd, FunD K x x (defArgs st) (defBody st) (defScope st) [] [] f fd) (g : mg x = some (.ref f)) : Dn K mg x st := by
  obtain ⟨fd, F⟩ := h
  exact ⟨f, fd, F, g⟩
theorem ci_of {mg : Str → Option Value} {x : Str} {i j : Int} (e : i = j) (h : ∃ t, mg x = some (.int i t)) : Ci mg x j := by
  obtain ⟨t, h⟩ := h
  subst e
  exact ⟨_, h, t, rfl⟩
theorem ins_of {K : PySem.W.Frag} {C : Addr} (cl : Cls K C) (h : insB K C = true) : C8.InsC K C := by
  obtain ⟨h1, h⟩ := Bool.and_eq_true_iff.mp h
  obtain ⟨h2, h⟩ := Bool.and_eq_true_iff.mp h
  obtain ⟨h3, h⟩ := Bool.and_eq_true_iff.mp h
  obtain ⟨h4, h5⟩ := Bool.and_eq_true_iff.mp h
  exact ⟨cl, He.eqO_ok h1, He.eqO_ok h2, of_decide_eq_true h3, of_decide_eq_true h4, of_decide_eq_true h5⟩
theorem gm_of {K : PySem.W.Frag} {h : Heap} {mg : Str → Option Value} (X : K.In h) (G : h.Ns mainGlobals mg) (ci : insB K (He.ga K "Slope") = true) (c : He.SaysD fa fn K) : Gm K mg where
  n_isinstance := He.free_ok X G (c.fact 45 (f := .free "isinstance") rfl)
  n_int := He.free_ok X G (c.fact 46 (f := .free "int") rfl)
  n_bool := He.free_ok X G (c.fact 47 (f := .free "bool") rfl)
  n_enumerate := He.free_ok X G (c.fact 48 (f := .free "enumerate") rfl)
  n_len := He.free_ok X G (c.fact 49 (f := .free "len") rfl)
  n_range := He.free_ok X G (c.fact 50 (f := .free "range") rfl)
  n_str := He.free_ok X G (c.fact 51 (f := .free "str") rfl)
  n_tuple := He.free_ok X G (c.fact 52 (f := .free "tuple") rfl)
  n_all := He.free_ok X G (c.fact 53 (f := .free "all") rfl)
  n_sorted := He.free_ok X G (c.fact 54 (f := .free "sorted") rfl)
  n_set := He.free_ok X G (c.fact 55 (f := .free "set") rfl)
  n_divmod := He.free_ok X G (c.fact 56 (f := .free "divmod") rfl)
  n_abs := He.free_ok X G (c.fact 57 (f := .free "abs") rfl)
  n_min := He.free_ok X G (c.fact 58 (f := .free "min") rfl)
  n_max := He.free_ok X G (c.fact 59 (f := .free "max") rfl)
  cPart := ci_of (by decide +kernel) (He.int_ok X G (c.fact 60 (f := .int "MOST_PART" 20) rfl))
  cLead := ci_of (by decide +kernel) (He.int_ok X G (c.fact 61 (f := .int "MOST_LEAD" 8) rfl))
  cLoop := ci_of (by decide +kernel) (He.int_ok X G (c.fact 62 (f := .int "MOST_LOOP" 12) rfl))
  cNumber := ci_of (by decide +kernel) (He.int_ok X G (c.fact 63 (f := .int "MOST_NUMBER" 1000000000000000000000000000000) rfl))
  cCorners := ci_of (by decide +kernel) (He.int_ok X G (c.fact 64 (f := .int "MOST_CORNERS" 30) rfl))
  f_is_integer := dn_of (c.def_ 0 (d := d_is_integer) rfl) (He.glo_ok X G (c.fact 0 (f := .glo "is_integer") rfl))
  f_is_between := dn_of (c.def_ 1 (d := d_is_between) rfl) (He.glo_ok X G (c.fact 1 (f := .glo "is_between") rfl))
  f_check_lead := dn_of (c.def_ 2 (d := d_check_lead) rfl) (He.glo_ok X G (c.fact 2 (f := .glo "check_lead") rfl))
  f_check_loop := dn_of (c.def_ 3 (d := d_check_loop) rfl) (He.glo_ok X G (c.fact 3 (f := .glo "check_loop") rfl))
  f_shortest_loop := dn_of (c.def_ 4 (d := d_shortest_loop) rfl) (He.glo_ok X G (c.fact 4 (f := .glo "shortest_loop") rfl))
  f_shortest := dn_of (c.def_ 5 (d := d_shortest) rfl) (He.glo_ok X G (c.fact 5 (f := .glo "shortest") rfl))
  f_listed := dn_of (c.def_ 6 (d := d_listed) rfl) (He.glo_ok X G (c.fact 6 (f := .glo "listed") rfl))
  f_check_slope := dn_of (c.def_ 7 (d := d_check_slope) rfl) (He.glo_ok X G (c.fact 7 (f := .glo "check_slope") rfl))
  f_part_at := dn_of (c.def_ 8 (d := d_part_at) rfl) (He.glo_ok X G (c.fact 8 (f := .glo "part_at") rfl))
  f_neighbours_for := dn_of (c.def_ 9 (d := d_neighbours_for) rfl) (He.glo_ok X G (c.fact 9 (f := .glo "neighbours_for") rfl))
  f_neighbours_to := dn_of (c.def_ 10 (d := d_neighbours_to) rfl) (He.glo_ok X G (c.fact 10 (f := .glo "neighbours_to") rfl))
  f_neighbours_past := dn_of (c.def_ 11 (d := d_neighbours_past) rfl) (He.glo_ok X G (c.fact 11 (f := .glo "neighbours_past") rfl))
  f_is_point := dn_of (c.def_ 12 (d := d_is_point) rfl) (He.glo_ok X G (c.fact 12 (f := .glo "is_point") rfl))
  f_check_point := dn_of (c.def_ 13 (d := d_check_point) rfl) (He.glo_ok X G (c.fact 13 (f := .glo "check_point") rfl))
  f_multiple_at := dn_of (c.def_ 14 (d := d_multiple_at) rfl) (He.glo_ok X G (c.fact 14 (f := .glo "multiple_at") rfl))
  f_whole_at := dn_of (c.def_ 15 (d := d_whole_at) rfl) (He.glo_ok X G (c.fact 15 (f := .glo "whole_at") rfl))
  f_sign_at := dn_of (c.def_ 16 (d := d_sign_at) rfl) (He.glo_ok X G (c.fact 16 (f := .glo "sign_at") rfl))
  f_check_bound := dn_of (c.def_ 17 (d := d_check_bound) rfl) (He.glo_ok X G (c.fact 17 (f := .glo "check_bound") rfl))
  f_side_of := dn_of (c.def_ 18 (d := d_side_of) rfl) (He.glo_ok X G (c.fact 18 (f := .glo "side_of") rfl))
  f_below_to := dn_of (c.def_ 19 (d := d_below_to) rfl) (He.glo_ok X G (c.fact 19 (f := .glo "below_to") rfl))
  f_above_to := dn_of (c.def_ 20 (d := d_above_to) rfl) (He.glo_ok X G (c.fact 20 (f := .glo "above_to") rfl))
  f_nearer := dn_of (c.def_ 21 (d := d_nearer) rfl) (He.glo_ok X G (c.fact 21 (f := .glo "nearer") rfl))
  f_best_to := dn_of (c.def_ 22 (d := d_best_to) rfl) (He.glo_ok X G (c.fact 22 (f := .glo "best_to") rfl))
  f_records_to := dn_of (c.def_ 23 (d := d_records_to) rfl) (He.glo_ok X G (c.fact 23 (f := .glo "records_to") rfl))
  f_greatest_below := dn_of (c.def_ 24 (d := d_greatest_below) rfl) (He.glo_ok X G (c.fact 24 (f := .glo "greatest_below") rfl))
  f_least_above := dn_of (c.def_ 25 (d := d_least_above) rfl) (He.glo_ok X G (c.fact 25 (f := .glo "least_above") rfl))
  f_best := dn_of (c.def_ 26 (d := d_best) rfl) (He.glo_ok X G (c.fact 26 (f := .glo "best") rfl))
  f_records := dn_of (c.def_ 27 (d := d_records) rfl) (He.glo_ok X G (c.fact 27 (f := .glo "records") rfl))
  f_check_side := dn_of (c.def_ 28 (d := d_check_side) rfl) (He.glo_ok X G (c.fact 28 (f := .glo "check_side") rfl))
  f_corners := dn_of (c.def_ 29 (d := d_corners) rfl) (He.glo_ok X G (c.fact 29 (f := .glo "corners") rfl))
  f_nearest_point := dn_of (c.def_ 30 (d := d_nearest_point) rfl) (He.glo_ok X G (c.fact 30 (f := .glo "nearest_point") rfl))
  f_is_corner := dn_of (c.def_ 31 (d := d_is_corner) rfl) (He.glo_ok X G (c.fact 31 (f := .glo "is_corner") rfl))
  f_law_purse := dn_of (c.def_ 32 (d := d_law_purse) rfl) (He.glo_ok X G (c.fact 32 (f := .glo "_law_purse") rfl))
  f_law_take := dn_of (c.def_ 33 (d := d_law_take) rfl) (He.glo_ok X G (c.fact 33 (f := .glo "_law_take") rfl))
  f_law_one := dn_of (c.def_ 34 (d := d_law_one) rfl) (He.glo_ok X G (c.fact 34 (f := .glo "_law_one") rfl))
  f_law_parts := dn_of (c.def_ 35 (d := d_law_parts) rfl) (He.glo_ok X G (c.fact 35 (f := .glo "_law_parts") rfl))
  f_law_rows := dn_of (c.def_ 36 (d := d_law_rows) rfl) (He.glo_ok X G (c.fact 36 (f := .glo "_law_rows") rfl))
  f_law_far := dn_of (c.def_ 37 (d := d_law_far) rfl) (He.glo_ok X G (c.fact 37 (f := .glo "_law_far") rfl))
  f_law_size := dn_of (c.def_ 38 (d := d_law_size) rfl) (He.glo_ok X G (c.fact 38 (f := .glo "_law_size") rfl))
  f_law_whole := dn_of (c.def_ 39 (d := d_law_whole) rfl) (He.glo_ok X G (c.fact 39 (f := .glo "_law_whole") rfl))
  f_law_tried := dn_of (c.def_ 40 (d := d_law_tried) rfl) (He.glo_ok X G (c.fact 40 (f := .glo "_law_tried") rfl))
  f_law_bound_right := dn_of (c.def_ 41 (d := d_law_bound_right) rfl) (He.glo_ok X G (c.fact 41 (f := .glo "_law_bound_right") rfl))
  f_law_right := dn_of (c.def_ 42 (d := d_law_right) rfl) (He.glo_ok X G (c.fact 42 (f := .glo "_law_right") rfl))
  f_law := dn_of (c.def_ 43 (d := d_law) rfl) (He.glo_ok X G (c.fact 43 (f := .glo "law") rfl))
  mgC := He.glo_ok X G (c.fact 44 (f := .glo "Slope") rfl)
  ins := ins_of (He.cls_ok (c.fact 65 (f := .cls "Slope") rfl)) ci
  nHeld := He.noat_ok (c.fact 66 (f := .noat "Slope" "held") rfl)
  nWords := He.noat_ok (c.fact 67 (f := .noat "Slope" "words") rfl)
  mkS := let ⟨fd, F⟩ := c.def_ 44 (d := d_init) rfl; ⟨_, fd, He.mkr_ok (c.fact 68 (f := .mkr "Slope") rfl), F⟩
theorem facts {P : Program} {w : World} {K : PySem.W.Frag} {h : Heap} {mg : Str → Option Value} {f : Addr} (X : K.In h) (G : h.Ns mainGlobals mg) (hfa : mg ("law" : Str) = some (.ref f)) (ci : insB K (He.ga K "Slope") = true) (c : He.SaysD fa fn K) :
    ∃ fd : FuncData, (∀ (s : Shared) (v : Value), BindsTo s fd ⟨[v], []⟩ [("_law_script", v)]) ∧ ∀ base : Heap, K.In base → base.Ns mainGlobals mg → FnOk P w K mg base CX0 11 f fd ["_law_script"] (spLaw K) := by
  obtain ⟨fd, F⟩ := c.def_ 43 (d := d_law) rfl
  have e := hfa.symm.trans (He.glo_ok X G (c.fact 43 (f := .glo "law") rfl))
  cases e
  have b := FunD.bindsA (ps := ["_law_script"]) F fun _ _ _ _ _ _ us hl => match us, hl with | [_], _ => rfl
  exact ⟨fd, fun s v => b s [v] rfl, fun base _ _ => ok_law (gm_of X G ci c) F⟩
end K48
open PySem PySem.W PySem.Calls PyProof.Rows
theorem PySem.Challenge.cw_slopeworld_k48_whole_nearest_points_besi_holds : PySem.Challenge.rw_slopeworld_k48_whole_nearest_points_besi.Holds := by
  w_on; o_law
  refine HandSHeadRun.head_any (r := OpenLaw.row PySem.Challenge.rw_slopeworld_k48_whole_nearest_points_besi) (q := view (OpenLaw.row PySem.Challenge.rw_slopeworld_k48_whole_nearest_points_besi).prog [71]) (H := K48.hk) (ob := K48.ob) (M := 6000) (loose := K48.loose) (d := HandSHeadRun.topDef (OpenLaw.row PySem.Challenge.rw_slopeworld_k48_whole_nearest_points_besi).prog 71) (kwd := []) K48.ob_eq
    (by kernel_rfl) (fun s => by kernel_rfl) K48.run (by kernel_rfl) (by kernel_rfl) (by kernel_rfl) (by rfl) (by first | assumption | decide +kernel) (by decide +kernel) ⟨rfl, rfl, rfl, rfl, rfl, by decide +kernel⟩ ?hw ?hc
  case hw => w_witness2
  case hc =>
    refine L2.walk_ofE (l := PySem.Challenge.rw_slopeworld_k48_whole_nearest_points_besi) (n := 63) (k := 11) (x := "_law_script") (CX := L2.CX0) rfl (by decide) (by kernel_rfl) ⟨rfl, by decide, by decide⟩ ?F (fun _ _ _ _ z => z)
    intro w mg fa h Y G hmg0
    obtain ⟨K, KX, ci, c⟩ := Y
    have hmg : mg ("law" : PySem.Str) = some (.ref fa) := by
      have e : (HandSHeadRun.topDef (OpenLaw.row PySem.Challenge.rw_slopeworld_k48_whole_nearest_points_besi).prog 71).name = ("law" : PySem.Str) := by kernel_rfl
      rw [← e]
      exact hmg0
    obtain ⟨fd, hb, hF⟩ := K48.facts (P := (PySem.Challenge.rw_slopeworld_k48_whole_nearest_points_besi).prog) (w := w) KX G hmg ci c
    exact ⟨K, fd, K48.spLaw K, KX, hb, fun H a ns hl _ hS => ⟨a, ns, rfl, hS, fun _ => rfl⟩, hF⟩
